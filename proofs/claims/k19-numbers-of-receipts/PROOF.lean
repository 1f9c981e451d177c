import PyProof.Rows.All
import Wide.All
import OpenK.AllK
import Wide.FinOn
import KE.KStateDown
import Lean
import HandS.ForMost
import HandS.Exc
import HandS.ExcOwn
import HandS.WordsExc
import HandS.More
import HandS.Defaults
import HandS.Property
import HandS.ClsMeth
import HandS.IsInst
import HandS.TupAny
import HandS.TupMul
import HandS.Wide
import HandS.WideBits
import HandS.Deep
import HandS.Flow
import HandS.TupSets
import HandS.Zip
import HandS.Rev
import HandS.SortOrd
import HandS.SortRule
import HandS.SortInts
import HandS.OwnEq
import HandS.Star
import HandS.MethStar
import HandS.CallLocal
import HandS.HeadHook1
import HandS.HeadHook2
import HandS.Head0
import HandS.Head1
import HandS.Head2
import HandS.HeadEnd
import HandS.HeadNt
import HandS.Lambda
import HandS.EndTab
import HandS.EndBits
import HandS.ExcCtx
import HandS.Hot
import HandS.HotCalls
import HandS.ExcIs
import PyProof.ExcBaseAll.ValueError
import HandS.HeadHook4
import HandS.Conv
import HandS.Iter
import HandS.RaiseMore
import KE.SortData
import PyProof.TupleOfSeq
import HandS.Style
import PyProof.InstNe
import HandS.SetFor
import HandS.NestedK
import KE.GoesEnum
import KE.KDictZip
import PyProof.ListNew
import HandS.Keys
import PySem.Challenge.RW_coinsplits_k19_whole_numbers_of_receipts
set_option Elab.async false
set_option linter.all false
set_option maxRecDepth 100000
set_option maxHeartbeats 4000000
/-! DL1: a layer of data over the hand layer: what a value stands for (D), the mutable objects (Mo), readings of data. -/
namespace DL
open PySem PySem.Spec PyProof.Rows L2

/-- data: what a value stands for -/
inductive D where
  | non | bl (b : Bool) | int (i : Int) | str (x : Str)
  | tup (ds : List D) | lst (ds : List D) | fro (ds : List D)
  | rule (c b : Int) | ref (a : Addr) | ty (n : String)
  | lam (q : Str) (ps : Arguments) (body : Expr) (sc : Scope)
/-- a lambda's object -/
def LamV (a c : Addr) (q : Str) (ps : Arguments) (body : Expr) (sc : Scope) : HO := .ext fun h => ∃ pm ctv, h.get? a = some (PySem.W.kla_obj "<lambda>" q ps body sc [] pm c ctv)
abbrev ruleF (c b : Int) : List (Str × V) := [(("step" : Str), V.int c), (("border" : Str), V.int b)]
abbrev ruleD (c b : Int) : List (Str × D) := [(("step" : Str), D.int c), (("border" : Str), D.int b)]
/-- a mutable object's content -/
inductive Mu where
  | lst (ds : List D)
  | dct (kvs : List (List Key × D))
  | ins (C : Addr) (fs : List (Str × D))
  | tbl (q : Str)
  | ext (φ : Addr → Hp → HO → Prop)
abbrev Mo := Addr → Option Mu
abbrev Slots := List (Option D)
def updM (μ : Mo) (a : Addr) (m : Option Mu) : Mo := fun b => if b = a then m else μ b
theorem updM_same {μ : Mo} {a : Addr} {m : Option Mu} : updM μ a m a = m := by unfold updM; rw [if_pos rfl]
theorem updM_ne {μ : Mo} {a b : Addr} {m : Option Mu} (h : b ≠ a) : updM μ a m b = μ b := by unfold updM; rw [if_neg h]

section
variable (K : PySem.W.Frag)
mutual
inductive Rp (F : Hp) : V → D → Prop
  | non : Rp F .non .non
  | bl {b : Bool} : Rp F (.bl b) (.bl b)
  | int {i : Int} : Rp F (.int i) (.int i)
  | str {x : Str} : Rp F (.str x) (.str x)
  | tup {a : Addr} {vs : List V} {ds : List D} : F a = some (.tup vs) → RpL F vs ds → Rp F (.ref a) (.tup ds)
  | lst {a : Addr} {vs : List V} {ds : List D} : F a = some (.lst vs) → RpL F vs ds → Rp F (.ref a) (.lst ds)
  | fro {a : Addr} {vs : List V} {ds : List D} : SqL K F a vs → RpL F vs ds → Rp F (.ref a) (.fro ds)
  | rule {a dx : Addr} {c b : Int} : F a = some (.ins (He.ga K "Rule") dx (ruleF c b)) → Rp F (.ref a) (.rule c b)
  | ref {a : Addr} : Rp F (.ref a) (.ref a)
  | ty {n : String} : Rp F (.ty n) (.ty n)
  | lam {a c : Addr} {q : Str} {ps : Arguments} {body : Expr} {sc : Scope} : F a = some (LamV a c q ps body sc) → F c = some (LamX.CodeO c q) → Rp F (.ref a) (.lam q ps body sc)
inductive RpL (F : Hp) : List V → List D → Prop
  | nil : RpL F [] []
  | cons {v : V} {d : D} {vs : List V} {ds : List D} : Rp F v d → RpL F vs ds → RpL F (v :: vs) (d :: ds)
end
end
section
variable {K : PySem.W.Frag} {F F' H H' : Hp}
mutual
theorem Rp.mono (s : Same F F') : ∀ {v : V} {d : D}, Rp K F v d → Rp K F' v d
  | _, _, .non => .non
  | _, _, .bl => .bl
  | _, _, .int => .int
  | _, _, .str => .str
  | _, _, .tup h r => .tup (s _ _ h) (RpL.mono s r)
  | _, _, .lst h r => .lst (s _ _ h) (RpL.mono s r)
  | _, _, .fro h r => .fro (s.seq h) (RpL.mono s r)
  | _, _, .rule h => .rule (s _ _ h)
  | _, _, .ref => .ref
  | _, _, .ty => .ty
  | _, _, .lam h h2 => .lam (s _ _ h) (s _ _ h2)
theorem RpL.mono (s : Same F F') : ∀ {vs : List V} {ds : List D}, RpL K F vs ds → RpL K F' vs ds
  | _, _, .nil => .nil
  | _, _, .cons a b => .cons (Rp.mono s a) (RpL.mono s b)
end
theorem RpL.length : ∀ {vs : List V} {ds : List D}, RpL K F vs ds → vs.length = ds.length
  | _, _, .nil => rfl
  | _, _, .cons _ b => congrArg (· + 1) b.length
theorem RpL.get : ∀ {vs : List V} {ds : List D} {i : Nat} {d : D}, RpL K F vs ds → ds[i]? = some d → ∃ v, vs[i]? = some v ∧ Rp K F v d
  | _, _, _, _, .nil, e => by simp at e
  | _, _, 0, _, .cons r _, e => by simp at e; subst e; exact ⟨_, rfl, r⟩
  | _, _, i + 1, x, .cons _ t, e => by
    obtain ⟨u, h1, h2⟩ := RpL.get (i := i) (d := x) t (by simpa using e)
    exact ⟨u, by simpa using h1, h2⟩
theorem RpL.get' : ∀ {vs : List V} {ds : List D} {i : Nat} {v : V}, RpL K F vs ds → vs[i]? = some v → ∃ d, ds[i]? = some d ∧ Rp K F v d
  | _, _, _, _, .nil, e => by simp at e
  | _, _, 0, _, .cons r _, e => by simp at e; subst e; exact ⟨_, rfl, r⟩
  | _, _, i + 1, x, .cons _ t, e => by
    obtain ⟨u, h1, h2⟩ := RpL.get' (i := i) (v := x) t (by simpa using e)
    exact ⟨u, by simpa using h1, h2⟩
theorem RpL.append : ∀ {vs ws : List V} {ds es : List D}, RpL K F vs ds → RpL K F ws es → RpL K F (vs ++ ws) (ds ++ es)
  | _, _, _, _, .nil, s => s
  | _, _, _, _, .cons r t, s => .cons r (RpL.append t s)
theorem RpL.drop : ∀ {vs : List V} {ds : List D} (n : Nat), RpL K F vs ds → RpL K F (vs.drop n) (ds.drop n)
  | _, _, 0, r => r
  | _, _, _ + 1, .nil => .nil
  | _, _, n + 1, .cons _ t => RpL.drop n t
theorem RpL.take : ∀ {vs : List V} {ds : List D} (n : Nat), RpL K F vs ds → RpL K F (vs.take n) (ds.take n)
  | _, _, 0, _ => .nil
  | _, _, _ + 1, .nil => .nil
  | _, _, n + 1, .cons r t => .cons r (RpL.take n t)
theorem RpL.set : ∀ {vs : List V} {ds : List D} (n : Nat) {v : V} {d : D}, RpL K F vs ds → Rp K F v d → RpL K F (vs.set n v) (ds.set n d)
  | _, _, _, _, _, .nil, _ => .nil
  | _, _, 0, _, _, .cons _ t, r => .cons r t
  | _, _, n + 1, _, _, .cons q t, r => .cons q (RpL.set n t r)
theorem RpL.snoc {vs : List V} {ds : List D} {v : V} {d : D} (h : RpL K F vs ds) (r : Rp K F v d) : RpL K F (vs ++ [v]) (ds ++ [d]) := h.append (.cons r .nil)
theorem RpL.reverse : ∀ {vs : List V} {ds : List D}, RpL K F vs ds → RpL K F vs.reverse ds.reverse
  | _, _, .nil => .nil
  | _, _, .cons r t => by rw [List.reverse_cons, List.reverse_cons]; exact t.reverse.snoc r
theorem RpL.dropLast {vs : List V} {ds : List D} (h : RpL K F vs ds) : RpL K F vs.dropLast ds.dropLast := by
  rw [List.dropLast_eq_take, List.dropLast_eq_take, h.length]; exact h.take _
theorem RpL.eraseIdx : ∀ {vs : List V} {ds : List D} (n : Nat), RpL K F vs ds → RpL K F (vs.eraseIdx n) (ds.eraseIdx n)
  | _, _, _, .nil => .nil
  | _, _, 0, .cons _ t => t
  | _, _, n + 1, .cons q t => .cons q (RpL.eraseIdx n t)
theorem RpL.ints : ∀ {ns : List Int} {vs : List V}, RpL K F vs (ns.map D.int) → vs = ns.map V.int
  | [], _, h => by cases h; rfl
  | n :: ns, _, h => by
    cases h with
    | cons r t => cases r; rw [RpL.ints t] <;> rfl
theorem RpL.ofInts : ∀ {ns : List Int}, RpL K F (ns.map V.int) (ns.map D.int)
  | [] => .nil
  | _ :: _ => .cons .int RpL.ofInts
theorem RpL.bls : ∀ {ns : List Bool} {vs : List V}, RpL K F vs (ns.map D.bl) → vs = ns.map V.bl
  | [], _, h => by cases h; rfl
  | n :: ns, _, h => by
    cases h with
    | cons r t => cases r; rw [RpL.bls t] <;> rfl

/-! ### the mutable objects -/
def MuAt (K : PySem.W.Frag) (F H : Hp) (a : Addr) : Mu → Prop
  | .ext φ => (∃ o, H a = some o ∧ φ a F o) ∧ ∀ F1 F2 o, Same F1 F2 → φ a F1 o → φ a F2 o
  | .tbl q => ∃ ps : Array Value, H a = some (.tbl ps) ∧ TriplesOk ps.toList ∧ ∀ (pos : Pos) (cv : Value), codeAmong pos ps.toList = some cv → ∃ c, cv = .ref c ∧ F c = some (LamX.CodeO c q)
  | .lst ds => ∃ vs, H a = some (.lst vs) ∧ RpL K F vs ds
  | .dct kvs => ∃ vks : List (List Key × V), H a = some (.dT vks) ∧ Paired (fun (p : List Key × V) (q : List Key × D) => p.1 = q.1 ∧ Rp K F p.2 q.2) vks kvs
  | .ins C fs => ∃ dx vfs, H a = some (.ins C dx vfs) ∧ Paired (fun (p : Str × V) (q : Str × D) => p.1 = q.1 ∧ Rp K F p.2 q.2) vfs fs
theorem MuAt.mono {a : Addr} {m : Mu} (s : Same F F') (e : ∀ o, H a = some o → H' a = some o) (h : MuAt K F H a m) : MuAt K F' H' a m := by
  cases m with
  | lst ds => obtain ⟨vs, h1, h2⟩ := h; exact ⟨vs, e _ h1, h2.mono s⟩
  | ext φ => obtain ⟨⟨o, h1, h2⟩, h3⟩ := h; exact ⟨⟨o, e _ h1, h3 _ _ _ s h2⟩, h3⟩
  | tbl q => obtain ⟨ps, h1, h2, h3⟩ := h; exact ⟨ps, e _ h1, h2, fun pos cv hc => let ⟨c, a, b⟩ := h3 pos cv hc; ⟨c, a, s _ _ b⟩⟩
  | dct kvs => obtain ⟨vs, h1, h2⟩ := h; exact ⟨vs, e _ h1, L2.Paired.mapP h2 fun _ _ q => ⟨q.1, q.2.mono s⟩⟩
  | ins C fs => obtain ⟨dx, vs, h1, h2⟩ := h; exact ⟨dx, vs, e _ h1, L2.Paired.mapP h2 fun _ _ q => ⟨q.1, q.2.mono s⟩⟩
theorem MuAt.some {a : Addr} {m : Mu} (h : MuAt K F H a m) : ∃ o, H a = some o := by
  cases m with
  | lst ds => obtain ⟨vs, h1, h2⟩ := h; exact ⟨_, h1⟩
  | ext φ => obtain ⟨⟨o, h1, _⟩, _⟩ := h; exact ⟨_, h1⟩
  | tbl q => obtain ⟨ps, h1, _⟩ := h; exact ⟨_, h1⟩
  | dct kvs => obtain ⟨vs, h1, h2⟩ := h; exact ⟨_, h1⟩
  | ins C fs => obtain ⟨dx, vs, h1, h2⟩ := h; exact ⟨_, h1⟩
structure RelM (K : PySem.W.Frag) (F H : Hp) (μ : Mo) : Prop where
  sub : Same F H
  mu : ∀ a m, μ a = some m → F a = none ∧ MuAt K F H a m
theorem same_upd {p : Addr} {o : HO} (h : F p = none) : Same F (upd F p o) := fun b u q => by rw [upd_ne (ne_of_none q h)]; exact q
section
variable {μ μ' : Mo} {p : Addr}
theorem RelM.freeF (R : RelM K F H μ) (h : H p = none) : F p = none := R.sub.free h
theorem RelM.freeM (R : RelM K F H μ) (h : H p = none) : μ p = none := by
  cases e : μ p with
  | none => rfl
  | some m =>
    obtain ⟨o, q⟩ := (R.mu p m e).2.some
    rw [h] at q; cases q
theorem RelM.ne (R : RelM K F H μ) (h : H p = none) {a : Addr} {m : Mu} (e : μ a = some m) : a ≠ p := fun z => by
  rw [z, R.freeM h] at e; cases e
/-- a new immutable object -/
theorem RelM.laid (R : RelM K F H μ) (h : H p = none) (o : HO) : RelM K (upd F p o) (upd H p o) μ := by
  refine ⟨fun b u q => ?_, fun a m e => ?_⟩
  · by_cases hb : b = p
    · subst hb; rw [upd_same] at q; cases q; exact upd_same
    · rw [upd_ne hb] at q ⊢; exact R.sub _ _ q
  · have ne := R.ne h e
    obtain ⟨f, q⟩ := R.mu a m e
    exact ⟨by rw [upd_ne ne]; exact f, q.mono (same_upd (R.freeF h)) fun o e' => by rw [upd_ne ne]; exact e'⟩
/-- a new thing that is not told -/
theorem RelM.other (R : RelM K F H μ) (h : H p = none) (o : HO) : RelM K F (upd H p o) μ := by
  refine ⟨fun b u q => ?_, fun a m e => ?_⟩
  · rw [upd_ne (ne_of_none q (R.freeF h))]; exact R.sub _ _ q
  · have ne := R.ne h e
    obtain ⟨f, q⟩ := R.mu a m e
    exact ⟨f, q.mono (Same.refl _) fun o e' => by rw [upd_ne ne]; exact e'⟩
/-- a new mutable object, or one that is written -/
theorem RelM.put (R : RelM K F H μ) (hF : F p = none) {o : HO} {m : Mu} (h : MuAt K F (upd H p o) p m) : RelM K F (upd H p o) (updM μ p (some m)) := by
  refine ⟨fun b u q => ?_, fun a m' e => ?_⟩
  · rw [upd_ne (ne_of_none q hF)]; exact R.sub _ _ q
  · by_cases ha : a = p
    · subst ha; rw [updM_same] at e; cases e; exact ⟨hF, h⟩
    · rw [updM_ne ha] at e
      obtain ⟨f, q⟩ := R.mu a m' e
      exact ⟨f, q.mono (Same.refl _) fun o e' => by rw [upd_ne ha]; exact e'⟩
theorem RelM.putL (R : RelM K F H μ) (hF : F p = none) {vs : List V} {ds : List D} (h : RpL K F vs ds) : RelM K F (upd H p (.lst vs)) (updM μ p (some (.lst ds))) := R.put hF ⟨vs, upd_same, h⟩
theorem RelM.drop (R : RelM K F H μ) (h : ∀ a m, μ' a = some m → μ a = some m) : RelM K F H μ' := ⟨R.sub, fun a m e => R.mu a m (h a m e)⟩
/-- a mutable list that no one changes any more -/
theorem RelM.freeze (R : RelM K F H μ) {ds : List D} (e : μ p = some (.lst ds)) : ∃ F', Same F F' ∧ RelM K F' H (updM μ p none) ∧ Rp K F' (.ref p) (.lst ds) := by
  obtain ⟨f, vs, h1, h2⟩ := R.mu p _ e
  have s := same_upd (o := .lst vs) f
  refine ⟨upd F p (.lst vs), s, ⟨fun b u q => ?_, fun a m e' => ?_⟩, .lst upd_same (h2.mono s)⟩
  · by_cases hb : b = p
    · subst hb; rw [upd_same] at q; cases q; exact h1
    · rw [upd_ne hb] at q; exact R.sub _ _ q
  · by_cases ha : a = p
    · subst ha; rw [updM_same] at e'; cases e'
    · rw [updM_ne ha] at e'
      obtain ⟨f', q⟩ := R.mu a m e'
      exact ⟨by rw [upd_ne ha]; exact f', q.mono s fun _ z => z⟩
theorem RelM.freezeR (R : RelM K F H μ) {c b : Int} (e : μ p = some (.ins (He.ga K "Rule") (ruleD c b))) : ∃ F', Same F F' ∧ RelM K F' H (updM μ p none) ∧ Rp K F' (.ref p) (.rule c b) := by
  obtain ⟨f, dx, vfs, h1, h2⟩ := R.mu p _ e
  have e2 : vfs = ruleF c b := by
    cases h2 with
    | cons r t =>
      cases t with
      | cons r2 t2 =>
        cases t2
        rename_i p1 p2
        obtain ⟨a1, b1⟩ := p1
        obtain ⟨a2, b2⟩ := p2
        obtain ⟨x1, y1⟩ := r
        obtain ⟨x2, y2⟩ := r2
        cases x1; cases x2; cases y1; cases y2
        rfl
  subst e2
  have s := same_upd (o := .ins (He.ga K "Rule") dx (ruleF c b)) f
  refine ⟨upd F p _, s, ⟨fun b' u q => ?_, fun a m e' => ?_⟩, .rule upd_same⟩
  · by_cases hb : b' = p
    · subst hb; rw [upd_same] at q; cases q; exact h1
    · rw [upd_ne hb] at q; exact R.sub _ _ q
  · by_cases ha : a = p
    · subst ha; rw [updM_same] at e'; cases e'
    · rw [updM_ne ha] at e'
      obtain ⟨f', q⟩ := R.mu a m e'
      exact ⟨by rw [upd_ne ha]; exact f', q.mono s fun _ z => z⟩
end
end

/-! ### the state at a place of a def -/
structure RelS (K : PySem.W.Frag) (F : Hp) (σ : L2.St) (δ : Slots) : Prop where
  len : σ.length = δ.length
  at_ : ∀ (i : Nat) (d : D), δ[i]? = some (some d) → ∃ v, σ[i]? = some (some v) ∧ Rp K F v d
theorem RelS.mono {K : PySem.W.Frag} {F F' : Hp} {σ : L2.St} {δ : Slots} (s : Same F F') (h : RelS K F σ δ) : RelS K F' σ δ := ⟨h.len, fun i d e => let ⟨v, h1, h2⟩ := h.at_ i d e; ⟨v, h1, h2.mono s⟩⟩
theorem RelS.set {K : PySem.W.Frag} {F : Hp} {σ : L2.St} {δ : Slots} {v : V} {d : D} (h : RelS K F σ δ) (i : Nat) (r : Rp K F v d) : RelS K F (σ.set i (some v)) (δ.set i (some d)) := by
  refine ⟨by rw [List.length_set, List.length_set, h.len], fun j x e => ?_⟩
  by_cases hj : i = j
  · subst hj
    by_cases hl : i < δ.length
    · rw [List.getElem?_set_self hl] at e
      cases e
      exact ⟨v, List.getElem?_set_self (by rw [h.len]; exact hl), r⟩
    · rw [List.getElem?_eq_none (by simpa using hl)] at e; cases e
  · rw [List.getElem?_set_ne hj] at e ⊢
    exact h.at_ j x e
theorem RelS.weak {K : PySem.W.Frag} {F : Hp} {σ : L2.St} {δ δ' : Slots} (h : RelS K F σ δ) (hl : δ'.length = δ.length) (w : ∀ (i : Nat) d, δ'[i]? = some (some d) → δ[i]? = some (some d)) : RelS K F σ δ' :=
  ⟨by rw [h.len, hl], fun i d e => h.at_ i d (w i d e)⟩
/-- what a frame's caller knows and wants: the floor, the exception's wish -/
structure Gx (K : PySem.W.Frag) where
  Φ : Hp
  E : XK
  ξ : Addr → Mo → Prop
  ok : ∀ F H μ c, Same Φ F → RelM K F H μ → ξ c μ → E (.ref c) none H
/-- within a comprehension: nothing is raised -/
def Gx.blk {K : PySem.W.Frag} (G : Gx K) : Gx K := ⟨G.Φ, E0, fun _ _ => False, fun _ _ _ _ _ _ h => h⟩
structure Rel (K : PySem.W.Frag) (G : Gx K) (F H : Hp) (σ : L2.St) (δ : Slots) (μ : Mo) : Prop where
  fl : Same G.Φ F
  m : RelM K F H μ
  s : RelS K F σ δ
theorem Rel.to {K : PySem.W.Frag} {G : Gx K} {F F' H H' : Hp} {σ : L2.St} {δ : Slots} {μ μ' : Mo} (R : Rel K G F H σ δ μ) (s : Same F F') (m : RelM K F' H' μ') : Rel K G F' H' σ δ μ' := ⟨R.fl.trans s, m, R.s.mono s⟩

abbrev DK := D → Mo → Prop
abbrev DE := Slots → Mo → DK → Prop
abbrev DT := Slots → Mo → (Bool → Mo → Prop) → Prop
abbrev DA := Slots → Mo → (List D → Mo → Prop) → Prop
structure DEnds where
  nx : Slots → Mo → Prop
  rt : DK
  bk : Slots → Mo → Prop := fun _ _ => False
  ct : Slots → Mo → Prop := fun _ _ => False
abbrev DS := DEnds → Slots → Mo → Prop
abbrev DG := D → Slots → Mo → (Slots → Mo → Prop) → Prop

section
variable (K : PySem.W.Frag) (G : Gx K)
def SimE (te : TE) (d : DE) : Prop := ∀ (F H : Hp) (σ : L2.St) (δ : Slots) (μ : Mo) (Q' : DK) (Q : VK), Rel K G F H σ δ μ → d δ μ Q' →
  (∀ F' H' μ' v x, Same F F' → Rel K G F' H' σ δ μ' → Rp K F' v x → Q' x μ' → Q v H') → te σ H Q
def SimT (t : TT) (d : DT) : Prop := ∀ (F H : Hp) (σ : L2.St) (δ : Slots) (μ : Mo) (Q' : Bool → Mo → Prop) (Q : Bool → Hp → Prop), Rel K G F H σ δ μ → d δ μ Q' →
  (∀ F' H' μ' b, Same F F' → Rel K G F' H' σ δ μ' → Q' b μ' → Q b H') → t σ H Q
def SimA (t : TA) (d : DA) : Prop := ∀ (F H : Hp) (σ : L2.St) (δ : Slots) (μ : Mo) (Q' : List D → Mo → Prop) (Q : List V → Hp → Prop), Rel K G F H σ δ μ → d δ μ Q' →
  (∀ F' H' μ' vs xs, Same F F' → Rel K G F' H' σ δ μ' → RpL K F' vs xs → Q' xs μ' → Q vs H') → t σ H Q
structure EndsOk (F : Hp) (D' : DEnds) (D : Ends) : Prop where
  nx : ∀ F' H' σ' δ' μ', Same F F' → Rel K G F' H' σ' δ' μ' → D'.nx δ' μ' → D.nx σ' H'
  rt : ∀ F' H' μ' v x, Same F F' → RelM K F' H' μ' → Rp K F' v x → D'.rt x μ' → D.rt v H'
  bk : ∀ F' H' σ' δ' μ', Same F F' → Rel K G F' H' σ' δ' μ' → D'.bk δ' μ' → D.bk σ' H'
  ct : ∀ F' H' σ' δ' μ', Same F F' → Rel K G F' H' σ' δ' μ' → D'.ct δ' μ' → D.ct σ' H'
def SimS (t : TS) (d : DS) : Prop := ∀ (F H : Hp) (σ : L2.St) (δ : Slots) (μ : Mo) (D' : DEnds) (D : Ends), Rel K G F H σ δ μ → d D' δ μ → EndsOk K G F D' D → t D σ H
/-- is: the slots that the target stores -/
def WipeEq (is : List Nat) (σ σ2 : L2.St) : Prop := ∀ vs : List Nat, (∀ i ∈ is, i ∈ vs) → wipe σ2 vs = wipe σ vs
def SimG (is : List Nat) (t : TG) (d : DG) : Prop := ∀ (F H : Hp) (σ : L2.St) (δ : Slots) (μ : Mo) (v : V) (x : D) (Q' : Slots → Mo → Prop) (Q : L2.St → Hp → Prop), Rel K G F H σ δ μ → Rp K F v x → d x δ μ Q' →
  (∀ F' H' σ' δ' μ', Same F F' → Rel K G F' H' σ' δ' μ' → WipeEq is σ σ' → Q' δ' μ' → Q σ' H') → t v σ H Q
end
theorem EndsOk.mono {K : PySem.W.Frag} {G : Gx K} {F F' : Hp} {D' : DEnds} {D : Ends} (s : Same F F') (h : EndsOk K G F D' D) : EndsOk K G F' D' D :=
  ⟨fun F1 H1 σ1 δ1 μ1 s1 => h.nx F1 H1 σ1 δ1 μ1 (s.trans s1), fun F1 H1 μ1 v x s1 => h.rt F1 H1 μ1 v x (s.trans s1), fun F1 H1 σ1 δ1 μ1 s1 => h.bk F1 H1 σ1 δ1 μ1 (s.trans s1), fun F1 H1 σ1 δ1 μ1 s1 => h.ct F1 H1 σ1 δ1 μ1 (s.trans s1)⟩

/-! ### judgements -/
structure XE (X : Cx) (G : Gx X.K) (e : Expr) (d : DE) : Prop where
  ex : ∃ t, PE X e t ∧ SimE X.K G t d
structure XT (X : Cx) (G : Gx X.K) (e : Expr) (d : DT) : Prop where
  ex : ∃ t, PT X e t ∧ SimT X.K G t d
structure XW (X : Cx) (G : Gx X.K) (e : Expr) (d : DT) : Prop where
  ex : ∃ t, PW X e t ∧ SimT X.K G t d
structure XA (X : Cx) (G : Gx X.K) (es : List Expr) (d : DA) : Prop where
  ex : ∃ t, PA X es t ∧ SimA X.K G t d
structure XS (X : Cx) (G : Gx X.K) (st : Stmt) (d : DS) : Prop where
  ex : ∃ t, PS X st t ∧ SimS X.K G t d
structure XSs (X : Cx) (G : Gx X.K) (st : List Stmt) (d : DS) : Prop where
  ex : ∃ t, PSs X st t ∧ SimS X.K G t d
structure XG (X : Cx) (G : Gx X.K) (tg : Expr) (is : List Nat) (d : DG) : Prop where
  ex : ∃ t, PG X tg t ∧ SimG X.K G is t d

/-! ### names, constants -/
def dVar (i : Nat) : DE := fun δ μ Q => ∃ d, δ[i]? = some (some d) ∧ Q d μ
def dC (x : D) : DE := fun _ μ Q => Q x μ
section
variable {X : Cx} {G : Gx X.K}
theorem xv (i : Nat) {x : Str} {pos : Pos} (hN : X.N[i]? = some x := by rfl) (hv : Vis X.env.scope x := by first | exact Or.inl rfl | exact Or.inr (Or.inl rfl) | exact Or.inr (Or.inr rfl)) (hd : (x == ("__debug__" : Str)) = false := by decide)
    (hcd : (x == ("__classdict__" : Str)) = false := by decide) : XE X G (.Name x pos) (dVar i) :=
  ⟨_, pv i hN hv hd hcd, fun F H σ δ μ Q' Q R h k => by
    obtain ⟨d, e, q⟩ := h
    obtain ⟨v, e1, r⟩ := R.s.at_ i d e
    exact ⟨v, e1, k F H μ v d (Same.refl _) R r q⟩⟩
theorem simC {v : V} {x : D} (r : ∀ F, Rp X.K F v x) : SimE X.K G (tC v) (dC x) := fun F H σ δ μ Q' Q R h k => k F H μ v x (Same.refl _) R (r F) h
theorem xe_int {i j pos} : XE X G (.Constant (.int i) j pos) (dC (.int i)) := ⟨_, pe_int, simC fun _ => .int⟩
theorem xe_bl {b j pos} : XE X G (.Constant (.bool b) j pos) (dC (.bl b)) := ⟨_, pe_bl, simC fun _ => .bl⟩
theorem xe_non {j pos} : XE X G (.Constant .none j pos) (dC .non) := ⟨_, pe_non, simC fun _ => .non⟩
theorem xe_str {x j pos} : XE X G (.Constant (.str x) j pos) (dC (.str x)) := ⟨_, pe_str, simC fun _ => .str⟩
theorem xe_glob {x : Str} {v : V} {z : D} {u : Value} {pos : Pos} (hm : X.mg x = some u) (r : RelV v u) (rz : ∀ F, Rp X.K F v z) (hg : Gl X x := by rfl) (hd : (x == ("__debug__" : Str)) = false := by decide) : XE X G (.Name x pos) (dC z) := ⟨_, pe_glob hg hm r hd, simC rz⟩
/-- a module's int -/
theorem xe_gint {x : Str} {i : Int} {pos : Pos} (hm : ∃ t, X.mg x = some (.int i t)) (hg : Gl X x := by rfl) (hd : (x == ("__debug__" : Str)) = false := by decide) : XE X G (.Name x pos) (dC (.int i)) := by
  obtain ⟨t, e⟩ := hm
  exact xe_glob (v := .int i) e ⟨t, rfl⟩ (fun _ => .int) hg hd
/-- a def or a class as a value -/
theorem xe_gref {x : Str} {a : Addr} {pos : Pos} (hm : X.mg x = some (.ref a)) (hg : Gl X x := by rfl) (hd : (x == ("__debug__" : Str)) = false := by decide) : XE X G (.Name x pos) (dC (.ref a)) := xe_glob (v := .ref a) hm rfl (fun _ => .ref) hg hd
/-- a built-in class as a value -/
theorem xe_bty {x : Str} {n : String} {pos : Pos} (hm : X.mg x = none) (hv : bootBuiltins x = some (.type n)) (hg : Gl X x := by rfl) (hn : x ≠ "__name__" := by decide) (hd : (x == ("__debug__" : Str)) = false := by decide) : XE X G (.Name x pos) (dC (.ty n)) := ⟨_, pe_bltn hg hm hv (v := .ty n) rfl hn hd, simC fun _ => .ty⟩

/-! ### arguments, displays -/
def dNil : DA := fun _ μ Q => Q [] μ
def dCons (da : DE) (dr : DA) : DA := fun δ μ Q => da δ μ fun x μ1 => dr δ μ1 fun xs μ2 => Q (x :: xs) μ2
variable {e a b c : Expr} {es : List Expr} {da db dc : DE} {dr : DA} {pos : Pos} {tA tB' : DT}
theorem xa_nil : XA X G [] dNil := ⟨_, pa_nil, fun F H σ δ μ Q' Q R h k => k F H μ [] [] (Same.refl _) R .nil h⟩
theorem sim_cons {ta : TE} {tr : TA} (ha : SimE X.K G ta da) (hr : SimA X.K G tr dr) : SimA X.K G (tCons ta tr) (dCons da dr) := fun F H σ δ μ Q' Q R h k =>
  ha F H σ δ μ _ _ R h fun F1 H1 μ1 v x s1 R1 r1 q1 => hr F1 H1 σ δ μ1 _ _ R1 q1 fun F2 H2 μ2 vs xs s2 R2 r2 q2 => k F2 H2 μ2 _ _ (s1.trans s2) R2 (.cons (r1.mono s2) r2) q2
theorem xa_cons (ha : XE X G e da) (hr : XA X G es dr) (hs : starEach (e :: es) X.env = (false, eval e X.env) :: starEach es X.env := by rfl) : XA X G (e :: es) (dCons da dr) := by
  obtain ⟨ta, pa, sa⟩ := ha
  obtain ⟨tr, pr, sr⟩ := hr
  exact ⟨_, pa_cons pa pr hs, sim_cons sa sr⟩
def dTup (d : DA) : DE := fun δ μ Q => d δ μ fun xs μ1 => xs.length ≤ sizeLine ∧ Q (.tup xs) μ1
/-- a list that is not changed any more -/
def dLst (d : DA) : DE := fun δ μ Q => d δ μ fun xs μ1 => xs.length ≤ sizeLine ∧ Q (.lst xs) μ1
/-- a list that may change -/
def dLstM (d : DA) : DE := fun δ μ Q => d δ μ fun xs μ1 => xs.length ≤ sizeLine ∧ ∀ p, μ1 p = none → Q (.ref p) (updM μ1 p (some (.lst xs)))
theorem xe_tup {k1} (h : XA X G es dr) : XE X G (.Tuple es k1 pos) (dTup dr) := by
  obtain ⟨t, p, s⟩ := h
  refine ⟨_, pe_tup p, fun F H σ δ μ Q' Q R h k => s F H σ δ μ _ _ R h fun F1 H1 μ1 vs xs s1 R1 r1 ⟨z, q1⟩ => ⟨by rw [r1.length]; exact z, fun a ha => ?_⟩⟩
  have s2 := same_upd (o := .tup vs) (R1.m.freeF ha)
  exact k _ _ μ1 _ _ (s1.trans s2) (R1.to s2 (R1.m.laid ha _)) (.tup upd_same (r1.mono s2)) q1
theorem xe_lst (h : XA X G es dr) : XE X G (.List es pos) (dLst dr) := by
  obtain ⟨t, p, s⟩ := h
  refine ⟨_, pe_lst p, fun F H σ δ μ Q' Q R h k => s F H σ δ μ _ _ R h fun F1 H1 μ1 vs xs s1 R1 r1 ⟨z, q1⟩ => ⟨by rw [r1.length]; exact z, fun a ha => ?_⟩⟩
  have s2 := same_upd (o := .lst vs) (R1.m.freeF ha)
  exact k _ _ μ1 _ _ (s1.trans s2) (R1.to s2 (R1.m.laid ha _)) (.lst upd_same (r1.mono s2)) q1
theorem xe_lstM (h : XA X G es dr) : XE X G (.List es pos) (dLstM dr) := by
  obtain ⟨t, p, s⟩ := h
  refine ⟨_, pe_lst p, fun F H σ δ μ Q' Q R h k => s F H σ δ μ _ _ R h fun F1 H1 μ1 vs xs s1 R1 r1 ⟨z, q1⟩ => ⟨by rw [r1.length]; exact z, fun a ha => ?_⟩⟩
  exact k _ _ _ _ _ s1 (R1.to (Same.refl _) (R1.m.putL (R1.m.freeF ha) r1)) .ref (q1 a (R1.m.freeM ha))

/-! ### tests -/
def dB (d : DE) : DT := fun δ μ Q => d δ μ fun x μ1 => ∃ c, x = .bl c ∧ Q c μ1
def dAnd (t u : DT) : DT := fun δ μ Q => t δ μ fun c μ1 => if c = true then u δ μ1 Q else Q false μ1
def dOr (t u : DT) : DT := fun δ μ Q => t δ μ fun c μ1 => if c = true then Q true μ1 else u δ μ1 Q
def dNot (t : DT) : DT := fun δ μ Q => t δ μ fun c μ1 => Q (!c) μ1
def dAndV (da db : DE) : DE := fun δ μ Q => da δ μ fun x μ1 => ∃ c, x = .bl c ∧ if c = true then db δ μ1 Q else Q (.bl false) μ1
def dOrV (da db : DE) : DE := fun δ μ Q => da δ μ fun x μ1 => ∃ c, x = .bl c ∧ if c = true then Q (.bl true) μ1 else db δ μ1 Q
def dNotV (da : DE) : DE := fun δ μ Q => da δ μ fun x μ1 => ∃ c, x = .bl c ∧ Q (.bl (!c)) μ1
def dIf (t : DT) (da db : DE) : DE := fun δ μ Q => t δ μ fun c μ1 => if c = true then da δ μ1 Q else db δ μ1 Q
theorem simB {t : TE} {d : DE} (h : SimE X.K G t d) : SimT X.K G (tB t) (dB d) := fun F H σ δ μ Q' Q R q k =>
  h F H σ δ μ _ _ R q fun F1 H1 μ1 v x s1 R1 r1 ⟨c, e, q1⟩ => by
    subst e
    cases r1
    exact ⟨c, rfl, k F1 H1 μ1 c s1 R1 q1⟩
theorem xt_val (h : XE X G e da) (he : ∀ whole, isTrue e X.env whole = (do let v ← whole; standAt e.pos; holding [v] (truthy v)) := by intro _; rfl) : XT X G e (dB da) := by
  obtain ⟨t, p, s⟩ := h
  exact ⟨_, pt_val p he, simB s⟩
theorem xt_not (h : XT X G a tA) : XT X G (.UnaryOp .Not a pos) (dNot tA) := by
  obtain ⟨t, p, s⟩ := h
  exact ⟨_, pt_not p, fun F H σ δ μ Q' Q R q k => s F H σ δ μ _ _ R q fun F1 H1 μ1 c s1 R1 q1 => k F1 H1 μ1 (!c) s1 R1 q1⟩
variable {rest : List Expr}
theorem xw_and1 (h : XT X G a tA) : XW X G (.BoolOp .And [a] pos) tA := by
  obtain ⟨t, p, s⟩ := h
  exact ⟨_, pw_and1 p, s⟩
theorem xw_or1 (h : XT X G a tA) : XW X G (.BoolOp .Or [a] pos) tA := by
  obtain ⟨t, p, s⟩ := h
  exact ⟨_, pw_or1 p, s⟩
theorem xw_and (ha : XT X G a tA) (hb : XW X G (.BoolOp .And (b :: rest) pos) tB') : XW X G (.BoolOp .And (a :: b :: rest) pos) (dAnd tA tB') := by
  obtain ⟨t, p, s⟩ := ha
  obtain ⟨u, q, z⟩ := hb
  refine ⟨_, pw_and p q, fun F H σ δ μ Q' Q R h k => s F H σ δ μ _ _ R h fun F1 H1 μ1 c s1 R1 q1 => ?_⟩
  cases c with
  | true => exact z F1 H1 σ δ μ1 _ _ R1 q1 fun F2 H2 μ2 b s2 R2 q2 => k F2 H2 μ2 b (s1.trans s2) R2 q2
  | false => exact k F1 H1 μ1 false s1 R1 q1
theorem xw_or (ha : XT X G a tA) (hb : XW X G (.BoolOp .Or (b :: rest) pos) tB') : XW X G (.BoolOp .Or (a :: b :: rest) pos) (dOr tA tB') := by
  obtain ⟨t, p, s⟩ := ha
  obtain ⟨u, q, z⟩ := hb
  refine ⟨_, pw_or p q, fun F H σ δ μ Q' Q R h k => s F H σ δ μ _ _ R h fun F1 H1 μ1 c s1 R1 q1 => ?_⟩
  cases c with
  | true => exact k F1 H1 μ1 true s1 R1 q1
  | false => exact z F1 H1 σ δ μ1 _ _ R1 q1 fun F2 H2 μ2 b s2 R2 q2 => k F2 H2 μ2 b (s1.trans s2) R2 q2
theorem XW.pt (h : XW X G e tA) : XT X G e tA := let ⟨t, p, s⟩ := h; ⟨t, p.pt, s⟩
theorem xe_one {op} (h : XE X G a da) : XE X G (.BoolOp op [a] pos) da := let ⟨t, p, s⟩ := h; ⟨t, pe_one p, s⟩
theorem xe_and (ha : XE X G a da) (hb : XE X G (.BoolOp .And (b :: rest) pos) db) : XE X G (.BoolOp .And (a :: b :: rest) pos) (dAndV da db) := by
  obtain ⟨t, p, s⟩ := ha
  obtain ⟨u, q, z⟩ := hb
  refine ⟨_, pe_and p q, fun F H σ δ μ Q' Q R h k => s F H σ δ μ _ _ R h fun F1 H1 μ1 v x s1 R1 r1 ⟨c, e, q1⟩ => ?_⟩
  subst e
  cases r1
  refine ⟨c, rfl, ?_⟩
  cases c with
  | true => exact z F1 H1 σ δ μ1 _ _ R1 q1 fun F2 H2 μ2 v x s2 R2 r2 q2 => k F2 H2 μ2 v x (s1.trans s2) R2 r2 q2
  | false => exact k F1 H1 μ1 _ _ s1 R1 .bl q1
theorem xe_or (ha : XE X G a da) (hb : XE X G (.BoolOp .Or (b :: rest) pos) db) : XE X G (.BoolOp .Or (a :: b :: rest) pos) (dOrV da db) := by
  obtain ⟨t, p, s⟩ := ha
  obtain ⟨u, q, z⟩ := hb
  refine ⟨_, pe_or p q, fun F H σ δ μ Q' Q R h k => s F H σ δ μ _ _ R h fun F1 H1 μ1 v x s1 R1 r1 ⟨c, e, q1⟩ => ?_⟩
  subst e
  cases r1
  refine ⟨c, rfl, ?_⟩
  cases c with
  | true => exact k F1 H1 μ1 _ _ s1 R1 .bl q1
  | false => exact z F1 H1 σ δ μ1 _ _ R1 q1 fun F2 H2 μ2 v x s2 R2 r2 q2 => k F2 H2 μ2 v x (s1.trans s2) R2 r2 q2
theorem xe_not (ha : XE X G a da) : XE X G (.UnaryOp .Not a pos) (dNotV da) := by
  obtain ⟨t, p, s⟩ := ha
  refine ⟨_, pe_not p, fun F H σ δ μ Q' Q R h k => s F H σ δ μ _ _ R h fun F1 H1 μ1 v x s1 R1 r1 ⟨c, e, q1⟩ => ?_⟩
  subst e
  cases r1
  exact ⟨c, rfl, k F1 H1 μ1 _ _ s1 R1 .bl q1⟩
theorem xe_ifExp (hc : XT X G c tA) (ha : XE X G a da) (hb : XE X G b db) : XE X G (.IfExp c a b pos) (dIf tA da db) := by
  obtain ⟨t, p, s⟩ := hc
  obtain ⟨u, q, z⟩ := ha
  obtain ⟨w, q', z'⟩ := hb
  refine ⟨_, pe_ifExp p q q', fun F H σ δ μ Q' Q R h k => s F H σ δ μ _ _ R h fun F1 H1 μ1 c s1 R1 q1 => ?_⟩
  cases c with
  | true => exact z F1 H1 σ δ μ1 _ _ R1 q1 fun F2 H2 μ2 v x s2 R2 r2 q2 => k F2 H2 μ2 v x (s1.trans s2) R2 r2 q2
  | false => exact z' F1 H1 σ δ μ1 _ _ R1 q1 fun F2 H2 μ2 v x s2 R2 r2 q2 => k F2 H2 μ2 v x (s1.trans s2) R2 r2 q2
end
end DL

/-! DL2: operators, subscripts, slices, built-in calls, by data. -/
namespace DL
open PySem PySem.Spec PyProof.Rows L2

/-! ### data as the library's data -/
mutual
def toPy : D → Option PyData
  | .non => some .none
  | .bl b => some (.bool b)
  | .int i => some (.int i)
  | .str x => some (.str x)
  | .tup ds => (toPyL ds).map .tuple
  | .lst ds => (toPyL ds).map .list
  | .fro _ => none
  | .rule _ _ => none
  | .ref _ => none
  | .ty _ => none
  | .lam _ _ _ _ => none
def toPyL : List D → Option (List PyData)
  | [] => some []
  | d :: ds => match toPy d, toPyL ds with
    | some p, some ps => some (p :: ps)
    | _, _ => none
end
section
variable {K : PySem.W.Frag} {F H : Hp}
mutual
theorem Rp.dp (s : Same F H) : ∀ (d : D) {v : V} {p : PyData}, Rp K F v d → toPy d = some p → Dp K H v p
  | .non, _, _, h, e => by simp only [toPy] at e; cases e; cases h; exact .non
  | .bl _, _, _, h, e => by simp only [toPy] at e; cases e; cases h; exact .bl _
  | .int _, _, _, h, e => by simp only [toPy] at e; cases e; cases h; exact .int _
  | .str _, _, _, h, e => by simp only [toPy] at e; cases e; cases h; exact .str _
  | .tup ds, _, _, h, e => by
    simp only [toPy] at e
    cases q : toPyL ds with
    | none => rw [q] at e; cases e
    | some ps =>
      rw [q] at e; cases e
      cases h with
      | tup h r => exact .tup (SqT.of (s _ _ h)) (RpL.dp s ds r q)
  | .lst ds, _, _, h, e => by
    simp only [toPy] at e
    cases q : toPyL ds with
    | none => rw [q] at e; cases e
    | some ps =>
      rw [q] at e; cases e
      cases h with
      | lst h r => exact .lst (SqL.of (s _ _ h)) (RpL.dp s ds r q)
  | .fro _, _, _, _, e => by simp only [toPy] at e; cases e
  | .rule _ _, _, _, _, e => by simp only [toPy] at e; cases e
  | .ref _, _, _, _, e => by simp only [toPy] at e; cases e
  | .ty _, _, _, _, e => by simp only [toPy] at e; cases e
  | .lam _ _ _ _, _, _, _, e => by simp only [toPy] at e; cases e
theorem RpL.dp (s : Same F H) : ∀ (ds : List D) {vs : List V} {ps : List PyData}, RpL K F vs ds → toPyL ds = some ps → DpAll K H vs ps
  | [], _, _, h, e => by simp only [toPyL] at e; cases e; cases h; exact .nil
  | d :: ds, _, _, h, e => by
    simp only [toPyL] at e
    cases h with
    | cons r t =>
      cases q : toPy d with
      | none => rw [q] at e; cases e
      | some p =>
        cases q2 : toPyL ds with
        | none => rw [q, q2] at e; cases e
        | some ps =>
          rw [q, q2] at e
          cases e
          exact .cons (Rp.dp s d r q) (RpL.dp s ds t q2)
end
end

/-! ### operators by data -/
abbrev DO := D → D → Mo → DK → Prop
def SimR (K : PySem.W.Frag) (r : R2) (f : DO) : Prop := ∀ (F H : Hp) (μ : Mo) (v w : V) (x y : D) (Q' : DK) (Q : VK), RelM K F H μ → Rp K F v x → Rp K F w y → f x y μ Q' →
  (∀ F' H' μ' u z, Same F F' → RelM K F' H' μ' → Rp K F' u z → Q' z μ' → Q u H') → r v w H Q
def dOp (f : DO) (da db : DE) : DE := fun δ μ Q => da δ μ fun x μ1 => db δ μ1 fun y μ2 => f x y μ2 Q
structure XO (X : Cx) (fv : Value → Value → Sem Value) (f : DO) : Prop where
  ex : ∃ r, OpR X fv r ∧ SimR X.K r f
section
variable {X : Cx} {G : Gx X.K} {a b c : Expr} {da db dc : DE} {pos : Pos} {f f' : DO}
theorem sim_op {ta tb : TE} {r : R2} (ho : SimR X.K r f) (sa : SimE X.K G ta da) (sb : SimE X.K G tb db) : SimE X.K G (tOp r ta tb) (dOp f da db) := fun F H σ δ μ Q' Q R h k =>
  sa F H σ δ μ _ _ R h fun F1 H1 μ1 v x s1 R1 r1 q1 => sb F1 H1 σ δ μ1 _ _ R1 q1 fun F2 H2 μ2 w y s2 R2 r2 q2 =>
    ho F2 H2 μ2 v w x y Q' Q R2.m (r1.mono s2) r2 q2 fun F3 H3 μ3 u z s3 R3 r3 q3 => k F3 H3 μ3 u z ((s1.trans s2).trans s3) (R2.to s3 R3) r3 q3
theorem xe_op {op : Operator} (ho : XO X (binaryOp op) f) (ha : XE X G a da) (hb : XE X G b db) : XE X G (.BinOp a op b pos) (dOp f da db) := by
  obtain ⟨r, hr, sr⟩ := ho
  obtain ⟨ta, pa, sa⟩ := ha
  obtain ⟨tb, pb, sb⟩ := hb
  exact ⟨_, pe_op hr pa pb, sim_op sr sa sb⟩
theorem xe_cmp {op : CmpOp} (ho : XO X (compareOp op) f) (ha : XE X G a da) (hb : XE X G b db) (hm : behindInMarks op b = false) : XE X G (.Compare a [op] [b] pos) (dOp f da db) := by
  obtain ⟨r, hr, sr⟩ := ho
  obtain ⟨ta, pa, sa⟩ := ha
  obtain ⟨tb, pb, sb⟩ := hb
  exact ⟨_, pe_cmpR hr pa pb hm, sim_op sr sa sb⟩
theorem simTest {t : TE} {d : DE} (h : SimE X.K G t d) : SimT X.K G (tTest t) (dB d) := fun F H σ δ μ Q' Q R q k =>
  h F H σ δ μ _ _ R q fun F1 H1 μ1 v x s1 R1 r1 ⟨c, e, q1⟩ => by
    subst e
    cases r1
    exact ⟨c, rfl, k F1 H1 μ1 c s1 R1 q1⟩
theorem xt_cmp {op : CmpOp} (ho : XO X (compareOp op) f) (ha : XE X G a da) (hb : XE X G b db) (hm : behindInMarks op b = false) : XT X G (.Compare a [op] [b] pos) (dB (dOp f da db)) := by
  obtain ⟨r, hr, sr⟩ := ho
  obtain ⟨ta, pa, sa⟩ := ha
  obtain ⟨tb, pb, sb⟩ := hb
  exact ⟨_, pt_cmpR hr pa pb hm, simTest (sim_op sr sa sb)⟩
def dChain (f f' : DO) (da db dc : DE) : DE := fun δ μ Q => da δ μ fun x μ1 => db δ μ1 fun y μ2 => f x y μ2 fun z μ3 => ∃ k, z = .bl k ∧
  (if k = true then dc δ μ3 fun w μ4 => f' y w μ4 Q else Q (.bl false) μ3)
theorem sim_chain {ta tb tc : TE} {r r' : R2} (ho : SimR X.K r f) (ho' : SimR X.K r' f') (sa : SimE X.K G ta da) (sb : SimE X.K G tb db) (sc : SimE X.K G tc dc) : SimE X.K G (tChain r r' ta tb tc) (dChain f f' da db dc) := by
  intro F H σ δ μ Q' Q R h k
  refine sa F H σ δ μ _ _ R h fun F1 H1 μ1 v x s1 R1 r1 q1 => ?_
  refine sb F1 H1 σ δ μ1 _ _ R1 q1 fun F2 H2 μ2 w y s2 R2 r2 q2 => ?_
  refine ho F2 H2 μ2 v w x y _ _ R2.m (r1.mono s2) r2 q2 fun F3 H3 μ3 u z s3 R3 r3 q3 => ?_
  obtain ⟨kk, e, q3⟩ := q3
  subst e
  cases r3
  refine ⟨kk, rfl, ?_⟩
  have R3' := R2.to s3 R3
  cases kk with
  | false => exact k F3 H3 μ3 _ _ ((s1.trans s2).trans s3) R3' .bl q3
  | true =>
    refine sc F3 H3 σ δ μ3 _ _ R3' q3 fun F4 H4 μ4 w' y' s4 R4 r4 q4 => ?_
    refine ho' F4 H4 μ4 _ _ _ _ Q' Q R4.m ((r2.mono s3).mono s4) r4 q4 fun F5 H5 μ5 u5 z5 s5 R5 r5 q5 => ?_
    exact k F5 H5 μ5 u5 z5 ((((s1.trans s2).trans s3).trans s4).trans s5) (R4.to s5 R5) r5 q5
theorem xe_chain {op op' : CmpOp} (ho : XO X (compareOp op) f) (ho' : XO X (compareOp op') f') (ha : XE X G a da) (hb : XE X G b db) (hc : XE X G c dc)
    (hm : lastMarks [op, op'] [b, c] = false := by with_unfolding_all rfl) : XE X G (.Compare a [op, op'] [b, c] pos) (dChain f f' da db dc) := by
  obtain ⟨r, hr, sr⟩ := ho
  obtain ⟨r', hr', sr'⟩ := ho'
  obtain ⟨ta, pa, sa⟩ := ha
  obtain ⟨tb, pb, sb⟩ := hb
  obtain ⟨tc, pc, sc⟩ := hc
  exact ⟨_, pe_chain hr hr' pa pb pc hm, sim_chain sr sr' sa sb sc⟩
theorem xt_chain {op op' : CmpOp} (ho : XO X (compareOp op) f) (ho' : XO X (compareOp op') f') (ha : XE X G a da) (hb : XE X G b db) (hc : XE X G c dc)
    (hm : lastMarks [op, op'] [b, c] = false := by with_unfolding_all rfl) : XT X G (.Compare a [op, op'] [b, c] pos) (dB (dChain f f' da db dc)) := by
  obtain ⟨r, hr, sr⟩ := ho
  obtain ⟨r', hr', sr'⟩ := ho'
  obtain ⟨ta, pa, sa⟩ := ha
  obtain ⟨tb, pb, sb⟩ := hb
  obtain ⟨tc, pc, sc⟩ := hc
  exact ⟨_, pt_chain hr hr' pa pb pc hm, simTest (sim_chain sr sr' sa sb sc)⟩

/-! ### the operators -/
/-- two ints under a condition -/
def fI (C : Int → Int → Prop) (g : Int → Int → D) : DO := fun x y μ Q => ∃ i j, x = .int i ∧ y = .int j ∧ C i j ∧ Q (g i j) μ
def fI0 (g : Int → Int → D) : DO := fun x y μ Q => ∃ i j, x = .int i ∧ y = .int j ∧ Q (g i j) μ
theorem simI {K : PySem.W.Frag} {C : Int → Int → Prop} {g : Int → Int → V} {g' : Int → Int → D} (hg : ∀ F i j, Rp K F (g i j) (g' i j)) : SimR K (rI C g) (fI C g') := fun F H μ v w x y Q' Q R r1 r2 ⟨i, j, e1, e2, hc, q⟩ k => by
  subst e1 e2
  cases r1; cases r2
  exact ⟨i, j, rfl, rfl, hc, k F H μ _ _ (Same.refl _) R (hg F i j) q⟩
theorem simI0 {K : PySem.W.Frag} {g : Int → Int → V} {g' : Int → Int → D} (hg : ∀ F i j, Rp K F (g i j) (g' i j)) : SimR K (rI0 g) (fI0 g') := fun F H μ v w x y Q' Q R r1 r2 ⟨i, j, e1, e2, q⟩ k => by
  subst e1 e2
  cases r1; cases r2
  exact ⟨i, j, rfl, rfl, k F H μ _ _ (Same.refl _) R (hg F i j) q⟩
theorem xo_sub : XO X (binaryOp .Sub) (fI0 fun i j => .int (i - j)) := ⟨_, op_sub, simI0 fun _ _ _ => .int⟩
theorem xo_mod : XO X (binaryOp .Mod) (fI (fun _ j => 0 < j) fun i j => .int (i % j)) := ⟨_, op_mod, simI fun _ _ _ => .int⟩
theorem xo_fdiv : XO X (binaryOp .FloorDiv) (fI CDivW fun i j => .int (i / j)) := ⟨_, op_fdivW, simI fun _ _ _ => .int⟩
theorem xo_pow : XO X (binaryOp .Pow) (fI CPow fun i j => .int (i ^ j.toNat)) := ⟨_, op_pow, simI fun _ _ _ => .int⟩
theorem xo_lt : XO X (compareOp .Lt) (fI0 fun i j => .bl (decide (i < j))) := ⟨_, op_lt, simI0 fun _ _ _ => .bl⟩
theorem xo_le : XO X (compareOp .LtE) (fI0 fun i j => .bl (decide (i ≤ j))) := ⟨_, op_le, simI0 fun _ _ _ => .bl⟩
theorem xo_gt : XO X (compareOp .Gt) (fI0 fun i j => .bl (decide (j < i))) := ⟨_, op_gt, simI0 fun _ _ _ => .bl⟩
theorem xo_ge : XO X (compareOp .GtE) (fI0 fun i j => .bl (decide (j ≤ i))) := ⟨_, op_ge, simI0 fun _ _ _ => .bl⟩
/-- + of ints; of tuples; of lists (a new one) -/
def fAdd : DO := fun x y μ Q => match x, y with
  | .int i, .int j => Q (.int (i + j)) μ
  | .tup xs, .tup ys => xs.length + ys.length ≤ sizeLine ∧ Q (.tup (xs ++ ys)) μ
  | .lst xs, .lst ys => xs.length + ys.length ≤ sizeLine ∧ Q (.lst (xs ++ ys)) μ
  | _, _ => False
theorem rpT {K : PySem.W.Frag} {F H : Hp} {μ : Mo} {v : V} {ds : List D} (R : RelM K F H μ) (r : Rp K F v (.tup ds)) : ∃ a vs, v = .ref a ∧ H a = some (.tup vs) ∧ RpL K F vs ds ∧ F a = some (.tup vs) := by
  cases r with
  | tup h t => exact ⟨_, _, rfl, R.sub _ _ h, t, h⟩
theorem rpLst {K : PySem.W.Frag} {F H : Hp} {μ : Mo} {v : V} {ds : List D} (R : RelM K F H μ) (r : Rp K F v (.lst ds)) : ∃ a vs, v = .ref a ∧ H a = some (.lst vs) ∧ RpL K F vs ds ∧ F a = some (.lst vs) := by
  cases r with
  | lst h t => exact ⟨_, _, rfl, R.sub _ _ h, t, h⟩
theorem xo_add : XO X (binaryOp .Add) fAdd := by
  refine ⟨_, op_add.or (op_catA.or op_cat), fun F H μ v w x y Q' Q R r1 r2 h k => ?_⟩
  unfold fAdd at h
  split at h
  · cases r1; cases r2
    exact .inl ⟨_, _, rfl, rfl, k F H μ _ _ (Same.refl _) R .int h⟩
  · rename_i xs ys
    obtain ⟨a, vs, rfl, ha, ta, _⟩ := rpT R r1
    obtain ⟨b, ws, rfl, hb, tb, _⟩ := rpT R r2
    obtain ⟨hz, q⟩ := h
    refine .inr (.inl ⟨a, b, vs, ws, rfl, rfl, SqT.of ha, SqT.of hb, by rw [ta.length, tb.length]; exact hz, fun e => ?_, fun _ e => ?_, fun _ _ p hp => ?_⟩)
    · subst e
      cases ta
      exact k F H μ _ _ (Same.refl _) R r2 q
    · subst e
      cases tb
      rw [List.append_nil] at q
      exact k F H μ _ _ (Same.refl _) R r1 q
    · have s := same_upd (o := .tup (vs ++ ws)) (R.freeF hp)
      exact k _ _ μ _ _ s (R.laid hp _) (.tup upd_same ((ta.append tb).mono s)) q
  · rename_i xs ys
    obtain ⟨a, vs, rfl, ha, ta, _⟩ := rpLst R r1
    obtain ⟨b, ws, rfl, hb, tb, _⟩ := rpLst R r2
    obtain ⟨hz, q⟩ := h
    refine .inr (.inr ⟨a, b, vs, ws, rfl, rfl, ha, hb, by rw [ta.length, tb.length]; exact hz, fun p hp => ?_⟩)
    have s := same_upd (o := .lst (vs ++ ws)) (R.freeF hp)
    exact k _ _ μ _ _ s (R.laid hp _) (.lst upd_same ((ta.append tb).mono s)) q
  · exact h.elim
theorem xo_mul : XO X (binaryOp .Mult) (fI CMulX fun i j => .int (i * j)) := ⟨_, op_mulX, simI fun _ _ _ => .int⟩
/-- a tuple so many times -/
def fRepT : DO := fun x y μ Q => ∃ xs k, x = .tup xs ∧ y = .int k ∧ xs ≠ [] ∧ 2 ≤ k ∧ k ≤ 1000 ∧ xs.length ≤ 1000 ∧ Q (.tup (List.replicate k.toNat xs).flatten) μ
theorem rpl_rep {K : PySem.W.Frag} {F : Hp} {vs : List V} {ds : List D} (h : RpL K F vs ds) : ∀ n : Nat, RpL K F (List.replicate n vs).flatten (List.replicate n ds).flatten
  | 0 => .nil
  | n + 1 => by
    rw [List.replicate_succ, List.replicate_succ, List.flatten_cons, List.flatten_cons]
    exact h.append (rpl_rep h n)
theorem xo_repT : XO X (binaryOp .Mult) fRepT := by
  refine ⟨_, op_repT, fun F H μ v w x y Q' Q R r1 r2 ⟨xs, n, e1, e2, hne, h1, h2, h3, q⟩ k => ?_⟩
  subst e1 e2
  obtain ⟨a, vs, rfl, ha, ta, _⟩ := rpT R r1
  cases r2
  refine ⟨a, n, vs, rfl, rfl, SqT.of ha, fun e => hne ?_, h1, h2, by rw [ta.length]; exact h3, fun p hp => ?_⟩
  · subst e; cases ta; rfl
  · have s := same_upd (o := .tup (List.replicate n.toNat vs).flatten) (R.freeF hp)
    exact k _ _ μ _ _ s (R.laid hp _) (.tup upd_same ((rpl_rep ta _).mono s)) q
/-- == at any depth -/
def fEq : DO := fun x y μ Q => ∃ p q, toPy x = some p ∧ toPy y = some q ∧ SeqAt.shaped p = true ∧ SeqAt.shaped q = true ∧ Q (.bl (PyData.eqv p q)) μ
def fNe : DO := fun x y μ Q => ∃ p q, toPy x = some p ∧ toPy y = some q ∧ SeqAt.shaped p = true ∧ SeqAt.shaped q = true ∧ Q (.bl (!PyData.eqv p q)) μ
theorem xo_eq (hu : X.A.units + 64 < cLine) : XO X (compareOp .Eq) fEq := ⟨_, op_eqD hu, fun F H μ v w x y Q' Q R r1 r2 ⟨p, q, e1, e2, s1, s2, h⟩ k => ⟨p, q, r1.dp R.sub x e1, r2.dp R.sub y e2, s1, s2, k F H μ _ _ (Same.refl _) R .bl h⟩⟩
theorem xo_ne (hu : X.A.units + 64 < cLine) : XO X (compareOp .NotEq) fNe := ⟨_, op_neD hu, fun F H μ v w x y Q' Q R r1 r2 ⟨p, q, e1, e2, s1, s2, h⟩ k => ⟨p, q, r1.dp R.sub x e1, r2.dp R.sub y e2, s1, s2, k F H μ _ _ (Same.refl _) R .bl h⟩⟩
/-- in a list, at any depth -/
def fIn : DO := fun x y μ Q => ∃ p ds qs, toPy x = some p ∧ y = .lst ds ∧ toPyL ds = some qs ∧ SeqAt.shaped p = true ∧ SeqAt.shaped (.list qs) = true ∧ Q (.bl (qs.any fun z => PyData.eqv z p)) μ
def fNotIn : DO := fun x y μ Q => ∃ p ds qs, toPy x = some p ∧ y = .lst ds ∧ toPyL ds = some qs ∧ SeqAt.shaped p = true ∧ SeqAt.shaped (.list qs) = true ∧ Q (.bl (!qs.any fun z => PyData.eqv z p)) μ
theorem xo_in (hu : X.A.units + 65 < cLine) : XO X (compareOp .In) fIn := ⟨_, op_inD hu, fun F H μ v w x y Q' Q R r1 r2 ⟨p, ds, q, e1, e, e2, s1, s2, h⟩ k => by
  subst e
  exact ⟨p, q, r1.dp R.sub x e1, r2.dp R.sub _ (by simp only [toPy]; rw [e2] <;> rfl), s1, s2, k F H μ _ _ (Same.refl _) R .bl h⟩⟩
theorem xo_notIn (hu : X.A.units + 65 < cLine) : XO X (compareOp .NotIn) fNotIn := ⟨_, op_notInD hu, fun F H μ v w x y Q' Q R r1 r2 ⟨p, ds, q, e1, e, e2, s1, s2, h⟩ k => by
  subst e
  exact ⟨p, q, r1.dp R.sub x e1, r2.dp R.sub _ (by simp only [toPy]; rw [e2] <;> rfl), s1, s2, k F H μ _ _ (Same.refl _) R .bl h⟩⟩
/-- is None -/
def isNon : D → Bool
  | .non => true
  | _ => false
def fIsN : DO := fun x y μ Q => y = .non ∧ Q (.bl (isNon x)) μ
def fNotN : DO := fun x y μ Q => y = .non ∧ Q (.bl (!isNon x)) μ
theorem isNon_of {K : PySem.W.Frag} {F : Hp} {v : V} {x : D} (r : Rp K F v x) : decide (v = V.non) = isNon x := by cases r <;> rfl
theorem xo_isN : XO X (compareOp .Is) fIsN := ⟨_, op_isN, fun F H μ v w x y Q' Q R r1 r2 ⟨e, h⟩ k => by
  subst e
  cases r2
  exact ⟨rfl, k F H μ _ _ (Same.refl _) R (by rw [isNon_of r1]; exact .bl) h⟩⟩
theorem xo_notN : XO X (compareOp .IsNot) fNotN := ⟨_, op_notN, fun F H μ v w x y Q' Q R r1 r2 ⟨e, h⟩ k => by
  subst e
  cases r2
  exact ⟨rfl, k F H μ _ _ (Same.refl _) R (by rw [isNon_of r1]; exact .bl) h⟩⟩
/-- unary minus -/
def dNeg (da : DE) : DE := fun δ μ Q => da δ μ fun x μ1 => ∃ i, x = .int i ∧ Q (.int (-i)) μ1
theorem xe_neg (ha : XE X G a da) : XE X G (.UnaryOp .USub a pos) (dNeg da) := by
  obtain ⟨ta, pa, sa⟩ := ha
  refine ⟨_, pe_un un_neg pa, fun F H σ δ μ Q' Q R h k => sa F H σ δ μ _ _ R h fun F1 H1 μ1 v x s1 R1 r1 ⟨i, e, q⟩ => ?_⟩
  subst e
  cases r1
  exact ⟨i, rfl, k F1 H1 μ1 _ _ s1 R1 .int q⟩

/-! ### subscripts, slices -/
/-- the items of what may be read -/
def itemsOf (μ : Mo) : D → Option (List D)
  | .tup ds => some ds
  | .lst ds => some ds
  | .fro ds => some ds
  | .ref p => match μ p with
    | some (.lst ds) => some ds
    | _ => none
  | _ => none
theorem rpSeq {K : PySem.W.Frag} {F H : Hp} {μ : Mo} {v : V} {x : D} {ds : List D} (R : RelM K F H μ) (r : Rp K F v x) (e : itemsOf μ x = some ds) :
    ∃ a vs, v = .ref a ∧ (SqL K H a vs ∨ SqT K H a vs) ∧ RpL K F vs ds := by
  cases x with
  | tup es => cases e; obtain ⟨a, vs, h1, h2, h3, _⟩ := rpT R r; exact ⟨a, vs, h1, .inr (SqT.of h2), h3⟩
  | lst es => cases e; obtain ⟨a, vs, h1, h2, h3, _⟩ := rpLst R r; exact ⟨a, vs, h1, .inl (SqL.of h2), h3⟩
  | fro es =>
    cases e
    cases r with
    | fro h t => exact ⟨_, _, rfl, .inl (R.sub.seq h), t⟩
  | ref p =>
    cases r
    have e' : (match μ p with
      | some (.lst ds) => some ds
      | _ => none) = some ds := e
    split at e'
    · rename_i es q
      cases e'
      obtain ⟨f, vs, h1, h2⟩ := R.mu p _ q
      exact ⟨p, vs, rfl, .inl (SqL.of h1), h2⟩
    · cases e'
  | _ => cases e
theorem atI_rp {K : PySem.W.Frag} {F : Hp} {vs : List V} {ds : List D} {i : Int} {d : D} (r : RpL K F vs ds) (h : atI ds i = some d) : ∃ v, atI vs i = some v ∧ Rp K F v d := by
  unfold atI at h ⊢
  rw [r.length]
  cases e : ixN ds.length i with
  | none => rw [e] at h; cases h
  | some j =>
    rw [e] at h
    exact r.get h
def fIx : DO := fun x y μ Q => ∃ ds i d, itemsOf μ x = some ds ∧ y = .int i ∧ atI ds i = some d ∧ Q d μ
theorem xe_ix (ha : XE X G a da) (hb : XE X G b db) (hs : PlainIx b := by exact fun _ _ => rfl) : XE X G (.Subscript a b pos) (dOp fIx da db) := by
  obtain ⟨ta, pa, sa⟩ := ha
  obtain ⟨tb, pb, sb⟩ := hb
  refine ⟨_, pe_ix (ix_list.or ix_tup) pa pb hs, sim_op (fun F H μ v w x y Q' Q R r1 r2 ⟨ds, i, d, e, e2, h1, q⟩ k => ?_) sa sb⟩
  subst e2
  cases r2
  obtain ⟨p, vs, rfl, hq, t⟩ := rpSeq R r1 e
  obtain ⟨z, hz, rz⟩ := atI_rp t h1
  have fin := k F H μ _ _ (Same.refl _) R rz q
  rcases hq with hq | hq
  · exact .inl ⟨p, vs, i, z, rfl, rfl, hq, hz, fin⟩
  · exact .inr ⟨p, vs, i, z, rfl, rfl, hq, hz, fin⟩
abbrev DOp := Slots → Mo → (Option Int → Mo → Prop) → Prop
def SimO (K : PySem.W.Frag) (G : Gx K) (t : TO) (d : DOp) : Prop := ∀ (F H : Hp) (σ : L2.St) (δ : Slots) (μ : Mo) (Q' : Option Int → Mo → Prop) (Q : Option Int → Hp → Prop), Rel K G F H σ δ μ → d δ μ Q' →
  (∀ F' H' μ' o, Same F F' → Rel K G F' H' σ δ μ' → Q' o μ' → Q o H') → t σ H Q
structure XP (X : Cx) (G : Gx X.K) (e : Option Expr) (d : DOp) : Prop where
  ex : ∃ t, PO X e t ∧ SimO X.K G t d
def dNoPart : DOp := fun _ μ Q => Q none μ
def dPart (d : DE) : DOp := fun δ μ Q => d δ μ fun x μ1 => ∃ i, x = .int i ∧ Q (some i) μ1
theorem xp_none : XP X G none dNoPart := ⟨_, po_none, fun F H σ δ μ Q' Q R h k => k F H μ none (Same.refl _) R h⟩
theorem xp_some (h : XE X G a da) : XP X G (some a) (dPart da) := by
  obtain ⟨t, p, s⟩ := h
  refine ⟨_, po_some p, fun F H σ δ μ Q' Q R h k => s F H σ δ μ _ _ R h fun F1 H1 μ1 v x s1 R1 r1 ⟨i, e, q⟩ => ?_⟩
  subst e
  cases r1
  exact ⟨i, rfl, k F1 H1 μ1 _ s1 R1 q⟩
def cutD (xs : List D) (lo hi : Option Int) : List D := (xs.drop (HT.sIx xs.length 0 lo)).take (HT.sIx xs.length xs.length hi - HT.sIx xs.length 0 lo)
theorem cut_rp {K : PySem.W.Frag} {F : Hp} {vs : List V} {ds : List D} (r : RpL K F vs ds) (lo hi : Option Int) : RpL K F (cutV vs lo hi) (cutD ds lo hi) := by
  unfold cutV cutD
  rw [r.length]
  exact (r.drop _).take _
theorem cut_whole {vs : List V} {lo hi : Option Int} (h : HT.sIx vs.length 0 lo = 0 ∧ HT.sIx vs.length vs.length hi = vs.length) : cutV vs lo hi = vs := by
  unfold cutV
  rw [h.1, h.2]
  simp
def dSl (d : DE) (dl dh : DOp) : DE := fun δ μ Q => d δ μ fun x μ1 => dl δ μ1 fun lo μ2 => dh δ μ2 fun hi μ3 => (∃ ds, x = .tup ds ∧ Q (.tup (cutD ds lo hi)) μ3) ∨ ∃ ds, (x = .lst ds ∨ ∃ p, x = .ref p ∧ μ3 p = some (.lst ds)) ∧ Q (.lst (cutD ds lo hi)) μ3
theorem xe_slice {lo hi : Option Expr} {dl dh : DOp} {p2 : Pos} (he : XE X G a da) (hl : XP X G lo dl) (hu : XP X G hi dh) : XE X G (.Subscript a (.Slice lo hi none p2) pos) (dSl da dl dh) := by
  obtain ⟨t, p, s⟩ := he
  obtain ⟨tl, pl, sl⟩ := hl
  obtain ⟨tu, pu, su⟩ := hu
  refine ⟨_, pe_slice (sl_tupA.or sl_list) p pl pu, fun F H σ δ μ Q' Q R h k => s F H σ δ μ _ _ R h fun F1 H1 μ1 v x s1 R1 r1 q1 => sl F1 H1 σ δ μ1 _ _ R1 q1 fun F2 H2 μ2 o s2 R2 q2 => su F2 H2 σ δ μ2 _ _ R2 q2 fun F3 H3 μ3 o2 s3 R3 q3 => ?_⟩
  have r3 := (r1.mono s2).mono s3
  have s03 := (s1.trans s2).trans s3
  rcases q3 with ⟨ds, e, q⟩ | ⟨ds, e, q⟩
  · subst e
    obtain ⟨b, vs, rfl, hb, tb, hF⟩ := rpT R3.m r3
    refine .inl ⟨b, vs, rfl, SqT.of hb, fun hw => ?_, fun _ c hc => ?_⟩
    · refine k F3 H3 μ3 _ _ s03 R3 ?_ q
      have z := cut_rp tb o o2
      rw [cut_whole hw] at z
      exact .tup hF z
    · have s4 := same_upd (o := .tup (cutV vs o o2)) (R3.m.freeF hc)
      exact k _ _ μ3 _ _ (s03.trans s4) (R3.to s4 (R3.m.laid hc _)) (.tup upd_same ((cut_rp tb o o2).mono s4)) q
  · have z : ∃ b vs, v = .ref b ∧ SqL X.K H3 b vs ∧ RpL X.K F3 vs ds := by
      rcases e with e | ⟨b, e, e2⟩
      · subst e
        obtain ⟨b, vs, h1, h2, h3, _⟩ := rpLst R3.m r3
        exact ⟨b, vs, h1, SqL.of h2, h3⟩
      · subst e
        cases r3
        obtain ⟨f, vs, h1, h2⟩ := R3.m.mu b _ e2
        exact ⟨b, vs, rfl, SqL.of h1, h2⟩
    obtain ⟨b, vs, rfl, hb, tb⟩ := z
    refine .inr ⟨b, vs, rfl, hb, fun c hc => ?_⟩
    have s4 := same_upd (o := .lst (cutV vs o o2)) (R3.m.freeF hc)
    exact k _ _ μ3 _ _ (s03.trans s4) (R3.to s4 (R3.m.laid hc _)) (.lst upd_same ((cut_rp tb o o2).mono s4)) q

/-! ### calls of built-ins -/
abbrev DF := List D → Mo → DK → Prop
def SimC (K : PySem.W.Frag) (r : List V → Hp → VK → Prop) (f : DF) : Prop := ∀ (F H : Hp) (μ : Mo) (vs : List V) (xs : List D) (Q' : DK) (Q : VK), RelM K F H μ → RpL K F vs xs → f xs μ Q' →
  (∀ F' H' μ' u z, Same F F' → RelM K F' H' μ' → Rp K F' u z → Q' z μ' → Q u H') → r vs H Q
structure XC (X : Cx) (fv : Value) (f : DF) : Prop where
  ex : ∃ r, CallR X fv r ∧ SimC X.K r f
def dCB (f : DF) (t : DA) : DE := fun δ μ Q => t δ μ fun xs μ1 => f xs μ1 Q
variable {es : List Expr} {dr : DA} {x : Str} {p : Pos} {bid T : String} {ff : DF}
theorem sim_cb {r : List V → Hp → VK → Prop} {t : TA} (ho : SimC X.K r ff) (sa : SimA X.K G t dr) : SimE X.K G (tCB r t) (dCB ff dr) := fun F H σ δ μ Q' Q R h k =>
  sa F H σ δ μ _ _ R h fun F1 H1 μ1 vs xs s1 R1 r1 q1 => ho F1 H1 μ1 vs xs Q' Q R1.m r1 q1 fun F2 H2 μ2 u z s2 R2 r2 q2 => k F2 H2 μ2 u z (s1.trans s2) (R1.to s2 R2) r2 q2
theorem xe_callB (hc : XC X (.builtin bid) ff) (hm : X.mg x = none) (hv : bootBuiltins x = some (.builtin bid)) (ha : XA X G (a :: es) dr) (hg : Gl X x := by rfl) (hn : x ≠ "__name__" := by decide) (hdb : (x == ("__debug__" : Str)) = false := by decide)
    (he : starEach (a :: es) X.env = (false, eval a X.env) :: starEach es X.env := by rfl) (hpl : (backTo pos (starEach es X.env)).any (·.1) = false := by rfl) : XE X G (.Call (.Name x p) (a :: es) [] pos) (dCB ff dr) := by
  obtain ⟨r, hr, sr⟩ := hc
  obtain ⟨t, pa, sa⟩ := ha
  exact ⟨_, pe_callB hr hg hm hv pa hn hdb he hpl, sim_cb sr sa⟩
theorem xe_callTy (hc : XC X (.type T) ff) (hm : X.mg x = none) (hv : bootBuiltins x = some (.type T)) (ha : XA X G (a :: es) dr) (hg : Gl X x := by rfl) (hn : x ≠ "__name__" := by decide) (hdb : (x == ("__debug__" : Str)) = false := by decide)
    (he : starEach (a :: es) X.env = (false, eval a X.env) :: starEach es X.env := by rfl) (hpl : (backTo pos (starEach es X.env)).any (·.1) = false := by rfl) : XE X G (.Call (.Name x p) (a :: es) [] pos) (dCB ff dr) := by
  obtain ⟨r, hr, sr⟩ := hc
  obtain ⟨t, pa, sa⟩ := ha
  exact ⟨_, pe_callTy hr hg hm hv pa hn hdb he hpl, sim_cb sr sa⟩
theorem rpl1 {K : PySem.W.Frag} {F : Hp} {vs : List V} {x : D} (h : RpL K F vs [x]) : ∃ v, vs = [v] ∧ Rp K F v x := by
  cases h with
  | cons r t => cases t; exact ⟨_, rfl, r⟩
theorem rpl2 {K : PySem.W.Frag} {F : Hp} {vs : List V} {x y : D} (h : RpL K F vs [x, y]) : ∃ v w, vs = [v, w] ∧ Rp K F v x ∧ Rp K F w y := by
  cases h with
  | cons r t =>
    obtain ⟨w, e, r2⟩ := rpl1 t
    subst e
    exact ⟨_, _, rfl, r, r2⟩
/-- len of a list, a tuple -/
def fLen : DF := fun xs μ Q => ∃ x ds, xs = [x] ∧ itemsOf μ x = some ds ∧ Q (.int ds.length) μ
theorem xc_len : XC X (.builtin "len") fLen := ⟨_, call_len_seq, fun F H μ vs xs Q' Q R r ⟨x, ds, e, e2, q⟩ k => by
  subst e
  obtain ⟨v, rfl, r1⟩ := rpl1 r
  obtain ⟨a, ws, rfl, h1, h2⟩ := rpSeq R r1 e2
  exact ⟨a, ws, rfl, h1, by rw [h2.length]; exact k F H μ _ _ (Same.refl _) R .int q⟩⟩
/-- int(..) -/
def fInt : DF := fun xs μ Q => (∃ i, xs = [.int i] ∧ Q (.int i) μ) ∨ ∃ b : Bool, xs = [.bl b] ∧ Q (.int (if b then 1 else 0)) μ
theorem xc_int : XC X (.type "int") fInt := ⟨_, call_int1, fun F H μ vs xs Q' Q R r h k => by
  rcases h with ⟨i, e, q⟩ | ⟨b, e, q⟩
  · subst e
    obtain ⟨v, rfl, r1⟩ := rpl1 r
    cases r1
    exact .inl ⟨i, rfl, k F H μ _ _ (Same.refl _) R .int q⟩
  · subst e
    obtain ⟨v, rfl, r1⟩ := rpl1 r
    cases r1
    exact .inr ⟨b, rfl, k F H μ _ _ (Same.refl _) R .int q⟩⟩
/-- max(a, b), max(a list), min -/
def fMax : DF := fun xs μ Q => (∃ i j, xs = [.int i, .int j] ∧ Q (.int (if j > i then j else i)) μ) ∨ ∃ (x : D) (ns : List Int), xs = [x] ∧ x ≠ .tup (ns.map .int) ∧ itemsOf μ x = some (ns.map .int) ∧ 0 < ns.length ∧ ∀ m, m ∈ ns → (∀ y, y ∈ ns → y ≤ m) → Q (.int m) μ
def fMin : DF := fun xs μ Q => (∃ i j, xs = [.int i, .int j] ∧ Q (.int (if j < i then j else i)) μ) ∨ ∃ (x : D) (ns : List Int), xs = [x] ∧ x ≠ .tup (ns.map .int) ∧ itemsOf μ x = some (ns.map .int) ∧ 0 < ns.length ∧ ∀ m, m ∈ ns → (∀ y, y ∈ ns → m ≤ y) → Q (.int m) μ
theorem rpLs {K : PySem.W.Frag} {F H : Hp} {μ : Mo} {v : V} {x : D} {ds : List D} (R : RelM K F H μ) (r : Rp K F v x) (e : itemsOf μ x = some ds) (ne : x ≠ .tup ds) :
    ∃ a vs, v = .ref a ∧ SqL K H a vs ∧ RpL K F vs ds := by
  cases x with
  | tup es => cases e; exact absurd rfl ne
  | lst es => cases e; obtain ⟨a, vs, h1, h2, h3, _⟩ := rpLst R r; exact ⟨a, vs, h1, SqL.of h2, h3⟩
  | fro es =>
    cases e
    cases r with
    | fro h t => exact ⟨_, _, rfl, R.sub.seq h, t⟩
  | ref p =>
    cases r
    have e' : (match μ p with
      | some (.lst ds) => some ds
      | _ => none) = some ds := e
    split at e'
    · rename_i es q
      cases e'
      obtain ⟨f, vs, h1, h2⟩ := R.mu p _ q
      exact ⟨p, vs, rfl, SqL.of h1, h2⟩
    · cases e'
  | _ => cases e
theorem CallR.or {fv : Value} {r r' : List V → Hp → VK → Prop} (h : CallR X fv r) (h' : CallR X fv r') : CallR X fv (fun xs H Q => r xs H Q ∨ r' xs H Q) := by
  intro pins s σ H xs us Q I rs q
  rcases q with q | q
  · exact h pins s σ H xs us Q I rs q
  · exact h' pins s σ H xs us Q I rs q
theorem xc_max (hc : X.calm = true) : XC X (.builtin "max") fMax := ⟨_, CallR.or (call_max2 hc) (cr_max hc), fun F H μ vs xs Q' Q R r h k => by
  rcases h with ⟨i, j, e, q⟩ | ⟨x, ns, e, ne, e2, hl, q⟩
  · subst e
    obtain ⟨v, w, rfl, r1, r2⟩ := rpl2 r
    cases r1; cases r2
    exact .inl ⟨i, j, rfl, k F H μ _ _ (Same.refl _) R .int q⟩
  · subst e
    obtain ⟨v, rfl, r1⟩ := rpl1 r
    obtain ⟨a, ws, rfl, h1, h2⟩ := rpLs R r1 e2 ne
    have e3 := h2.ints
    subst e3
    exact .inr ⟨a, ns, rfl, h1, hl, fun m hm hy => k F H μ _ _ (Same.refl _) R .int (q m hm hy)⟩⟩
theorem xc_min (hc : X.calm = true) : XC X (.builtin "min") fMin := ⟨_, CallR.or (call_min2 hc) (cr_min hc), fun F H μ vs xs Q' Q R r h k => by
  rcases h with ⟨i, j, e, q⟩ | ⟨x, ns, e, ne, e2, hl, q⟩
  · subst e
    obtain ⟨v, w, rfl, r1, r2⟩ := rpl2 r
    cases r1; cases r2
    exact .inl ⟨i, j, rfl, k F H μ _ _ (Same.refl _) R .int q⟩
  · subst e
    obtain ⟨v, rfl, r1⟩ := rpl1 r
    obtain ⟨a, ws, rfl, h1, h2⟩ := rpLs R r1 e2 ne
    have e3 := h2.ints
    subst e3
    exact .inr ⟨a, ns, rfl, h1, hl, fun m hm hy => k F H μ _ _ (Same.refl _) R .int (q m hm hy)⟩⟩
/-- all, any of a list of bools -/
def fAll : DF := fun xs μ Q => ∃ bs : List Bool, xs = [.lst (bs.map .bl)] ∧ Q (.bl (bs.all id)) μ
theorem xc_all (hc : X.calm = true) : XC X (.builtin "all") fAll := ⟨_, cr_all hc, fun F H μ vs xs Q' Q R r ⟨bs, e, q⟩ k => by
  subst e
  obtain ⟨v, rfl, r1⟩ := rpl1 r
  obtain ⟨a, ws, rfl, h1, h2, _⟩ := rpLst R r1
  have e3 := h2.bls
  subst e3
  exact ⟨a, bs, rfl, SqL.of h1, k F H μ _ _ (Same.refl _) R .bl q⟩⟩
/-- tuple(..) of a list, a tuple -/
def fTuple : DF := fun xs μ Q => ∃ x ds, xs = [x] ∧ itemsOf μ x = some ds ∧ Q (.tup ds) μ
theorem xc_tuple : XC X (.type "tuple") fTuple := ⟨_, call_tuple_of, fun F H μ vs xs Q' Q R r ⟨x, ds, e, e2, q⟩ k => by
  subst e
  obtain ⟨v, rfl, r1⟩ := rpl1 r
  by_cases ht : x = .tup ds
  · subst ht
    obtain ⟨a, ws, rfl, h1, h2, _⟩ := rpT R r1
    exact ⟨a, ws, rfl, .inr ⟨SqT.of h1, k F H μ _ _ (Same.refl _) R r1 q⟩⟩
  · obtain ⟨a, ws, rfl, h1, h2⟩ := rpLs R r1 e2 ht
    refine ⟨a, ws, rfl, .inl ⟨h1, fun l hl => ?_⟩⟩
    have s := same_upd (o := .tup ws) (R.freeF hl)
    exact k _ _ μ _ _ s (R.laid hl _) (.tup upd_same (h2.mono s)) q⟩
/-- list(..): a new list; not changed any more, or changed -/
def fList : DF := fun xs μ Q => ∃ x ds, xs = [x] ∧ itemsOf μ x = some ds ∧ Q (.lst ds) μ
def fListM : DF := fun xs μ Q => ∃ x ds, xs = [x] ∧ itemsOf μ x = some ds ∧ ∀ p, μ p = none → Q (.ref p) (updM μ p (some (.lst ds)))
theorem xc_list : XC X (.type "list") fList := ⟨_, call_list_of, fun F H μ vs xs Q' Q R r ⟨x, ds, e, e2, q⟩ k => by
  subst e
  obtain ⟨v, rfl, r1⟩ := rpl1 r
  obtain ⟨a, ws, rfl, h1, h2⟩ := rpSeq R r1 e2
  refine ⟨a, ws, rfl, h1, fun l hl => ?_⟩
  have s := same_upd (o := .lst ws) (R.freeF hl)
  exact k _ _ μ _ _ s (R.laid hl _) (.lst upd_same (h2.mono s)) q⟩
theorem xc_listM : XC X (.type "list") fListM := ⟨_, call_list_of, fun F H μ vs xs Q' Q R r ⟨x, ds, e, e2, q⟩ k => by
  subst e
  obtain ⟨v, rfl, r1⟩ := rpl1 r
  obtain ⟨a, ws, rfl, h1, h2⟩ := rpSeq R r1 e2
  exact ⟨a, ws, rfl, h1, fun l hl => k _ _ _ _ _ (Same.refl _) (R.putL (R.freeF hl) h2) .ref (q l (R.freeM hl))⟩⟩
end
end DL

/-! DL3: targets, statements, loops, comprehensions, by data. -/
namespace DL
open PySem PySem.Spec PyProof.Rows L2

/-! ### which slots a target stores -/
theorem wipe_set_none (x : Option V) (i : Nat) : ∀ (σ : L2.St) (vs : List Nat), (wipe (σ.set i x) vs).set i none = (wipe σ vs).set i none
  | σ, [] => by
    show (σ.set i x).set i none = σ.set i none
    rw [List.set_set]
  | σ, v :: vs => by
    show ((wipe (σ.set i x) vs).set v none).set i none = ((wipe σ vs).set v none).set i none
    by_cases h : v = i
    · subst h
      rw [List.set_set, List.set_set]
      exact wipe_set_none x v σ vs
    · rw [List.set_comm _ _ h, wipe_set_none x i σ vs, List.set_comm _ _ h]
theorem wipe_set {x : Option V} {i : Nat} : ∀ {σ : L2.St} {vs : List Nat}, i ∈ vs → wipe (σ.set i x) vs = wipe σ vs
  | _, [], h => by simp at h
  | σ, v :: vs, h => by
    show (wipe (σ.set i x) vs).set v none = (wipe σ vs).set v none
    by_cases hv : v = i
    · subst hv; exact wipe_set_none x v σ vs
    · have h' : i ∈ vs := by
        rcases List.mem_cons.mp h with e | e
        · exact absurd e.symm hv
        · exact e
      rw [wipe_set h']
theorem wipe_wipe (vs : List Nat) : ∀ (us : List Nat) (σ : L2.St), (∀ i ∈ us, i ∈ vs) → wipe (wipe σ us) vs = wipe σ vs
  | [], σ, _ => rfl
  | u :: us, σ, h => by
    show wipe ((wipe σ us).set u none) vs = wipe σ vs
    rw [wipe_set (h u (List.mem_cons_self ..)), wipe_wipe vs us σ fun i hi => h i (List.mem_cons_of_mem _ hi)]
theorem WipeEq.refl {is : List Nat} {σ : L2.St} : WipeEq is σ σ := fun _ _ => rfl
theorem WipeEq.set {i : Nat} {σ : L2.St} {x : Option V} : WipeEq [i] σ (σ.set i x) := fun vs h => wipe_set (h i (List.mem_singleton.mpr rfl))
theorem WipeEq.trans {is js : List Nat} {σ σ1 σ2 : L2.St} (a : WipeEq is σ σ1) (b : WipeEq js σ1 σ2) : WipeEq (is ++ js) σ σ2 := fun vs h =>
  (b vs fun i hi => h i (List.mem_append_right _ hi)).trans (a vs fun i hi => h i (List.mem_append_left _ hi))
def wipeD (δ : Slots) : List Nat → Slots
  | [] => δ
  | v :: vs => (wipeD δ vs).set v none
theorem wipeD_length (δ : Slots) : ∀ vs : List Nat, (wipeD δ vs).length = δ.length
  | [] => rfl
  | v :: vs => by unfold wipeD; rw [List.length_set, wipeD_length δ vs]
theorem relS_wipe {K : PySem.W.Frag} {F : Hp} {σ : L2.St} {δ : Slots} (R : RelS K F σ δ) : ∀ vs : List Nat, RelS K F (wipe σ vs) (wipeD δ vs)
  | [] => R
  | v :: vs => by
    have ih := relS_wipe R vs
    refine ⟨by unfold wipe wipeD; rw [List.length_set, List.length_set, ih.len], fun i d e => ?_⟩
    unfold wipeD at e
    unfold wipe
    by_cases hi : v = i
    · subst hi
      by_cases hl : v < (wipeD δ vs).length
      · rw [List.getElem?_set_self hl] at e; cases e
      · rw [List.getElem?_eq_none (by simpa using hl)] at e; cases e
    · rw [List.getElem?_set_ne hi] at e ⊢
      exact ih.at_ i d e

/-! ### targets -/
section
variable {X : Cx} {G : Gx X.K} {pos : Pos}
def dgName (i : Nat) : DG := fun x δ μ Q => Q (δ.set i (some x)) μ
theorem Rel.set {K : PySem.W.Frag} {G : Gx K} {F H : Hp} {σ : L2.St} {δ : Slots} {μ : Mo} {v : V} {d : D} (R : Rel K G F H σ δ μ) (i : Nat) (r : Rp K F v d) : Rel K G F H (σ.set i (some v)) (δ.set i (some d)) μ := ⟨R.fl, R.m, R.s.set i r⟩
theorem xg_name {i : Nat} {x : Str} (hN : X.N.Nodup) (hi : X.N[i]? = some x := by rfl) (hx : Loc X.env.scope x := by first | exact Or.inl rfl | exact Or.inr rfl) (hf : X.fn x = true ∨ X.env.scope.names.lookup x = some .local := by first | exact .inl rfl | exact .inr rfl | assumption) : XG X G (.Name x pos) [i] (dgName i) :=
  ⟨_, pg_name hN hi hx hf, fun F H σ δ μ v x Q' Q R r h k => k F H _ _ μ (Same.refl _) (R.set i r) WipeEq.set h⟩
abbrev DGs := List D → Slots → Mo → (Slots → Mo → Prop) → Prop
def SimGs (K : PySem.W.Frag) (G : Gx K) (is : List Nat) (t : TGs) (d : DGs) : Prop := ∀ (F H : Hp) (σ : L2.St) (δ : Slots) (μ : Mo) (vs : List V) (xs : List D) (Q' : Slots → Mo → Prop) (Q : L2.St → Hp → Prop), Rel K G F H σ δ μ → RpL K F vs xs → d xs δ μ Q' →
  (∀ F' H' σ' δ' μ', Same F F' → Rel K G F' H' σ' δ' μ' → WipeEq is σ σ' → Q' δ' μ' → Q σ' H') → t vs σ H Q
structure XGs (X : Cx) (G : Gx X.K) (ts : List Expr) (is : List Nat) (d : DGs) : Prop where
  ex : ∃ t, PGs X ts t ∧ SimGs X.K G is t d
def dgNil : DGs := fun xs δ μ Q => xs = [] ∧ Q δ μ
def dgCons (d : DG) (ds : DGs) : DGs := fun xs δ μ Q => ∃ x r, xs = x :: r ∧ d x δ μ fun δ' μ' => ds r δ' μ' Q
theorem xgs_nil : XGs X G [] [] dgNil := ⟨_, pgs_nil, fun F H σ δ μ vs xs Q' Q R r ⟨e, h⟩ k => by
  subst e
  cases r
  exact ⟨rfl, k F H σ δ μ (Same.refl _) R WipeEq.refl h⟩⟩
theorem xgs_cons {e : Expr} {es : List Expr} {is js : List Nat} {d : DG} {ds : DGs} (h1 : XG X G e is d) (h2 : XGs X G es js ds)
    (hs : (assignEach (e :: es) X.env).map (·.2) = assign e X.env :: (assignEach es X.env).map (·.2) := by rfl) : XGs X G (e :: es) (is ++ js) (dgCons d ds) := by
  obtain ⟨t, p, s⟩ := h1
  obtain ⟨u, q, z⟩ := h2
  refine ⟨_, pgs_cons p q hs, fun F H σ δ μ vs xs Q' Q R r ⟨x, xr, e, h⟩ k => ?_⟩
  subst e
  cases r with
  | cons r rr =>
    refine ⟨_, _, rfl, s F H σ δ μ _ _ _ _ R r h fun F1 H1 σ1 δ1 μ1 s1 R1 w1 h1 => ?_⟩
    exact z F1 H1 σ1 δ1 μ1 _ _ Q' Q R1 (rr.mono s1) h1 fun F2 H2 σ2 δ2 μ2 s2 R2 w2 h2 => k F2 H2 σ2 δ2 μ2 (s1.trans s2) R2 (w1.trans w2) h2
def dgTup (n : Nat) (ds : DGs) : DG := fun x δ μ Q => ∃ xs, x = .tup xs ∧ xs.length = n ∧ ds xs δ μ Q
theorem xg_tup {es : List Expr} {k : Nat} {is : List Nat} {ds : DGs} {n : Nat} (h : XGs X G es is ds) (hc : X.calm = true := by rfl)
    (hn : (assignEach es X.env).length = n := by rfl) (hst : (assignEach es X.env).findIdx? (·.1) = none := by rfl) : XG X G (.Tuple es k pos) is (dgTup n ds) := by
  obtain ⟨t, p, s⟩ := h
  refine ⟨_, pg_tup hc p hn hst, fun F H σ δ μ v x Q' Q R r ⟨xs, e, hl, h⟩ k => ?_⟩
  subst e
  obtain ⟨a, vs, rfl, ha, ta, _⟩ := rpT R.m r
  exact ⟨a, vs, rfl, SqT.of ha, by rw [ta.length]; exact hl, s F H σ δ μ vs xs Q' Q R ta h k⟩
/-- o[i] = v, o a list that changes -/
def dgSub (dO dI : DE) : DG := fun x δ μ Q => dO δ μ fun o μ1 => dI δ μ1 fun i μ2 => ∃ p ds k j, o = .ref p ∧ i = .int k ∧ μ2 p = some (.lst ds) ∧ ixN ds.length k = some j ∧ Q δ (updM μ2 p (some (.lst (ds.set j x))))
theorem xg_sub {o i : Expr} {dO dI : DE} (ho : XE X G o dO) (hi : XE X G i dI)
    (ha : ∀ v, assign (.Subscript o i pos) X.env v = (do
      let ov ← holding [v] (eval o X.env)
      let iv ← holding [v, ov] (eval i X.env)
      standAt pos
      holding [v, ov, iv] (setItem ov iv v)
      release [v, ov, iv] []) := by intro _; rfl) : XG X G (.Subscript o i pos) [] (dgSub dO dI) := by
  obtain ⟨t, p, s⟩ := ho
  obtain ⟨u, q, z⟩ := hi
  refine ⟨_, pg_sub p q set_list ha, fun F H σ δ μ v x Q' Q R r h k => s F H σ δ μ _ _ R h fun F1 H1 μ1 v1 x1 s1 R1 r1 h1 => z F1 H1 σ δ μ1 _ _ R1 h1 fun F2 H2 μ2 v2 x2 s2 R2 r2 ⟨p, ds, kk, j, e1, e2, hm, hj, h2⟩ => ?_⟩
  subst e1 e2
  have r1' := r1.mono s2
  cases r1'
  cases r2
  obtain ⟨f, vs, h3, h4⟩ := R2.m.mu p _ hm
  refine ⟨p, vs, kk, j, rfl, rfl, h3, by rw [h4.length]; exact hj, ?_⟩
  exact k F2 _ σ δ _ (s1.trans s2) (R2.to (Same.refl _) (R2.m.putL f (h4.set j ((r.mono s1).mono s2)))) WipeEq.refl h2

/-! ### statements -/
variable {st : Stmt} {rest : List Stmt} {d d' : DS} {e c : Expr} {de : DE} {dt : DT}
def dNext : DS := fun D δ μ => D.nx δ μ
def dSeq (t u : DS) : DS := fun D δ μ => t { D with nx := u D } δ μ
theorem xss_nil : XSs X G [] dNext := ⟨_, pss_nil, fun F H σ δ μ D' D R h k => k.nx F H σ δ μ (Same.refl _) R h⟩
theorem xss_one (h : XS X G st d) : XSs X G [st] d := let ⟨t, p, s⟩ := h; ⟨t, pss_one p, s⟩
theorem xss_cons (h1 : XS X G st d) (h2 : XSs X G rest d') : XSs X G (st :: rest) (dSeq d d') := by
  obtain ⟨t, p, s⟩ := h1
  obtain ⟨u, q, z⟩ := h2
  refine ⟨_, pss_cons p q, fun F H σ δ μ D' D R h k => s F H σ δ μ _ _ R h ?_⟩
  exact ⟨fun F1 H1 σ1 δ1 μ1 s1 R1 h1 => z F1 H1 σ1 δ1 μ1 D' D R1 h1 (k.mono s1), k.rt, k.bk, k.ct⟩
theorem xs_pass : XS X G (.Pass pos) dNext := ⟨_, ps_pass, fun F H σ δ μ D' D R h k => k.nx F H σ δ μ (Same.refl _) R h⟩
theorem xs_doc {x j pos pos'} : XS X G (.Expr (.Constant (.str x) j pos) pos') dNext := ⟨_, ps_doc, fun F H σ δ μ D' D R h k => k.nx F H σ δ μ (Same.refl _) R h⟩
def dBreak : DS := fun D δ μ => D.bk δ μ
def dCont : DS := fun D δ μ => D.ct δ μ
theorem xs_break : XS X G (.Break pos) dBreak := ⟨_, ps_break, fun F H σ δ μ D' D R h k => k.bk F H σ δ μ (Same.refl _) R h⟩
theorem xs_continue : XS X G (.Continue pos) dCont := ⟨_, ps_continue, fun F H σ δ μ D' D R h k => k.ct F H σ δ μ (Same.refl _) R h⟩
def dDrop (de : DE) : DS := fun D δ μ => de δ μ fun _ μ1 => D.nx δ μ1
theorem xs_expr (h : XE X G e de) (hs : swapsWith e none pos.line X.env = pure false := by rfl) : XS X G (.Expr e pos) (dDrop de) := by
  obtain ⟨t, p, s⟩ := h
  exact ⟨_, ps_expr p hs, fun F H σ δ μ D' D R h k => s F H σ δ μ _ _ R h fun F1 H1 μ1 v x s1 R1 r1 h1 => k.nx F1 H1 σ δ μ1 s1 R1 h1⟩
def dRet (de : DE) : DS := fun D δ μ => de δ μ D.rt
theorem xs_ret (h : XE X G e de) : XS X G (.Return (some e) pos) (dRet de) := by
  obtain ⟨t, p, s⟩ := h
  exact ⟨_, ps_ret p, fun F H σ δ μ D' D R h k => s F H σ δ μ _ _ R h fun F1 H1 μ1 v x s1 R1 r1 h1 => k.rt F1 H1 μ1 v x s1 R1.m r1 h1⟩
/-- a list that was filled, given back: it is not changed any more -/
def dRetF (de : DE) : DS := fun D δ μ => de δ μ fun x μ1 => ∃ p ds, x = .ref p ∧ μ1 p = some (.lst ds) ∧ D.rt (.lst ds) (updM μ1 p none)
theorem xs_retF (h : XE X G e de) : XS X G (.Return (some e) pos) (dRetF de) := by
  obtain ⟨t, p, s⟩ := h
  refine ⟨_, ps_ret p, fun F H σ δ μ D' D R h k => s F H σ δ μ _ _ R h fun F1 H1 μ1 v x s1 R1 r1 ⟨p, ds, e, hm, h1⟩ => ?_⟩
  subst e
  cases r1
  obtain ⟨F2, s2, R2, r2⟩ := R1.m.freeze hm
  exact k.rt F2 H1 _ _ _ (s1.trans s2) R2 r2 h1
def dRetN : DS := fun D _ μ => D.rt .non μ
theorem xs_retN : XS X G (.Return none pos) dRetN := ⟨_, ps_retN, fun F H σ δ μ D' D R h k => k.rt F H μ _ _ (Same.refl _) R.m .non h⟩
def dIfS (c : DT) (t u : DS) : DS := fun D δ μ => c δ μ fun b μ1 => if b = true then t D δ μ1 else u D δ μ1
theorem xs_if {a b : List Stmt} (hc : XT X G c dt) (ha : XSs X G a d) (hb : XSs X G b d') : XS X G (.If c a b pos) (dIfS dt d d') := by
  obtain ⟨t, p, s⟩ := hc
  obtain ⟨u, q, z⟩ := ha
  obtain ⟨w, q', z'⟩ := hb
  refine ⟨_, ps_if p q q', fun F H σ δ μ D' D R h k => s F H σ δ μ _ _ R h fun F1 H1 μ1 b s1 R1 h1 => ?_⟩
  cases b with
  | true => exact z F1 H1 σ δ μ1 D' D R1 h1 (k.mono s1)
  | false => exact z' F1 H1 σ δ μ1 D' D R1 h1 (k.mono s1)
def dNever : DS := fun _ _ _ => False
theorem xs_never : XS X G st dNever := ⟨_, ps_never, fun _ _ _ _ _ _ _ _ h _ => h.elim⟩
theorem xss_never {sts : List Stmt} : XSs X G sts dNever := ⟨_, pss_never, fun _ _ _ _ _ _ _ _ h _ => h.elim⟩
def dAsg (de : DE) (g : DG) : DS := fun D δ μ => de δ μ fun x μ1 => g x δ μ1 D.nx
theorem sim_asg {te : TE} {tg : TG} {is : List Nat} {g : DG} (s : SimE X.K G te de) (z : SimG X.K G is tg g) : SimS X.K G (tAsg te tg) (dAsg de g) := fun F H σ δ μ D' D R h k =>
  s F H σ δ μ _ _ R h fun F1 H1 μ1 v x s1 R1 r1 h1 => z F1 H1 σ δ μ1 v x _ _ R1 r1 h1 fun F2 H2 σ2 δ2 μ2 s2 R2 _ h2 => k.nx F2 H2 σ2 δ2 μ2 (s1.trans s2) R2 h2
theorem xs_asg {tg : Expr} {is : List Nat} {g : DG} (he : XE X G e de) (hg : XG X G tg is g) (hs : swapsWithSole [tg] e pos.line X.env = pure false := by rfl) (hw : swappedStores [tg] e X.env = pure none := by rfl)
    (h1 : (assignEach [tg] X.env).map (·.2) = [assign tg X.env] := by rfl) : XS X G (.Assign [tg] e pos) (dAsg de g) := by
  obtain ⟨t, p, s⟩ := he
  obtain ⟨u, q, z⟩ := hg
  exact ⟨_, ps_asg p q hs hw h1, sim_asg s z⟩
theorem xs_set {i : Nat} {x : Str} {pos' : Pos} (hN : X.N.Nodup) (he : XE X G e de) (hi : X.N[i]? = some x := by rfl) (hx : Loc X.env.scope x := by first | exact Or.inl rfl | exact Or.inr rfl) (hs : swapsWith e (some (.Name x pos')) pos.line X.env = pure false := by rfl) (hf : X.fn x = true ∨ X.env.scope.names.lookup x = some .local := by first | exact .inl rfl | exact .inr rfl | assumption) :
    XS X G (.Assign [.Name x pos'] e pos) (dAsg de (dgName i)) := by
  obtain ⟨t, p, s⟩ := he
  refine ⟨_, ps_set hN hi hx p hs hf, sim_asg (is := [i]) s fun F H σ δ μ v x Q' Q R r h k => k F H _ _ μ (Same.refl _) (R.set i r) WipeEq.set h⟩
def dPar (i j : Nat) (da : DA) : DS := fun D δ μ => da δ μ fun xs μ1 => ∃ x y, xs = [x, y] ∧ D.nx ((δ.set i (some x)).set j (some y)) μ1
theorem xs_par {i j : Nat} {x y : Str} {a b : Expr} {da : DA} {px py pt : Pos} {kt k2 pt2} (hN : X.N.Nodup) (ha : XA X G [a, b] da) (hc : X.calm = true := by rfl) (hi : X.N[i]? = some x := by rfl) (hj : X.N[j]? = some y := by rfl) (hij : i ≠ j := by decide)
    (hx : X.env.scope.names.lookup x = some .local := by rfl) (hy : X.env.scope.names.lookup y = some .local := by rfl)
    (hw : swappedStores [.Tuple [.Name x px, .Name y py] kt pt] (.Tuple [a, b] k2 pt2) X.env = pure (some [x, y]) := by rfl)
    (hs : swapsWithSole [.Tuple [.Name x px, .Name y py] kt pt] (.Tuple [a, b] k2 pt2) pos.line X.env = pure false := by rfl) :
    XS X G (.Assign [.Tuple [.Name x px, .Name y py] kt pt] (.Tuple [a, b] k2 pt2) pos) (dPar i j da) := by
  obtain ⟨t, p, s⟩ := ha
  refine ⟨_, ps_par hc hN hi hj hij hx hy p hw hs, fun F H σ δ μ D' D R h k => s F H σ δ μ _ _ R h fun F1 H1 μ1 vs xs s1 R1 r1 ⟨x, y, e, h1⟩ => ?_⟩
  subst e
  obtain ⟨v, w, rfl, r2, r3⟩ := rpl2 r1
  exact ⟨v, w, rfl, k.nx F1 H1 _ _ μ1 s1 ((R1.set i r2).set j r3) h1⟩
/-- ahead of a statement: the list that the slot i holds is not changed any more -/
def dFrz (i : Nat) (d : DS) : DS := fun D δ μ => ∃ p ds, δ[i]? = some (some (.ref p)) ∧ μ p = some (.lst ds) ∧ d D (δ.set i (some (.lst ds))) (updM μ p none)
theorem RelS.put {K : PySem.W.Frag} {F : Hp} {σ : L2.St} {δ : Slots} {v : V} {d : D} (h : RelS K F σ δ) {i : Nat} (e : σ[i]? = some (some v)) (r : Rp K F v d) : RelS K F σ (δ.set i (some d)) := by
  have z := h.set i r
  have e2 : σ.set i (some v) = σ := by
    apply List.ext_getElem?
    intro j
    by_cases hj : i = j
    · subst hj
      have hl : i < σ.length := (List.getElem?_eq_some_iff.mp e).1
      rw [List.getElem?_set_self hl, e]
    · rw [List.getElem?_set_ne hj]
  rw [e2] at z
  exact z
theorem xs_frz (i : Nat) (h : XS X G st d) : XS X G st (dFrz i d) := by
  obtain ⟨t, p, s⟩ := h
  refine ⟨t, p, fun F H σ δ μ D' D R ⟨a, ds, e, hm, h⟩ k => ?_⟩
  obtain ⟨v, e1, r⟩ := R.s.at_ i _ e
  cases r
  obtain ⟨F2, s2, R2, r2⟩ := R.m.freeze hm
  exact s F2 H σ _ _ D' D ⟨R.fl.trans s2, R2, (R.s.mono s2).put e1 r2⟩ h (k.mono s2)

/-! ### while -/
def dWhile (c : DT) (b : DS) : DS := fun D δ μ => ∃ W : Nat → Slots → Mo → Prop, (∃ m, W m δ μ) ∧ ∀ m δ μ, W m δ μ →
  c δ μ fun t μ1 => if t = true then b { D with nx := fun δ' μ' => ∃ m', m' < m ∧ W m' δ' μ', ct := fun δ' μ' => ∃ m', m' < m ∧ W m' δ' μ', bk := D.nx } δ μ1 else D.nx δ μ1
theorem xs_while {body : List Stmt} {db : DS} (hp : PassesOwn (model X.prog X.w) X.A X.env X.xe) (hc : XT X G c dt) (hb : XSs X G body db) : XS X G (.While c body [] pos) (dWhile dt db) := by
  obtain ⟨t, p, s⟩ := hc
  obtain ⟨u, q, z⟩ := hb
  refine ⟨_, ps_while hp p q, fun F H σ δ μ D' D R ⟨W, ⟨m0, w0⟩, turn⟩ k => ?_⟩
  refine ⟨fun m σ' H' => ∃ F' δ' μ', Same F F' ∧ Rel X.K G F' H' σ' δ' μ' ∧ W m δ' μ', ⟨m0, F, δ, μ, Same.refl _, R, w0⟩, ?_⟩
  rintro m σ1 H1 ⟨F1, δ1, μ1, s1, R1, w1⟩
  refine s F1 H1 σ1 δ1 μ1 _ _ R1 (turn m δ1 μ1 w1) fun F2 H2 μ2 b s2 R2 h2 => ?_
  cases b with
  | false => exact k.nx F2 H2 σ1 δ1 μ2 (s1.trans s2) R2 h2
  | true =>
    refine ⟨fun σ' H' => ∃ m', m' < m ∧ ∃ F' δ' μ', Same F F' ∧ Rel X.K G F' H' σ' δ' μ' ∧ W m' δ' μ', fun _ _ h => h, z F2 H2 σ1 δ1 μ2 _ _ R2 h2 ?_⟩
    have s02 := s1.trans s2
    exact ⟨fun F3 H3 σ3 δ3 μ3 s3 R3 ⟨m', hm, w⟩ => ⟨m', hm, F3, δ3, μ3, s02.trans s3, R3, w⟩, fun F3 H3 μ3 v x s3 => k.rt F3 H3 μ3 v x (s02.trans s3), fun F3 H3 σ3 δ3 μ3 s3 => k.nx F3 H3 σ3 δ3 μ3 (s02.trans s3), fun F3 H3 σ3 δ3 μ3 s3 R3 ⟨m', hm, w⟩ => ⟨m', hm, F3, δ3, μ3, s02.trans s3, R3, w⟩⟩

/-! ### what is walked -/
def Iters (K : PySem.W.Frag) (J : It) (F : Hp) (items : List D) : Prop := ∀ (i : Nat) (F1 H1 : Hp) (μ1 : Mo), Same F F1 → RelM K F1 H1 μ1 → (items.length ≤ i → J.stop i H1) ∧
  ∀ x, items[i]? = some x → J.go i H1 ∧ ∀ v H2, J.yld i H1 v H2 → ∃ F2, Same F1 F2 ∧ RelM K F2 H2 μ1 ∧ Rp K F2 v x
abbrev DI := Slots → Mo → (List D → Mo → Prop) → Prop
def SimI (K : PySem.W.Frag) (G : Gx K) (wi : TI) (di : DI) : Prop := ∀ (F H : Hp) (σ : L2.St) (δ : Slots) (μ : Mo) (R' : List D → Mo → Prop) (R : It → Hp → Prop), Rel K G F H σ δ μ → di δ μ R' →
  (∀ F' H' μ' J items, Same F F' → Rel K G F' H' σ δ μ' → Iters K J F' items → R' items μ' → R J H') → wi σ H R
structure XI (X : Cx) (G : Gx X.K) (tg iter : Expr) (di : DI) : Prop where
  ex : ∃ wi, PI X tg iter wi ∧ SimI X.K G wi di
theorem iters_tup {K : PySem.W.Frag} {F : Hp} {a : Addr} {vs : List V} {ds : List D} (h : F a = some (.tup vs)) (r : RpL K F vs ds) : Iters K (Itt K a) F ds := fun i F1 H1 μ1 s1 R1 => by
  have e := R1.sub _ _ (s1 _ _ h)
  refine ⟨fun hi => ⟨vs, SqT.of e, by rw [r.length]; exact hi⟩, fun x hx => ?_⟩
  obtain ⟨v, hv, rv⟩ := r.get hx
  refine ⟨⟨vs, v, SqT.of e, hv⟩, fun w H2 ⟨e2, y⟩ => ?_⟩
  subst e2
  have q := y vs (SqT.of e)
  rw [hv] at q
  cases q
  exact ⟨F1, Same.refl _, R1, rv.mono s1⟩
theorem iters_lst {K : PySem.W.Frag} {F : Hp} {a : Addr} {vs : List V} {ds : List D} (h : SqL K F a vs) (r : RpL K F vs ds) : Iters K (Itl K a) F ds := fun i F1 H1 μ1 s1 R1 => by
  have e := R1.sub.seq (s1.seq h)
  refine ⟨fun hi => ⟨vs, e, by rw [r.length]; exact hi⟩, fun x hx => ?_⟩
  obtain ⟨v, hv, rv⟩ := r.get hx
  refine ⟨⟨vs, v, e, hv⟩, fun w H2 ⟨e2, y⟩ => ?_⟩
  subst e2
  have q := y vs e
  rw [hv] at q
  cases q
  exact ⟨F1, Same.refl _, R1, rv.mono s1⟩
def rng (lo : Int) (n : Nat) : List D := (List.range n).map fun (i : Nat) => D.int (lo + (i : Int))
theorem rng_length {lo : Int} {n : Nat} : (rng lo n).length = n := by unfold rng; rw [List.length_map, List.length_range]
theorem rng_get {lo : Int} {n i : Nat} {x : D} (h : (rng lo n)[i]? = some x) : i < n ∧ x = .int (lo + (i : Int)) := by
  have hl : i < (rng lo n).length := (List.getElem?_eq_some_iff.mp h).1
  rw [rng_length] at hl
  unfold rng at h
  rw [List.getElem?_map, List.getElem?_range hl] at h
  cases h
  exact ⟨hl, rfl⟩
theorem iters_rng {K : PySem.W.Frag} {F : Hp} {lo : Int} {n : Nat} : Iters K (Itr lo n) F (rng lo n) := fun i F1 H1 μ1 s1 R1 => by
  refine ⟨fun hi => by rw [rng_length] at hi; exact hi, fun x hx => ?_⟩
  obtain ⟨hl, e⟩ := rng_get hx
  subst e
  refine ⟨hl, fun w H2 ⟨e2, y⟩ => ?_⟩
  subst e2 y
  exact ⟨F1, Same.refl _, R1, .int⟩
/-- a list or a tuple -/
def iSeq (K : PySem.W.Frag) (tl : TE) : TI := fun σ H R => tl σ H fun x H1 => ∃ a, x = .ref a ∧ (((∃ xs, SqL K H1 a xs) ∧ R (Itl K a) H1) ∨ ((∃ xs, SqT K H1 a xs) ∧ R (Itt K a) H1))
theorem pi_seq {tg l : Expr} {tl : TE} (hl : PE X l tl) : PI X tg l (iSeq X.K tl) := by
  refine ⟨fun pins s σ H R I h => ?_⟩
  refine thn (hl.run pins s σ H _ I h) fun v s1 ⟨x, H1, I1, r1, q1⟩ => ?_
  obtain ⟨a, e, q⟩ := q1
  subst e
  cases r1
  rcases q with ⟨⟨xs, hq⟩, q⟩ | ⟨⟨xs, hq⟩, q⟩
  · obtain ⟨its, rv, p, hz⟩ := I1.list hq
    refine wpAny_pyIter_list p.isList ?_
    refine ⟨s1.heap.objs.size, [s1.heap.objs.size], _, _, H1, rfl, I1.kept (t' := s1.toks) fun b o e => Heap.get?_push_of_some _ e, turn_list a _, ⟨_, Heap.get?_push_size _ rfl, rfl, rfl⟩, fun b hb => ?_, q⟩
    have e : b = s1.heap.objs.size := by simpa using hb
    subst e
    exact I1.fpOk (Nat.le_refl _) (I1.hok.fresh (Nat.le_refl _))
  · obtain ⟨its, rv, p, hz⟩ := I1.tuple hq
    refine wpAny_pyIter_tuple (show s1.heap.IsTuple a its.toArray from p) ?_
    refine ⟨s1.heap.objs.size, [s1.heap.objs.size], _, _, H1, rfl, I1.kept (t' := s1.toks) fun b o e => Heap.get?_push_of_some _ e, turn_tuple a _, ⟨_, Heap.get?_push_size _ rfl, rfl, rfl⟩, fun b hb => ?_, q⟩
    have e : b = s1.heap.objs.size := by simpa using hb
    subst e
    exact I1.fpOk (Nat.le_refl _) (I1.hok.fresh (Nat.le_refl _))
def diSeq (de : DE) : DI := fun δ μ R => de δ μ fun x μ1 => ∃ ds, (x = .lst ds ∨ x = .tup ds ∨ x = .fro ds) ∧ R ds μ1
theorem xi_seq {tg l : Expr} (h : XE X G l de) : XI X G tg l (diSeq de) := by
  obtain ⟨t, p, s⟩ := h
  refine ⟨_, pi_seq p, fun F H σ δ μ R' R I h k => s F H σ δ μ _ _ I h fun F1 H1 μ1 v x s1 R1 r1 ⟨ds, e, h1⟩ => ?_⟩
  rcases e with e | e | e
  · subst e
    obtain ⟨a, vs, rfl, h2, h3, h4⟩ := rpLst R1.m r1
    exact ⟨a, rfl, .inl ⟨⟨vs, SqL.of h2⟩, k F1 H1 μ1 _ ds s1 R1 (iters_lst (SqL.of h4) h3) h1⟩⟩
  · subst e
    obtain ⟨a, vs, rfl, h2, h3, h4⟩ := rpT R1.m r1
    exact ⟨a, rfl, .inr ⟨⟨vs, SqT.of h2⟩, k F1 H1 μ1 _ ds s1 R1 (iters_tup h4 h3) h1⟩⟩
  · subst e
    cases r1 with
    | fro h2 h3 => exact ⟨_, rfl, .inl ⟨⟨_, R1.m.sub.seq h2⟩, k F1 H1 μ1 _ ds s1 R1 (iters_lst h2 h3) h1⟩⟩
def diRng1 (da : DA) : DI := fun δ μ R => da δ μ fun xs μ1 => ∃ j : Int, xs = [.int j] ∧ -(2 ^ 62) ≤ j ∧ j < 2 ^ 62 ∧ R (rng 0 j.toNat) μ1
def diRng2 (da : DA) : DI := fun δ μ R => da δ μ fun xs μ1 => ∃ i j : Int, xs = [.int i, .int j] ∧ (-(2 ^ 62) ≤ i ∧ i < 2 ^ 62 ∧ -(2 ^ 62) ≤ j ∧ j < 2 ^ 62) ∧ R (rng i (j - i).toNat) μ1
theorem xi_rng1 {tg a : Expr} {da : DA} {p : Pos} (hm : X.mg "range" = none) (ha : XA X G [a] da) (hg : Gl X "range" := by rfl) (hs : starEach [a] X.env = [(false, eval a X.env)] := by rfl) : XI X G tg (.Call (.Name "range" p) [a] [] pos) (diRng1 da) := by
  obtain ⟨t, p, s⟩ := ha
  refine ⟨_, pi_range1 hg hm p hs, fun F H σ δ μ R' R I h k => s F H σ δ μ _ _ I h fun F1 H1 μ1 vs xs s1 R1 r1 ⟨j, e, q1, q2, h1⟩ => ?_⟩
  subst e
  obtain ⟨v, rfl, r2⟩ := rpl1 r1
  cases r2
  exact ⟨j, rfl, q1, q2, k F1 H1 μ1 _ _ s1 R1 iters_rng h1⟩
theorem xi_rng2 {tg a b : Expr} {da : DA} {p : Pos} (hm : X.mg "range" = none) (ha : XA X G [a, b] da) (hg : Gl X "range" := by rfl) (hs : starEach [a, b] X.env = [(false, eval a X.env), (false, eval b X.env)] := by rfl) (hs2 : starEach [b] X.env = [(false, eval b X.env)] := by rfl) : XI X G tg (.Call (.Name "range" p) [a, b] [] pos) (diRng2 da) := by
  obtain ⟨t, p, s⟩ := ha
  refine ⟨_, pi_range2 hg hm p hs hs2, fun F H σ δ μ R' R I h k => s F H σ δ μ _ _ I h fun F1 H1 μ1 vs xs s1 R1 r1 ⟨i, j, e, q1, h1⟩ => ?_⟩
  subst e
  obtain ⟨v, w, rfl, r2, r3⟩ := rpl2 r1
  cases r2; cases r3
  exact ⟨i, j, rfl, q1, k F1 H1 μ1 _ _ s1 R1 iters_rng h1⟩

/-! ### for -/
def dFor (di : DI) (g : DG) (b : DS) : DS := fun D δ μ => di δ μ fun items μ1 => ∃ W : Nat → Slots → Mo → Prop, W 0 δ μ1 ∧
  (∀ i x δ μ, items[i]? = some x → W i δ μ → g x δ μ fun δ2 μ2 => b { D with nx := W (i + 1), ct := W (i + 1), bk := D.nx } δ2 μ2) ∧ ∀ δ μ, W items.length δ μ → D.nx δ μ
theorem xs_for {tg iter : Expr} {body : List Stmt} {di : DI} {is : List Nat} {g : DG} {db : DS} (hp : PassesOwn (model X.prog X.w) X.A X.env X.xe) (hi : XI X G tg iter di) (hg : XG X G tg is g) (hb : XSs X G body db) (hc : X.calm = true := by rfl)
    (hs : ∀ x, foldedSetIterable iter X.env x = pure x := by intro _; rfl) : XS X G (.For tg iter body [] pos) (dFor di g db) := by
  obtain ⟨wi, p, s⟩ := hi
  obtain ⟨tg', q, z⟩ := hg
  obtain ⟨tb, q', z'⟩ := hb
  refine ⟨_, ps_for hp hc p q q' hs, fun F H σ δ μ D' D R h k => s F H σ δ μ _ _ R h fun F1 H1 μ1 J items s1 R1 it ⟨W, w0, turn, done⟩ => ?_⟩
  refine ⟨fun i m σ' H' => ∃ F' δ' μ', m = items.length - i ∧ i ≤ items.length ∧ Same F1 F' ∧ Rel X.K G F' H' σ' δ' μ' ∧ W i δ' μ', ⟨items.length, F1, δ, μ1, rfl, Nat.zero_le _, Same.refl _, R1, w0⟩, ?_⟩
  rintro i m σ2 H2 ⟨F2, δ2, μ2, rfl, hi, s2, R2, w2⟩
  obtain ⟨stop, step⟩ := it i F2 H2 μ2 s2 R2.m
  by_cases hlt : i < items.length
  · obtain ⟨go, yld⟩ := step items[i] (List.getElem?_eq_getElem hlt)
    refine .inr ⟨go, fun σ' H' => ∃ F' δ' μ', Same F1 F' ∧ Rel X.K G F' H' σ' δ' μ' ∧ W (i + 1) δ' μ', fun σ' H' ⟨F', δ', μ', a1, a2, a3⟩ => ⟨items.length - (i + 1), by omega, F', δ', μ', rfl, hlt, a1, a2, a3⟩, fun v H3 y => ?_⟩
    obtain ⟨F3, s3, R3, r3⟩ := yld v H3 y
    have R3' := R2.to s3 R3
    refine z F3 H3 σ2 δ2 μ2 v _ _ _ R3' r3 (turn i _ δ2 μ2 (List.getElem?_eq_getElem hlt) w2) fun F4 H4 σ4 δ4 μ4 s4 R4 _ h4 => ?_
    have s04 := (s2.trans s3).trans s4
    refine z' F4 H4 σ4 δ4 μ4 _ _ R4 h4 ⟨fun F5 H5 σ5 δ5 μ5 s5 R5 h5 => ⟨F5, δ5, μ5, s04.trans s5, R5, h5⟩, fun F5 H5 μ5 v x s5 => k.rt F5 H5 μ5 v x ((s1.trans s04).trans s5), fun F5 H5 σ5 δ5 μ5 s5 => k.nx F5 H5 σ5 δ5 μ5 ((s1.trans s04).trans s5), fun F5 H5 σ5 δ5 μ5 s5 R5 h5 => ⟨F5, δ5, μ5, s04.trans s5, R5, h5⟩⟩
  · have e : i = items.length := by omega
    subst e
    exact .inl ⟨stop (Nat.le_refl _), k.nx F2 H2 σ2 δ2 μ2 (s1.trans s2) R2 (done δ2 μ2 w2)⟩
/-- turn by turn -/
def forR (g : DG) (b : DS) (De : DEnds) : List D → Slots → Mo → Prop
  | [], δ, μ => De.nx δ μ
  | x :: r, δ, μ => g x δ μ fun δ2 μ2 => b { De with nx := forR g b De r, ct := forR g b De r, bk := De.nx } δ2 μ2
theorem for_rec {di : DI} {g : DG} {b : DS} {D : DEnds} {items : List DL.D} {δ : Slots} {μ : Mo} (h : forR g b D items δ μ) :
    ∃ W : Nat → Slots → Mo → Prop, W 0 δ μ ∧ (∀ i x δ μ, items[i]? = some x → W i δ μ → g x δ μ fun δ2 μ2 => b { D with nx := W (i + 1), ct := W (i + 1), bk := D.nx } δ2 μ2) ∧ ∀ δ μ, W items.length δ μ → D.nx δ μ := by
  refine ⟨fun i δ μ => forR g b D (items.drop i) δ μ, h, fun i x δ μ hx w => ?_, fun δ μ w => ?_⟩
  · have hl := (List.getElem?_eq_some_iff.mp hx).1
    have w : forR g b D (items.drop i) δ μ := w
    rw [List.drop_eq_getElem_cons hl] at w
    have e : items[i] = x := (List.getElem?_eq_some_iff.mp hx).2
    rw [e] at w
    exact w
  · have w : forR g b D (items.drop items.length) δ μ := w
    rw [List.drop_length] at w
    exact w

/-! ### comprehensions -/
structure XTs (X : Cx) (G : Gx X.K) (ifs : List Expr) (d : DT) : Prop where
  ex : ∃ t, PTs X ifs t ∧ SimT X.K G t d
def dYes : DT := fun _ μ Q => Q true μ
theorem xts_nil : XTs X G [] dYes := ⟨_, pts_nil, fun F H σ δ μ Q' Q R h k => k F H μ true (Same.refl _) R h⟩
theorem xts_one (h : XT X G c dt) : XTs X G [c] dt := let ⟨t, p, s⟩ := h; ⟨t, pts_one p, s⟩
/-- [elt for target in iter if ..]: a new list that is not changed any more -/
def dLc (di : DI) (g : DG) (tt : DT) (te : DE) (vs : List Nat) : DE := fun δ μ Q => di δ μ fun items μ1 => ∀ L, μ1 L = none → ∃ W : Nat → Mo → Prop, W 0 (updM μ1 L (some (.lst []))) ∧
  (∀ i x μ, items[i]? = some x → W i μ → g x (wipeD δ vs) μ fun δ2 μ2 => tt δ2 μ2 fun b μ3 =>
    if b = true then te δ2 μ3 fun y μ4 => ∃ acc, μ4 L = some (.lst acc) ∧ acc.length < sizeLine ∧ W (i + 1) (updM μ4 L (some (.lst (acc ++ [y])))) else W (i + 1) μ3) ∧
  ∀ μ, W items.length μ → ∃ ds, μ L = some (.lst ds) ∧ Q (.lst ds) (updM μ L none)
theorem sim_lc {wi : TI} {tg : TG} {tt : TT} {te : TE} {di : DI} {g : DG} {dtt : DT} {dte : DE} {is vs : List Nat} (hv : ∀ i ∈ is, i ∈ vs) (s : SimI X.K G wi di) (z : SimG X.K G.blk is tg g) (zt : SimT X.K G.blk tt dtt) (ze : SimE X.K G.blk te dte) :
    SimE X.K G (tLc wi tg tt te vs) (dLc di g dtt dte vs) := by
  intro F H σ δ μ Q' Q R h k
  refine s F H σ δ μ _ _ R h fun F1 H1 μ1 J items s1 R1 it h1 => fun L hL => ?_
  obtain ⟨W, w0, turn, done⟩ := h1 L (R1.m.freeM hL)
  have fL := R1.m.freeF hL
  refine ⟨fun i m H' => ∃ F' μ', m = items.length - i ∧ i ≤ items.length ∧ Same F1 F' ∧ RelM X.K F' H' μ' ∧ W i μ', ⟨items.length, F1, _, rfl, Nat.zero_le _, Same.refl _, R1.m.putL fL .nil, w0⟩, ?_⟩
  rintro i m H2 ⟨F2, μ2, rfl, hi, s2, R2, w2⟩
  obtain ⟨stop, step⟩ := it i F2 H2 μ2 s2 R2
  by_cases hlt : i < items.length
  · obtain ⟨go, yld⟩ := step items[i] (List.getElem?_eq_getElem hlt)
    refine .inr ⟨go, fun H' => ∃ F' μ', Same F1 F' ∧ RelM X.K F' H' μ' ∧ W (i + 1) μ', fun H' ⟨F', μ', a1, a2, a3⟩ => ⟨items.length - (i + 1), by omega, F', μ', rfl, hlt, a1, a2, a3⟩, fun v H3 y => ?_⟩
    obtain ⟨F3, s3, R3, r3⟩ := yld v H3 y
    have s13 := s2.trans s3
    have Rb : Rel X.K G.blk F3 H3 (wipe σ vs) (wipeD δ vs) μ2 := ⟨(R1.fl.trans s13), R3, (relS_wipe (R1.s.mono s13) vs)⟩
    refine z F3 H3 _ _ μ2 v _ _ _ Rb r3 (turn i _ μ2 (List.getElem?_eq_getElem hlt) w2) fun F4 H4 σ4 δ4 μ4 s4 R4 we h4 => ⟨(we vs hv).trans (wipe_wipe vs vs σ fun _ q => q), ?_⟩
    refine zt F4 H4 σ4 δ4 μ4 _ _ R4 h4 fun F5 H5 μ5 b s5 R5 h5 => ?_
    have s15 := (s13.trans s4).trans s5
    cases b with
    | false => exact ⟨F5, μ5, s15, R5.m, h5⟩
    | true =>
      refine ze F5 H5 σ4 δ4 μ5 _ _ R5 h5 fun F6 H6 μ6 v6 x6 s6 R6 r6 ⟨acc, ha, hl, h6⟩ => ?_
      obtain ⟨f6, ws, e6, t6⟩ := R6.m.mu L _ ha
      exact ⟨ws, e6, by rw [t6.length]; exact hl, F6, _, s15.trans s6, R6.m.putL f6 (t6.snoc r6), h6⟩
  · have e : i = items.length := by omega
    subst e
    refine .inl ⟨stop (Nat.le_refl _), ?_⟩
    obtain ⟨ds, hd, q⟩ := done μ2 w2
    obtain ⟨F3, s3, R3, r3⟩ := R2.freeze hd
    exact k F3 H2 _ _ _ ((s1.trans s2).trans s3) (R1.to (s2.trans s3) R3) r3 q
section
variable {scope : Scope}
abbrev BX (X : Cx) (scope : Scope) (s : Shared) (H : Hp) (C : Addr) (cl : List (Str × Addr)) (fp : List Addr) : Cx := X.blk s H scope (compEnvC scope cl C X.env) fp
theorem blkE {e : Expr} {d : DE} (h : ∀ (s : Shared) (H : Hp) (C : Addr) (cl : List (Str × Addr)) (fp : List Addr), XE (BX X scope s H C cl fp) G.blk e d) :
    ∃ te, (∀ (s : Shared) (H : Hp) (C : Addr) (cl : List (Str × Addr)) (fp : List Addr), PE (BX X scope s H C cl fp) e te) ∧ SimE X.K G.blk te d := by
  refine ⟨fun σ H Q => ∀ (s0 : Shared) (H0 : Hp) (C : Addr) (cl : List (Str × Addr)) (fp : List Addr) (pins : List (Addr × Obj)) (s : Shared), Inv (BX X scope s0 H0 C cl fp) pins σ H s →
    wpAny (model X.prog X.w) X.A (eval e (compEnvC scope cl C X.env)) (EP (BX X scope s0 H0 C cl fp) pins σ Q) (BX X scope s0 H0 C cl fp).xe s, fun s0 H0 C cl fp => ⟨fun pins s σ H Q I h => h s0 H0 C cl fp pins s I⟩, ?_⟩
  intro F H σ δ μ Q' Q R q k s0 H0 C cl fp pins s I
  obtain ⟨t, p, z⟩ := h s0 H0 C cl fp
  exact p.run pins s σ H Q I (z F H σ δ μ Q' Q R q k)
theorem blkT {ifs : List Expr} {d : DT} (h : ∀ (s : Shared) (H : Hp) (C : Addr) (cl : List (Str × Addr)) (fp : List Addr), XTs (BX X scope s H C cl fp) G.blk ifs d) :
    ∃ te, (∀ (s : Shared) (H : Hp) (C : Addr) (cl : List (Str × Addr)) (fp : List Addr), PTs (BX X scope s H C cl fp) ifs te) ∧ SimT X.K G.blk te d := by
  refine ⟨fun σ H Q => ∀ (s0 : Shared) (H0 : Hp) (C : Addr) (cl : List (Str × Addr)) (fp : List Addr) (pins : List (Addr × Obj)) (s : Shared), Inv (BX X scope s0 H0 C cl fp) pins σ H s →
    wpAny (model X.prog X.w) X.A (forIn ifs true fun c r => if r = true then do let ok ← isTrue c (compEnvC scope cl C X.env) (eval c (compEnvC scope cl C X.env)); pure (ForInStep.yield ok) else pure (ForInStep.yield r)) (TP (BX X scope s0 H0 C cl fp) pins σ Q) (BX X scope s0 H0 C cl fp).xe s,
    fun s0 H0 C cl fp => ⟨fun pins s σ H Q I h => h s0 H0 C cl fp pins s I⟩, ?_⟩
  intro F H σ δ μ Q' Q R q k s0 H0 C cl fp pins s I
  obtain ⟨t, p, z⟩ := h s0 H0 C cl fp
  exact p.run pins s σ H Q I (z F H σ δ μ Q' Q R q k)
theorem blkG {tg : Expr} {is : List Nat} {d : DG} (h : ∀ (s : Shared) (H : Hp) (C : Addr) (cl : List (Str × Addr)) (fp : List Addr), XG (BX X scope s H C cl fp) G.blk tg is d) :
    ∃ te, (∀ (s : Shared) (H : Hp) (C : Addr) (cl : List (Str × Addr)) (fp : List Addr), PG (BX X scope s H C cl fp) tg te) ∧ SimG X.K G.blk is te d := by
  refine ⟨fun v σ H Q => ∀ (s0 : Shared) (H0 : Hp) (C : Addr) (cl : List (Str × Addr)) (fp : List Addr) (pins : List (Addr × Obj)) (s : Shared) (u : Value), Inv (BX X scope s0 H0 C cl fp) pins σ H s → RelV v u →
    wpAny (model X.prog X.w) X.A (assign tg (compEnvC scope cl C X.env) u) (fun _ s' => ∃ σ' H', Inv (BX X scope s0 H0 C cl fp) pins σ' H' s' ∧ Q σ' H') (BX X scope s0 H0 C cl fp).xe s,
    fun s0 H0 C cl fp => ⟨fun pins s σ H v u Q I r h => h s0 H0 C cl fp pins s u I r⟩, ?_⟩
  intro F H σ δ μ v x Q' Q R r q k s0 H0 C cl fp pins s u I ru
  obtain ⟨t, p, z⟩ := h s0 H0 C cl fp
  exact p.run pins s σ H v u Q I ru (z F H σ δ μ v x Q' Q R r q k)
theorem xe_lc {elt tg iter : Expr} {ifs : List Expr} (own : List (Str × Nat)) {di : DI} {g : DG} {dtt : DT} {dte : DE} {is : List Nat} (hN : X.N.Nodup) (ok : BlkOk X.N X.env.scope scope own) (hi : XI X G tg iter di)
    (hg : ∀ (s : Shared) (H : Hp) (C : Addr) (cl : List (Str × Addr)) (fp : List Addr), XG (BX X scope s H C cl fp) G.blk tg is g) (ht : ∀ (s : Shared) (H : Hp) (C : Addr) (cl : List (Str × Addr)) (fp : List Addr), XTs (BX X scope s H C cl fp) G.blk ifs dtt)
    (he : ∀ (s : Shared) (H : Hp) (C : Addr) (cl : List (Str × Addr)) (fp : List Addr), XE (BX X scope s H C cl fp) G.blk elt dte)
    (hv : ∀ i ∈ is, i ∈ own.map (·.2) := by decide) (hc : X.calm = true := by rfl) (hs : ∀ x, foldedSetIterable iter X.env x = pure x := by intro _; rfl) :
    XE X G (.ListComp elt [⟨tg, iter, ifs, 0⟩] scope pos) (dLc di g dtt dte (own.map (·.2))) := by
  obtain ⟨wi, p, s⟩ := hi
  obtain ⟨tg', pg, z⟩ := blkG hg
  obtain ⟨tt, pt, zt⟩ := blkT ht
  obtain ⟨te, pe, ze⟩ := blkE he
  exact ⟨_, pe_lc hc hN p ok pg pt pe hs, sim_lc hv s z zt ze⟩
theorem xs_setLc {i : Nat} {y : Str} {py : Pos} {elt tg iter : Expr} {ifs : List Expr} (own : List (Str × Nat)) {spos : Pos} {di : DI} {g : DG} {dtt : DT} {dte : DE} {is : List Nat} (hN : X.N.Nodup)
    (hsw : swapsWith (.ListComp elt [⟨tg, iter, ifs, 0⟩] scope pos) (some (.Name y py)) spos.line X.env = pure true) (ok : BlkOk X.N X.env.scope scope own) (hi : XI X G tg iter di)
    (hg : ∀ (s : Shared) (H : Hp) (C : Addr) (cl : List (Str × Addr)) (fp : List Addr), XG (BX X scope s H C cl fp) G.blk tg is g) (ht : ∀ (s : Shared) (H : Hp) (C : Addr) (cl : List (Str × Addr)) (fp : List Addr), XTs (BX X scope s H C cl fp) G.blk ifs dtt)
    (he : ∀ (s : Shared) (H : Hp) (C : Addr) (cl : List (Str × Addr)) (fp : List Addr), XE (BX X scope s H C cl fp) G.blk elt dte) (hy : X.N[i]? = some y := by rfl) (hyl : X.env.scope.names.lookup y = some .local := by rfl)
    (hv : ∀ i ∈ is, i ∈ own.map (·.2) := by decide) (hc : X.calm = true := by rfl) (hs : ∀ x, foldedSetIterable iter X.env x = pure x := by intro _; rfl) :
    XS X G (.Assign [.Name y py] (.ListComp elt [⟨tg, iter, ifs, 0⟩] scope pos) spos) (dAsg (dLc di g dtt dte (own.map (·.2))) (dgName i)) := by
  obtain ⟨wi, p, s⟩ := hi
  obtain ⟨tg', pg, z⟩ := blkG hg
  obtain ⟨tt, pt, zt⟩ := blkT ht
  obtain ⟨te, pe, ze⟩ := blkE he
  refine ⟨_, ps_setLc hc hN hy hyl hsw p ok pg pt pe hs, sim_asg (is := [i]) (sim_lc hv s z zt ze) fun F H σ δ μ v x Q' Q R r h k => k F H _ _ μ (Same.refl _) (R.set i r) WipeEq.set h⟩
end
/-- the plain case: each item gives a value (or is left out), and nothing else changes -/
theorem lc_pure {di : DI} {g : DG} {dtt : DT} {dte : DE} {vs : List Nat} {items : List D} {δ : Slots} {μ1 : Mo} {Q : DK} {f : D → Option D} (hz : items.length ≤ 16777215)
    (hs : ∀ x ∈ items, ∀ (μ : Mo) (Qe : Mo → Prop) (Qy : D → Mo → Prop), (f x = none → Qe μ) → (∀ y, f x = some y → Qy y μ) → g x (wipeD δ vs) μ fun δ2 μ2 => dtt δ2 μ2 fun b μ3 => if b = true then dte δ2 μ3 Qy else Qe μ3)
    (hQ : ∀ μ', (∀ a m, μ1 a = some m → μ' a = some m) → Q (.lst (items.filterMap f)) μ') (L : Addr) (hL : μ1 L = none) :
    ∃ W : Nat → Mo → Prop, W 0 (updM μ1 L (some (.lst []))) ∧
    (∀ i x μ, items[i]? = some x → W i μ → g x (wipeD δ vs) μ fun δ2 μ2 => dtt δ2 μ2 fun b μ3 =>
      if b = true then dte δ2 μ3 fun y μ4 => ∃ acc, μ4 L = some (.lst acc) ∧ acc.length < sizeLine ∧ W (i + 1) (updM μ4 L (some (.lst (acc ++ [y])))) else W (i + 1) μ3) ∧
    ∀ μ, W items.length μ → ∃ ds, μ L = some (.lst ds) ∧ Q (.lst ds) (updM μ L none) := by
  refine ⟨fun i μ => μ L = some (.lst ((items.take i).filterMap f)) ∧ ∀ a m, μ1 a = some m → μ a = some m, ⟨by rw [updM_same]; rfl, fun a m e => ?_⟩, ?_, ?_⟩
  · have : a ≠ L := fun z => by rw [z, hL] at e; cases e
    rw [updM_ne this]; exact e
  · rintro i x μ hx ⟨w1, w2⟩
    have hl := (List.getElem?_eq_some_iff.mp hx).1
    have htk : (items.take (i + 1)).filterMap f = (items.take i).filterMap f ++ (match f x with | some y => [y] | none => []) := by
      rw [List.take_succ, hx, List.filterMap_append]
      cases e : f x <;> simp [e]
    refine hs x (List.mem_of_getElem? hx) μ _ _ (fun e => ⟨?_, w2⟩) fun y e => ⟨_, w1, ?_, ?_, fun a m h => ?_⟩
    · rw [htk, e, List.append_nil]; exact w1
    · have h1 : ((items.take i).filterMap f).length ≤ (items.take i).length := List.length_filterMap_le _ _
      have h2 : (items.take i).length ≤ i := by rw [List.length_take]; omega
      rw [sizeLine_eq]; omega
    · rw [updM_same, htk, e]
    · have : a ≠ L := fun z => by rw [z, hL] at h; cases h
      rw [updM_ne this]; exact w2 a m h
  · rintro μ ⟨w1, w2⟩
    rw [List.take_length] at w1
    refine ⟨_, w1, hQ _ fun a m e => ?_⟩
    have : a ≠ L := fun z => by rw [z, hL] at e; cases e
    rw [updM_ne this]; exact w2 a m e
end
end DL

/-! DL4: defs and their promises, calls, the class Rule. -/
namespace DL
open PySem PySem.Spec PyProof.Rows L2

/-- the wish False -/
theorem passLN {X : Cx} : Passes (L2N.CX X.prog X.w) X E0 := fun _ _ _ _ _ _ _ c => by
  obtain ⟨_, _, _, _, _, _, _, _, _, _, _, _, z⟩ := c
  exact z.elim
theorem cxUpN {P : Program} {w : World} : StX.CXUp (L2N.CX P w) := by
  rintro outer s H s2 H2 E e s' un kp ho ⟨a, B, H', cls, d, ea, fl, hok, ub, na, os, ag, he⟩
  have f0 : ∀ b o, s.heap.get? b = some o → H b = none → H2 b = none := fun b o q n => un.free b o q n (by simp)
  have tb : ∀ b ps, H b = some (.tbl ps) → ∃ more, H' b = some (.tbl (ps ++ more)) := fun b ps q => by
    obtain ⟨m1, e1⟩ := un.tbls b ps q
    obtain ⟨m2, e2⟩ := ub.tbls b _ e1
    exact ⟨m1 ++ m2, e2.trans (by rw [Array.append_assoc])⟩
  refine ⟨a, B, H', cls, d, ea, fl, hok, ⟨?_, ?_, ?_, ?_, ?_, ?_, tb⟩, na, os.trans ho, ag, he⟩
  · exact fun b o q n => ub.keep b o (kp b o q) (f0 b o q n)
  · exact fun b o q => ub.slot b o (kp b o q)
  · exact fun b o q n => ub.free b o (kp b o q) (f0 b o q n)
  · exact fun b o q => ub.there b o (kp b o q)
  · exact fun b xs q => ub.tups b xs (un.tups b xs q)
  · exact fun b o xs q => ub.frzs b o xs (un.frzs b o xs q)
/-! ### promises -/
/-- a def's promise by data: arguments, mutable objects, what follows, what follows an exception -/
abbrev SpD := List D → Mo → DK → (Addr → Mo → Prop) → Prop
def spV (K : PySem.W.Frag) (sp : SpD) : Sp := fun vs H Q E => ∃ (F : Hp) (μ : Mo) (ds : List D) (Q' : DK) (ξ : Addr → Mo → Prop), RelM K F H μ ∧ RpL K F vs ds ∧ sp ds μ Q' ξ ∧
  (∀ F' H' μ' v x, Same F F' → RelM K F' H' μ' → Rp K F' v x → Q' x μ' → Q v H') ∧ (∀ F' H' μ' c, Same F F' → RelM K F' H' μ' → ξ c μ' → E (.ref c) none H')
def FnD (P : Program) (w : World) (K : PySem.W.Frag) (mg : Str → Option Value) (base : Heap) (k : Nat) (f : Addr) (sp : SpD) : Prop := FnR P w K mg base (L2N.CX P w) k f (spV K sp)
section
variable {P : Program} {w : World} {K : PySem.W.Frag} {mg : Str → Option Value} {base : Heap} {j k : Nat} {f : Addr} {sp sp' : SpD}
theorem FnD.mono (F : FnD P w K mg base j f sp) (h : j ≤ k) : FnD P w K mg base k f sp := FnR.mono F h
theorem FnD.imp (F : FnD P w K mg base k f sp) (h : ∀ ds μ Q ξ, sp' ds μ Q ξ → sp ds μ Q ξ) : FnD P w K mg base k f sp' := FnR.imp F fun vs H Q E ⟨F0, μ, ds, Q', ξ, a, b, c, d⟩ => ⟨F0, μ, ds, Q', ξ, a, b, h _ _ _ _ c, d⟩
/-- less is told of the mutable objects -/
def Less (μ μ' : Mo) : Prop := ∀ a m, μ a = some m → μ' a = some m
theorem Less.refl (μ : Mo) : Less μ μ := fun _ _ h => h
theorem Less.trans {μ1 μ2 μ3 : Mo} (a : Less μ1 μ2) (b : Less μ2 μ3) : Less μ1 μ3 := fun x m h => b x m (a x m h)
theorem Less.new {μ : Mo} {p : Addr} {m : Option Mu} (h : μ p = none) : Less μ (updM μ p m) := fun a x e => by
  rw [updM_ne (fun z => by rw [z, h] at e; cases e)]; exact e
/-- a new object that was written, or is let go -/
theorem Less.put {μ μ' : Mo} {p : Addr} {m : Option Mu} (l : Less μ μ') (h : μ p = none) : Less μ (updM μ' p m) := fun a x e => by
  rw [updM_ne (fun z => by rw [z, h] at e; cases e)]; exact l a x e
theorem Less.upd {μ μ' : Mo} {p : Addr} {m : Option Mu} (l : Less μ μ') : Less (updM μ p m) (updM μ' p m) := fun a x e => by
  by_cases h : a = p
  · subst h; rw [updM_same] at e ⊢; exact e
  · rw [updM_ne h] at e ⊢; exact l a x e
def DropQ (Q : DK) : DK := fun x μ' => ∃ μ'', Less μ'' μ' ∧ Q x μ''
def startD (N : List Str) (ds : List D) : Slots := ds.map some ++ List.replicate (N.length - ds.length) none
theorem relS_start {K : PySem.W.Frag} {F : Hp} {N : List Str} {vs : List V} {ds : List D} (r : RpL K F vs ds) : RelS K F (L2.start N vs) (startD N ds) := by
  unfold L2.start startD
  rw [r.length]
  refine ⟨by simp [r.length], fun i d e => ?_⟩
  by_cases hi : i < ds.length
  · rw [List.getElem?_append_left (by simpa using hi), List.getElem?_map] at e
    cases q : ds[i]? with
    | none => rw [q] at e; cases e
    | some x =>
      rw [q] at e; cases e
      obtain ⟨v, hv, rv⟩ := r.get q
      exact ⟨v, by rw [List.getElem?_append_left (by rw [List.length_map, r.length]; exact hi), List.getElem?_map, hv] <;> rfl, rv⟩
  · rw [List.getElem?_append_right (by simpa using hi), List.getElem?_replicate] at e
    split at e <;> cases e
/-- a def's code object -/
def codeA (K : PySem.W.Frag) (f : Addr) : Addr := match K.lookup f with
  | some ⟨_, _, .func fd, _⟩ => (match fd.code with
    | .ref c => c
    | _ => 0)
  | _ => 0
theorem codeA_eq {K : PySem.W.Frag} {f : Addr} {oc cd : Value} {od : Option Addr} {osl : Array (Option Value)} {fd : FuncData} {q : Str} (lk : K.lookup f = some ⟨oc, od, .func fd, osl⟩) (e : fd.code = cd) (h : PySem.W.codeIn K cd q = true) : cd = .ref (codeA K f) := by
  unfold codeA
  rw [lk]
  show cd = .ref (match fd.code with | .ref c => c | _ => 0)
  rw [e]
  cases cd with
  | ref c => rfl
  | _ => cases h
abbrev cxD (P : Program) (w : World) (K : PySem.W.Frag) (mg : Str → Option Value) (base : Heap) (N : List Str) (qual : Str) (scope : Scope) (f : Addr) (cd : Value) (A : Around) (outer : List Env) (s : Shared) (H : Hp) (E : XK) : Cx :=
  cxOf (L2N.CX P w) P w K mg base N qual scope f cd A outer s H E
theorem passD {N : List Str} {qual : Str} {scope : Scope} {cd : Value} {A : Around} {outer : List Env} {s : Shared} {H : Hp} {E : XK} :
    Passes (L2N.CX P w) (cxD P w K mg base N qual scope f cd A outer s H E) E := fun pins σ H' s' e s'' I c =>
  L2N.passes_call (X := cxD P w K mg base N qual scope f cd A outer s H E) (L2N.takes_of rfl rfl rfl rfl) (fun _ _ _ _ h => h) pins σ H' s' e s'' I c
/-- THE RULE for a def without defaults -/
theorem fnOkD {x qual : Str} {params : Arguments} {body : List Stmt} {scope : Scope} {fd : FuncData} {N ps : List Str} (F : FunD K x qual params body scope [] [] f fd) (S : FnScope N ps scope)
    (hl : ∀ ds μ Q ξ, sp ds μ Q ξ → ds.length = ps.length)
    (hbody : ∀ (cdv : Value) (hcd : cdv = .ref (codeA K f)) (A : Around) (outer : List Env) (s : Shared) (H : Hp) (E : XK) (Φ : Hp) (ξ : Addr → Mo → Prop) (ok : ∀ F H μ c, Same Φ F → RelM K F H μ → ξ c μ → E (.ref c) none H) (ds : List D) (μ : Mo) (Q : DK),
      Room k (A.deeper (envOfC qual scope s.heap.objs.size f cdv)) → sp ds μ Q ξ →
      ∃ d, XSs (cxD P w K mg base N qual scope f cdv A outer s H E) ⟨Φ, E, ξ, ok⟩ body d ∧ d { nx := fun _ μ' => DropQ Q .non μ', rt := DropQ Q } (startD N ds) μ) : FnOk P w K mg base (L2N.CX P w) (k + 1) f fd ps (spV K sp) := by
  have hlV : ∀ vs H Q E, spV K sp vs H Q E → vs.length = ps.length := fun vs H Q E ⟨F0, μ, ds, Q', ξ, a, b, c, d⟩ => by rw [b.length]; exact hl _ _ _ _ c
  obtain ⟨oc, od, dV, kV, doc, pm, an, cdv, ct, osl, rfl, lk, hcd, _, _⟩ := F.ex
  refine fn_of lk hcd S hlV fun A outer s H vs Q E hr ⟨F0, μ, ds, Q', ξ, R, r, h, kq, kx⟩ => ?_
  obtain ⟨d, ⟨t, p, z⟩, hd⟩ := hbody cdv (codeA_eq lk rfl hcd) A outer s H E F0 ξ kx ds μ Q' hr h
  refine ⟨t, p, z F0 H _ _ μ _ _ ⟨Same.refl _, R, relS_start r⟩ hd ⟨fun F' H' σ' δ' μ' s1 R1 ⟨μ2, l, q⟩ => ?_, fun F' H' μ' v x s1 R1 r1 ⟨μ2, l, q⟩ => ?_, fun _ _ _ _ _ _ _ q => q, fun _ _ _ _ _ _ _ q => q⟩⟩
  · exact kq F' H' μ2 .non .non s1 (R1.m.drop l) .non q
  · exact kq F' H' μ2 v x s1 (R1.drop l) r1 q
theorem fnD {x qual : Str} {params : Arguments} {body : List Stmt} {scope : Scope} {fd : FuncData} {N ps : List Str} (F : FunD K x qual params body scope [] [] f fd) (S : FnScope N ps scope) (hb : Binds K fd ps [])
    (hl : ∀ ds μ Q ξ, sp ds μ Q ξ → ds.length = ps.length)
    (hbody : ∀ (cdv : Value) (hcd : cdv = .ref (codeA K f)) (A : Around) (outer : List Env) (s : Shared) (H : Hp) (E : XK) (Φ : Hp) (ξ : Addr → Mo → Prop) (ok : ∀ F H μ c, Same Φ F → RelM K F H μ → ξ c μ → E (.ref c) none H) (ds : List D) (μ : Mo) (Q : DK),
      Room k (A.deeper (envOfC qual scope s.heap.objs.size f cdv)) → sp ds μ Q ξ →
      ∃ d, XSs (cxD P w K mg base N qual scope f cdv A outer s H E) ⟨Φ, E, ξ, ok⟩ body d ∧ d { nx := fun _ μ' => DropQ Q .non μ', rt := DropQ Q } (startD N ds) μ) : FnD P w K mg base (k + 1) f sp := by
  have z := (fnOkD (mg := mg) (base := base) F S hl hbody).raw hb .nil
  exact fun A outer s H us vs Q E hr e0 r hs => z A outer s H us vs Q E hr e0 r (by show spV K sp (vs ++ []) H Q E; rw [List.append_nil]; exact hs)
/-- .. with what is left over as a tuple: def f(a, .., *v) -/
theorem fnStar {x qual : Str} {params : Arguments} {body : List Stmt} {scope : Scope} {fd : FuncData} {N ps : List Str} {pv : Str} (F : FunD K x qual params body scope [] [] f fd) (S : FnScope N (ps ++ [pv]) scope)
    (hb : ∀ (kV doc pm : Value) (an : Option Addr) (cdv ct : Value) (us rest : List Value), us.length = ps.length → bindArgs (PySem.W.fnOf x qual params body scope .none kV doc pm an cdv ct) ⟨us ++ rest, []⟩ = (newTuple rest >>= fun t => pure (ps.zip us ++ [(pv, t)])))
    (hbody : ∀ (cdv : Value) (A : Around) (outer : List Env) (s : Shared) (H : Hp) (E : XK) (Φ : Hp) (ξ : Addr → Mo → Prop) (ok : ∀ F H μ c, Same Φ F → RelM K F H μ → ξ c μ → E (.ref c) none H) (ds : List D) (μ : Mo) (Q : DK),
      Room k (A.deeper (envOfC qual scope s.heap.objs.size f cdv)) → sp ds μ Q ξ →
      ∃ d, XSs (cxD P w K mg base N qual scope f cdv A outer s H E) ⟨Φ, E, ξ, ok⟩ body d ∧ d { nx := fun _ μ' => DropQ Q .non μ', rt := DropQ Q } (startD N ds) μ) :
    FnD P w K mg base (k + 1) f (fun ds μ Q ξ => ∃ ws rest, ds = ws ++ rest ∧ ws.length = ps.length ∧ rest.length ≤ sizeLine ∧ sp (ws ++ [.tup rest]) μ Q ξ) := by
  obtain ⟨oc, od, dV, kV, doc, pm, an, cdv, ct, osl, rfl, lk, hcd, hD, _⟩ := F.ex
  rcases hD with ⟨_, rfl⟩ | ⟨e, _⟩
  · have F1 := StX.fn_star (CX := L2N.CX P w) (P := P) (w := w) (mg := mg) (base := base) (k := k) (ps := ps) (pv := pv) (N := N) (sp := spV K sp) lk hcd S cxUpN (hb kV doc pm an cdv ct) (fun A outer s H vs Q E hr ⟨F0, μ, ds, Q', ξ, R, r, h, kq, kx⟩ => by
      obtain ⟨d, ⟨t, p, z⟩, hd⟩ := hbody cdv A outer s H E F0 ξ kx ds μ Q' hr h
      refine ⟨t, p, z F0 H _ _ μ _ _ ⟨Same.refl _, R, relS_start r⟩ hd ⟨fun F' H' σ' δ' μ' s1 R1 ⟨μ2, l, q⟩ => ?_, fun F' H' μ' v x s1 R1 r1 ⟨μ2, l, q⟩ => ?_, fun _ _ _ _ _ _ _ q => q, fun _ _ _ _ _ _ _ q => q⟩⟩
      · exact kq F' H' μ2 .non .non s1 (R1.m.drop l) .non q
      · exact kq F' H' μ2 v x s1 (R1.drop l) r1 q)
    refine FnR.imp F1 fun vs H Q E ⟨F0, μ, ds, Q', ξ, R, r, ⟨ws, rest, e, hl, hz, h⟩, kq, kx⟩ => ?_
    subst e
    have e1 : vs = vs.take ws.length ++ vs.drop ws.length := (List.take_append_drop _ _).symm
    have r1 : RpL K F0 (vs.take ws.length) ws := by have := r.take ws.length; rwa [List.take_left] at this
    have r2 : RpL K F0 (vs.drop ws.length) rest := by have := r.drop ws.length; rwa [List.drop_left] at this
    refine ⟨_, _, e1, by rw [r1.length]; exact hl, by rw [r2.length]; exact hz, fun p hp => ?_⟩
    have s1 := same_upd (o := .tup (vs.drop ws.length)) (R.freeF hp)
    exact ⟨_, μ, _, Q', ξ, R.laid hp _, (r1.mono s1).append (.cons (.tup upd_same (r2.mono s1)) .nil), h, fun F' H' μ' v x s2 => kq F' H' μ' v x (s1.trans s2), fun F' H' μ' c s2 => kx F' H' μ' c (s1.trans s2)⟩
  · exact absurd rfl e
end

/-! ### calls -/
def dCall (sp : SpD) (ξ : Addr → Mo → Prop) (da : DA) : DE := fun δ μ Q => da δ μ fun xs μ1 => sp xs μ1 Q ξ
section
variable {X : Cx} {G : Gx X.K} {k : Nat} {f C g p : Addr} {sp : SpD} {x m : Str} {e o : Expr} {es : List Expr} {da : DA} {de : DE} {pn pos apos : Pos} {mc : Value}
theorem pe_callR {CX : CXT} {sv : Sp} {E : XK} {t : TA} (F : FnR X.prog X.w X.K X.mg X.base CX k f sv) (hr : Room k X.A) (hg : Gl X x) (hm : X.mg x = some (.ref f)) (hk : PySem.W.keepIn X.K (.ref f) = true) (hx : Passes CX X E)
    (ha : PA X (e :: es) t) (hdb : (x == ("__debug__" : Str)) = false := by decide) (he : starEach (e :: es) X.env = (false, eval e X.env) :: starEach es X.env := by rfl) (hpl : (backTo pos (starEach es X.env)).any (·.1) = false := by rfl) :
    PE X (.Call (.Name x pn) (e :: es) [] pos) (fun σ H Q => t σ H fun vs H1 => sv vs H1 Q E) := by
  refine ⟨fun pins s σ H Q I h => ?_⟩
  refine wpAny_Call_Name_kw (ld_glob I hg hm ?_ hdb)
  refine PySem.W.callWith_K (h₀ := X.base) I.ok.mod.kin hk (thn (ha.run pos pins s σ H _ I h) fun us s1 ⟨vs, H1, I1, r, q⟩ => ⟨I1.kIn, ?_⟩) he hpl
  exact wpAny_call (run_fnR F hr hx I1 r q)
theorem sim_call {t : TA} (s : SimA X.K G t da) : SimE X.K G (fun σ H Q => t σ H fun vs H1 => spV X.K sp vs H1 Q G.E) (dCall sp G.ξ da) := fun F H σ δ μ Q' Q R h k =>
  s F H σ δ μ _ _ R h fun F1 H1 μ1 vs xs s1 R1 r1 h1 => ⟨F1, μ1, xs, Q', G.ξ, R1.m, r1, h1, fun F2 H2 μ2 v z s2 R2 r2 q2 => k F2 H2 μ2 v z (s1.trans s2) (R1.to s2 R2) r2 q2, fun F2 H2 μ2 c s2 R2 q2 => G.ok F2 H2 μ2 c (R1.fl.trans s2) R2 q2⟩
theorem xe_call (F : FnD X.prog X.w X.K X.mg X.base k f sp) (hr : Room k X.A) (hm : X.mg x = some (.ref f)) (hk : PySem.W.keepIn X.K (.ref f) = true) (ha : XA X G (e :: es) da) (hx : Passes (L2N.CX X.prog X.w) X G.E := by first | exact passD | exact passLN) (hg : Gl X x := by rfl)
    (hdb : (x == ("__debug__" : Str)) = false := by decide) (he : starEach (e :: es) X.env = (false, eval e X.env) :: starEach es X.env := by rfl) (hpl : (backTo pos (starEach es X.env)).any (·.1) = false := by rfl) :
    XE X G (.Call (.Name x pn) (e :: es) [] pos) (dCall sp G.ξ da) := by
  obtain ⟨t, p, s⟩ := ha
  exact ⟨_, pe_callR F hr hg hm hk hx p hdb he hpl, sim_call s⟩

/-! ### methods of an instance -/
theorem pe_methR {CX : CXT} {sv : Sp} {E : XK} {ta : TE} {t : TA} {pl : Sem Bool} (he : PE X o ta) (c : Cls X.K C) (hm : Meth X.K C m g) (F : FnR X.prog X.w X.K X.mg X.base CX k g sv) (hr : Room k X.A) (hx : Passes CX X E) (ha : PA X (e :: es) t)
    (hst : starEach (e :: es) X.env = (false, eval e X.env) :: starEach es X.env := by rfl) (hpl : (backTo pos (starEach es X.env)).any (·.1) = false := by rfl)
    (ht : eval (.Call (.Attribute o m apos) (e :: es) [] pos) X.env = (do
      let ov ← eval o X.env
      standAt apos.atName
      let (f, first) ← holding [ov] (getMethod ov m pl)
      callWith pos f first (backTo pos (starEach (e :: es) X.env)) (backToKw pos (keywordEach [] X.env))) := by rfl) :
    PE X (.Call (.Attribute o m apos) (e :: es) [] pos) (fun σ H Q => ta σ H fun x H1 => ∃ a dx fs, x = .ref a ∧ H1 a = some (.ins C dx fs) ∧ fs.lookup m = none ∧ t σ H1 fun vs H2 => sv (x :: vs) H2 Q E) := by
  refine ⟨fun pins s σ H Q I h => ?_⟩
  refine PySem.W.methodCall_KW (pl := pl) (thn (he.run pins s σ H _ I h) fun u s1 ⟨x, H1, I1, rx, a, dx, fs, ex, ea, l, q⟩ => ?_) ht
  subst ex
  obtain rfl : u = Value.ref a := rx
  refine getmeth_ok I1 ea c hm l ?_
  refine PySem.W.callWith_K (first := [.ref a]) (h₀ := X.base) I.ok.mod.kin hm.kp (thn (ha.run pos pins s1 σ H1 _ I1 q) fun us s2 ⟨vs, H2, I2, r, q2⟩ => ⟨I2.kIn, ?_⟩) hst hpl
  exact wpAny_call (run_fnR (us := .ref a :: us) (vs := .ref a :: vs) F hr hx I2 (.cons rfl r) q2)
theorem pe_meth0R {CX : CXT} {sv : Sp} {E : XK} {ta : TE} {pl : Sem Bool} (he : PE X o ta) (c : Cls X.K C) (hm : Meth X.K C m g) (F : FnR X.prog X.w X.K X.mg X.base CX k g sv) (hr : Room k X.A) (hx : Passes CX X E)
    (ht : eval (.Call (.Attribute o m apos) [] [] pos) X.env = (do
      let ov ← eval o X.env
      standAt apos.atName
      let (f, first) ← holding [ov] (getMethod ov m pl)
      callWith pos f first (backTo pos (starEach [] X.env)) (backToKw pos (keywordEach [] X.env))) := by rfl) :
    PE X (.Call (.Attribute o m apos) [] [] pos) (fun σ H Q => ta σ H fun x H1 => ∃ a dx fs, x = .ref a ∧ H1 a = some (.ins C dx fs) ∧ fs.lookup m = none ∧ sv [x] H1 Q E) := by
  refine ⟨fun pins s σ H Q I h => ?_⟩
  refine PySem.W.methodCall_KW (pl := pl) (thn (he.run pins s σ H _ I h) fun u s1 ⟨x, H1, I1, rx, a, dx, fs, ex, ea, l, q⟩ => ?_) ht
  subst ex
  obtain rfl : u = Value.ref a := rx
  refine getmeth_ok I1 ea c hm l ?_
  exact PySem.W.callWith_K0 (first := [.ref a]) I1.kIn hm.kp (wpAny_call (run_fnR (us := [.ref a]) (vs := [.ref a]) F hr hx I1 (.cons rfl .nil) q))
/-- the receiver: a rule, or an instance that changes -/
def RcvOk (K : PySem.W.Frag) (C : Addr) (m : Str) (μ : Mo) (x : D) : Prop := (C = He.ga K "Rule" ∧ ("step" : Str) ≠ m ∧ ("border" : Str) ≠ m ∧ ∃ c b, x = .rule c b) ∨ ∃ p fs, x = .ref p ∧ μ p = some (.ins C fs) ∧ fs.lookup m = none
theorem lookup_none {m : Str} : ∀ {vfs : List (Str × V)} {fs : List (Str × D)} {K : PySem.W.Frag} {F : Hp}, Paired (fun (p : Str × V) (q : Str × D) => p.1 = q.1 ∧ Rp K F p.2 q.2) vfs fs → fs.lookup m = none → vfs.lookup m = none
  | _, _, _, _, .nil, _ => rfl
  | (a, v) :: vfs, (b, d) :: fs, K, F, .cons r t, h => by
    obtain ⟨e, _⟩ := r
    cases e
    unfold List.lookup at h ⊢
    cases q : (m == a) with
    | true => simp only [q] at h; cases h
    | false => simp only [q] at h ⊢; exact lookup_none t h
theorem lookup_some {m : Str} {d : D} : ∀ {vfs : List (Str × V)} {fs : List (Str × D)} {K : PySem.W.Frag} {F : Hp}, Paired (fun (p : Str × V) (q : Str × D) => p.1 = q.1 ∧ Rp K F p.2 q.2) vfs fs → fs.lookup m = some d → ∃ v, vfs.lookup m = some v ∧ Rp K F v d
  | _, _, _, _, .nil, h => by cases h
  | (a, v) :: vfs, (b, d') :: fs, K, F, .cons r t, h => by
    obtain ⟨e, rv⟩ := r
    cases e
    unfold List.lookup at h ⊢
    cases q : (m == a) with
    | true => simp only [q] at h ⊢; cases h; exact ⟨v, rfl, rv⟩
    | false => simp only [q] at h ⊢; exact lookup_some t h
theorem ruleF_none {c b : Int} {m : Str} (h1 : ("step" : Str) ≠ m) (h2 : ("border" : Str) ≠ m) : (ruleF c b).lookup m = none := by
  unfold List.lookup
  rw [show (m == ("step" : Str)) = false from beq_eq_false_iff_ne.mpr (Ne.symm h1)]
  show List.lookup m [(("border" : Str), V.int b)] = none
  unfold List.lookup
  rw [show (m == ("border" : Str)) = false from beq_eq_false_iff_ne.mpr (Ne.symm h2)]
  rfl
theorem ruleF_step {c b : Int} : (ruleF c b).lookup ("step" : Str) = some (.int c) := List.lookup_cons_self ..
theorem ruleF_border {c b : Int} : (ruleF c b).lookup ("border" : Str) = some (.int b) := by
  unfold List.lookup
  rw [show (("border" : Str) == ("step" : Str)) = false by decide]
  exact List.lookup_cons_self ..
theorem rcv {K : PySem.W.Frag} {F H : Hp} {μ : Mo} {v : V} {x : D} (R : RelM K F H μ) (r : Rp K F v x) (h : RcvOk K C m μ x) : ∃ a dx fs, v = .ref a ∧ H a = some (.ins C dx fs) ∧ fs.lookup m = none := by
  rcases h with ⟨e, h1, h2, c, b, e2⟩ | ⟨p, fs, e, hm, hl⟩
  · subst e2
    cases r with
    | rule q => exact ⟨_, _, _, rfl, by rw [e]; exact R.sub _ _ q, ruleF_none h1 h2⟩
  · subst e
    cases r
    obtain ⟨f, dx, vfs, h1, h2⟩ := R.mu p _ hm
    exact ⟨p, dx, vfs, rfl, h1, lookup_none h2 hl⟩
def dMeth (K : PySem.W.Frag) (C : Addr) (m : Str) (sp : SpD) (ξ : Addr → Mo → Prop) (de : DE) (da : DA) : DE := fun δ μ Q => de δ μ fun x μ1 => RcvOk K C m μ1 x ∧ da δ μ1 fun xs μ2 => sp (x :: xs) μ2 Q ξ
def dMeth0 (K : PySem.W.Frag) (C : Addr) (m : Str) (sp : SpD) (ξ : Addr → Mo → Prop) (de : DE) : DE := fun δ μ Q => de δ μ fun x μ1 => RcvOk K C m μ1 x ∧ sp [x] μ1 Q ξ
theorem xe_meth {pl : Sem Bool} (he : XE X G o de) (c : Cls X.K C) (hm : Meth X.K C m g) (F : FnD X.prog X.w X.K X.mg X.base k g sp) (hr : Room k X.A) (ha : XA X G (e :: es) da) (hx : Passes (L2N.CX X.prog X.w) X G.E := by first | exact passD | exact passLN)
    (hst : starEach (e :: es) X.env = (false, eval e X.env) :: starEach es X.env := by rfl) (hpl : (backTo pos (starEach es X.env)).any (·.1) = false := by rfl)
    (ht : eval (.Call (.Attribute o m apos) (e :: es) [] pos) X.env = (do
      let ov ← eval o X.env
      standAt apos.atName
      let (f, first) ← holding [ov] (getMethod ov m pl)
      callWith pos f first (backTo pos (starEach (e :: es) X.env)) (backToKw pos (keywordEach [] X.env))) := by rfl) :
    XE X G (.Call (.Attribute o m apos) (e :: es) [] pos) (dMeth X.K C m sp G.ξ de da) := by
  obtain ⟨t, p, s⟩ := he
  obtain ⟨u, q, z⟩ := ha
  refine ⟨_, pe_methR p c hm F hr hx q hst hpl ht, fun F H σ δ μ Q' Q R h k => s F H σ δ μ _ _ R h fun F1 H1 μ1 v x s1 R1 r1 ⟨hrc, h1⟩ => ?_⟩
  obtain ⟨a, dx, fs, e1, e2, e3⟩ := rcv R1.m r1 hrc
  refine ⟨a, dx, fs, e1, e2, e3, z F1 H1 σ δ μ1 _ _ R1 h1 fun F2 H2 μ2 vs xs s2 R2 r2 h2 => ?_⟩
  exact ⟨F2, μ2, x :: xs, Q', G.ξ, R2.m, .cons (r1.mono s2) r2, h2, fun F3 H3 μ3 v z s3 R3 r3 q3 => k F3 H3 μ3 v z ((s1.trans s2).trans s3) (R2.to s3 R3) r3 q3, fun F3 H3 μ3 c s3 R3 q3 => G.ok F3 H3 μ3 c (R2.fl.trans s3) R3 q3⟩
theorem xe_meth0 {pl : Sem Bool} (he : XE X G o de) (c : Cls X.K C) (hm : Meth X.K C m g) (F : FnD X.prog X.w X.K X.mg X.base k g sp) (hr : Room k X.A) (hx : Passes (L2N.CX X.prog X.w) X G.E := by first | exact passD | exact passLN)
    (ht : eval (.Call (.Attribute o m apos) [] [] pos) X.env = (do
      let ov ← eval o X.env
      standAt apos.atName
      let (f, first) ← holding [ov] (getMethod ov m pl)
      callWith pos f first (backTo pos (starEach [] X.env)) (backToKw pos (keywordEach [] X.env))) := by rfl) :
    XE X G (.Call (.Attribute o m apos) [] [] pos) (dMeth0 X.K C m sp G.ξ de) := by
  obtain ⟨t, p, s⟩ := he
  refine ⟨_, pe_meth0R p c hm F hr hx ht, fun F H σ δ μ Q' Q R h k => s F H σ δ μ _ _ R h fun F1 H1 μ1 v x s1 R1 r1 ⟨hrc, h1⟩ => ?_⟩
  obtain ⟨a, dx, fs, e1, e2, e3⟩ := rcv R1.m r1 hrc
  exact ⟨a, dx, fs, e1, e2, e3, F1, μ1, [x], Q', G.ξ, R1.m, .cons r1 .nil, h1, fun F3 H3 μ3 v z s3 R3 r3 q3 => k F3 H3 μ3 v z (s1.trans s3) (R1.to s3 R3) r3 q3, fun F3 H3 μ3 c s3 R3 q3 => G.ok F3 H3 μ3 c (R1.fl.trans s3) R3 q3⟩

/-! ### attributes -/
/-- an attribute of a rule, of an instance that changes -/
def FldIs (K : PySem.W.Frag) (C : Addr) (fl : Str) (μ : Mo) (x d : D) : Prop := (C = He.ga K "Rule" ∧ ∃ c b, x = .rule c b ∧ ((fl = "step" ∧ d = .int c) ∨ (fl = "border" ∧ d = .int b))) ∨ ∃ p fs, x = .ref p ∧ μ p = some (.ins C fs) ∧ fs.lookup fl = some d
def dFld (K : PySem.W.Frag) (C : Addr) (fl : Str) (de : DE) : DE := fun δ μ Q => de δ μ fun x μ1 => ∃ d, FldIs K C fl μ1 x d ∧ Q d μ1
theorem xe_fld {fl : Str} (he : XE X G e de) (c : Cls X.K C) (n : NoAttr X.K C fl) (hb : attributeBase e fl X.env (eval e X.env) = eval e X.env := by rfl) : XE X G (.Attribute e fl pos) (dFld X.K C fl de) := by
  obtain ⟨t, p, s⟩ := he
  refine ⟨_, pe_fld p hb, fun F H σ δ μ Q' Q R h k => s F H σ δ μ _ _ R h fun F1 H1 μ1 v x s1 R1 r1 ⟨d, hf, h1⟩ => ?_⟩
  rcases hf with ⟨e, cc, b, e2, hd⟩ | ⟨p, fs, e, hm, hl⟩
  · subst e2
    cases r1 with
    | rule q =>
      have q2 := R1.m.sub _ _ q
      rw [← e] at q2
      rcases hd with ⟨e3, e4⟩ | ⟨e3, e4⟩
      · subst e3 e4
        exact ⟨_, C, _, _, .int cc, rfl, q2, c, n, ruleF_step, k F1 H1 μ1 _ _ s1 R1 .int h1⟩
      · subst e3 e4
        exact ⟨_, C, _, _, .int b, rfl, q2, c, n, ruleF_border, k F1 H1 μ1 _ _ s1 R1 .int h1⟩
  · subst e
    cases r1
    obtain ⟨f, dx, vfs, h2, h3⟩ := R1.m.mu p _ hm
    obtain ⟨w, hw, rw⟩ := lookup_some h3 hl
    exact ⟨p, C, dx, vfs, w, rfl, h2, c, n, hw, k F1 H1 μ1 _ _ s1 R1 rw h1⟩
def putD (f : Str) (v : D) : List (Str × D) → List (Str × D)
  | [] => [(f, v)]
  | (g, x) :: r => if g = f then (g, v) :: r else (g, x) :: putD f v r
theorem put_rp {K : PySem.W.Frag} {F : Hp} {fl : Str} {v : V} {d : D} (r : Rp K F v d) : ∀ {vfs : List (Str × V)} {fs : List (Str × D)}, Paired (fun (p : Str × V) (q : Str × D) => p.1 = q.1 ∧ Rp K F p.2 q.2) vfs fs → Paired (fun (p : Str × V) (q : Str × D) => p.1 = q.1 ∧ Rp K F p.2 q.2) (putF fl v vfs) (putD fl d fs)
  | _, _, .nil => .cons ⟨rfl, r⟩ .nil
  | (a, x) :: vfs, (b, y) :: fs, .cons q t => by
    obtain ⟨e, ry⟩ := q
    cases e
    show Paired _ (if a = fl then (a, v) :: vfs else (a, x) :: putF fl v vfs) (if a = fl then (a, d) :: fs else (a, y) :: putD fl d fs)
    by_cases h : a = fl
    · rw [if_pos h, if_pos h]; exact .cons ⟨rfl, r⟩ t
    · rw [if_neg h, if_neg h]; exact .cons ⟨rfl, ry⟩ (put_rp r t)
theorem paired_len {α β : Type} {R : α → β → Prop} : ∀ {xs : List α} {ys : List β}, Paired R xs ys → xs.length = ys.length
  | _, _, .nil => rfl
  | _, _, .cons _ t => congrArg (· + 1) (paired_len t)
/-- o.f = e -/
def dFldSet (C : Addr) (fl : Str) (de dv : DE) : DS := fun D δ μ => dv δ μ fun y μ1 => de δ μ1 fun x μ2 => ∃ p fs, x = .ref p ∧ μ2 p = some (.ins C fs) ∧ fs.length < 1000 ∧ D.nx δ (updM μ2 p (some (.ins C (putD fl y fs))))
theorem xs_fld {value : Expr} {dv : DE} {fl : Str} {pos' : Pos} (ho : XE X G o de) (hv : XE X G value dv) (c : Cls X.K C) (n : NoAttr X.K C fl) (hs : swapsWith value (some (.Attribute o fl pos')) pos.line X.env = pure false := by rfl) :
    XS X G (.Assign [.Attribute o fl pos'] value pos) (dFldSet C fl de dv) := by
  obtain ⟨t, p, s⟩ := ho
  obtain ⟨u, q, z⟩ := hv
  refine ⟨_, ps_fld p q hs, fun F H σ δ μ D' D R h k => z F H σ δ μ _ _ R h fun F1 H1 μ1 v1 y s1 R1 r1 h1 => s F1 H1 σ δ μ1 _ _ R1 h1 fun F2 H2 μ2 v2 x s2 R2 r2 ⟨p, fs, e, hm, hl, h2⟩ => ?_⟩
  subst e
  cases r2
  obtain ⟨f, dx, vfs, h3, h4⟩ := R2.m.mu p _ hm
  refine ⟨p, C, dx, vfs, rfl, h3, c, n, by rw [paired_len h4]; exact hl, ?_⟩
  exact k.nx F2 _ σ δ _ (s1.trans s2) (R2.to (Same.refl _) (R2.m.put f (show MuAt X.K F2 (upd H2 p (.ins C dx (putF fl v1 vfs))) p (.ins C (putD fl y fs)) from ⟨dx, _, upd_same, put_rp (r1.mono s2) h4⟩))) h2

/-! ### a new instance -/
def MkQ (K : PySem.W.Frag) (C a : Addr) (frz : Bool) (Q : DK) : DK := fun v μ2 => v = .non ∧ (if frz = true then ∃ c b, C = He.ga K "Rule" ∧ μ2 a = some (.ins C (ruleD c b)) ∧ Q (.rule c b) (updM μ2 a none) else Q (.ref a) μ2)
/-- C(..): frz: a rule, which does not change any more -/
def dMake (K : PySem.W.Frag) (C : Addr) (frz : Bool) (sp : SpD) (ξ : Addr → Mo → Prop) (da : DA) : DE := fun δ μ Q => da δ μ fun xs μ1 => ∀ a, μ1 a = none → sp (.ref a :: xs) (updM μ1 a (some (.ins C []))) (MkQ K C a frz Q) ξ
theorem sim_make (frz : Bool) {t : TA} (s : SimA X.K G t da) : SimE X.K G (StX.tMakeR C (spV X.K sp) G.E t) (dMake X.K C frz sp G.ξ da) := fun F H σ δ μ Q' Q R h k =>
  s F H σ δ μ _ _ R h fun F1 H1 μ1 vs xs s1 R1 r1 h1 => fun a dx ha hdx hne => by
    have m1 : RelM X.K F1 (upd H1 dx (.own a)) μ1 := R1.m.other hdx _
    have fa : F1 a = none := R1.m.freeF ha
    have m2 : RelM X.K F1 (upd (upd H1 dx (.own a)) a (.ins C dx [])) (updM μ1 a (some (.ins C []))) := m1.put fa ⟨dx, [], upd_same, .nil⟩
    refine ⟨F1, _, _, MkQ X.K C a frz Q', G.ξ, m2, .cons .ref r1, h1 a (R1.m.freeM ha), fun F2 H2 μ2 v z s2 R2 r2 qq => ?_, fun F2 H2 μ2 c s2 R2 q2 => G.ok F2 H2 μ2 c (R1.fl.trans s2) R2 q2⟩
    obtain ⟨e, q2⟩ := (show z = .non ∧ (if frz = true then ∃ c b, C = He.ga X.K "Rule" ∧ μ2 a = some (.ins C (ruleD c b)) ∧ Q' (.rule c b) (updM μ2 a none) else Q' (.ref a) μ2) from qq)
    subst e
    cases r2
    refine ⟨rfl, ?_⟩
    cases frz with
    | false => exact k F2 H2 μ2 _ _ (s1.trans s2) (R1.to s2 R2) .ref q2
    | true =>
      obtain ⟨c, b, e, hm, q3⟩ := q2
      subst e
      obtain ⟨F3, s3, R3, r3⟩ := R2.freezeR hm
      exact k F3 H2 _ _ _ ((s1.trans s2).trans s3) (R1.to (s2.trans s3) R3) r3 q3
theorem xe_make (frz : Bool) (M : Mk X.K C f) (F : FnD X.prog X.w X.K X.mg X.base k f sp) (hr : Room (k + 1) X.A) (hm : X.mg x = some (.ref C)) (ha : XA X G (e :: es) da) (hx : Passes (L2N.CX X.prog X.w) X G.E := by first | exact passD | exact passLN) (hg : Gl X x := by rfl)
    (hdb : (x == ("__debug__" : Str)) = false := by decide) (he : starEach (e :: es) X.env = (false, eval e X.env) :: starEach es X.env := by rfl) (hpl : (backTo pos (starEach es X.env)).any (·.1) = false := by rfl) :
    XE X G (.Call (.Name x pn) (e :: es) [] pos) (dMake X.K C frz sp G.ξ da) := by
  obtain ⟨t, p, s⟩ := ha
  exact ⟨_, StX.pe_makeR M F hr hg hm hx p hdb he hpl, sim_make frz s⟩
/-- a local name that holds the class -/
def dMakeL (i : Nat) (K : PySem.W.Frag) (C : Addr) (frz : Bool) (sp : SpD) (ξ : Addr → Mo → Prop) (da : DA) : DE := fun δ μ Q => δ[i]? = some (some (.ref C)) ∧ dMake K C frz sp ξ da δ μ Q
theorem pe_makeL {CX : CXT} {sv : Sp} {E : XK} {t : TA} {i : Nat} (M : Mk X.K C f) (F : FnR X.prog X.w X.K X.mg X.base CX k f sv) (hr : Room (k + 1) X.A) (hN : X.N[i]? = some x) (hv : Vis X.env.scope x) (hx : Passes CX X E) (ha : PA X (e :: es) t)
    (hdb : (x == ("__debug__" : Str)) = false := by decide) (hcd : (x == ("__classdict__" : Str)) = false := by decide)
    (he : starEach (e :: es) X.env = (false, eval e X.env) :: starEach es X.env := by rfl) (hpl : (backTo pos (starEach es X.env)).any (·.1) = false := by rfl) : PE X (.Call (.Name x pn) (e :: es) [] pos) (fun σ H Q => σ[i]? = some (some (.ref C)) ∧ StX.tMakeR C sv E t σ H Q) := by
  refine ⟨fun pins s σ H Q I h => ?_⟩
  obtain ⟨hs, ht⟩ := h
  refine wpAny_Call_Name_kw (thn ((pe_var (pos := pn) hN hv hdb hcd).run pins s σ H (fun v H1 => v = .ref C ∧ H1 = H) I ⟨.ref C, hs, rfl, rfl⟩) fun u s1 ⟨v, H1, I1, r1, q1⟩ => ?_)
  obtain ⟨rfl, rfl⟩ := q1
  cases r1
  refine PySem.W.callWith_K (h₀ := X.base) I.ok.mod.kin M.kp (thn (ha.run pos pins s1 σ _ _ I1 ht) fun us s2 ⟨vs, H2, I2, r, q⟩ => ⟨I2.kIn, ?_⟩) he hpl
  exact StX.run_makeR M F hr hx I2 r q
theorem xe_makeL (i : Nat) (frz : Bool) (M : Mk X.K C f) (F : FnD X.prog X.w X.K X.mg X.base k f sp) (hr : Room (k + 1) X.A) (ha : XA X G (e :: es) da) (hN : X.N[i]? = some x := by rfl) (hv : Vis X.env.scope x := by first | exact Or.inl rfl | exact Or.inr (Or.inl rfl) | exact Or.inr (Or.inr rfl)) (hx : Passes (L2N.CX X.prog X.w) X G.E := by first | exact passD | exact passLN)
    (hdb : (x == ("__debug__" : Str)) = false := by decide) (hcd : (x == ("__classdict__" : Str)) = false := by decide) (he : starEach (e :: es) X.env = (false, eval e X.env) :: starEach es X.env := by rfl) (hpl : (backTo pos (starEach es X.env)).any (·.1) = false := by rfl) :
    XE X G (.Call (.Name x pn) (e :: es) [] pos) (dMakeL i X.K C frz sp G.ξ da) := by
  obtain ⟨t, p, s⟩ := ha
  refine ⟨_, pe_makeL M F hr hN hv hx p hdb hcd he hpl, fun F H σ δ μ Q' Q R ⟨e, h⟩ k => ?_⟩
  obtain ⟨v, e1, r⟩ := R.s.at_ i _ e
  cases r
  exact ⟨e1, sim_make frz s F H σ δ μ Q' Q R h k⟩

/-! ### read off a class: constants, static methods, class methods -/
theorem xe_cval {fl : Str} {v : V} {u : Value} {d : D} (he : XE X G e de) (hd : ∀ δ μ Q, de δ μ Q → Q (.ref C) μ) (r : ClX.CRead X.K C mc) (cv : ClX.CVal X.K C mc fl v u) (rv : ∀ F, Rp X.K F v d) (hb : attributeBase e fl X.env (eval e X.env) = eval e X.env := by rfl) :
    XE X G (.Attribute e fl pos) (fun δ μ Q => de δ μ fun x μ1 => x = .ref C ∧ Q d μ1) := by
  obtain ⟨t, p, s⟩ := he
  refine ⟨_, ClX.pe_cval p hb, fun F H σ δ μ Q' Q R h k => s F H σ δ μ _ _ R h fun F1 H1 μ1 w x s1 R1 r1 ⟨e, h1⟩ => ?_⟩
  subst e
  cases r1
  exact ⟨C, mc, v, u, rfl, r, cv, k F1 H1 μ1 _ _ s1 R1 (rv F1) h1⟩
/-- C.m is a static method: its record at p, its def at g -/
structure SMet (K : PySem.W.Frag) (C : Addr) (mc : Value) (m : Str) (p g : Addr) : Prop where
  at_ : PySem.W.findCls K (.ref C) mc m = some (.get (.builtin "staticmethod.__get__") (.ref p) .none (.ref C))
  rc : ∃ rest, PySem.W.recIn K p "staticmethod" = some (.ref g :: rest)
  kp : PySem.W.keepIn K (.ref g) = true
theorem pe_smeth {CX : CXT} {sv : Sp} {E : XK} {ta : TE} {t : TA} {pl : Sem Bool} (he : PE X o ta) (r : ClX.CRead X.K C mc) (c : SMet X.K C mc m p g) (F : FnR X.prog X.w X.K X.mg X.base CX k g sv) (hr : Room k X.A) (hx : Passes CX X E) (ha : PA X (e :: es) t)
    (hst : starEach (e :: es) X.env = (false, eval e X.env) :: starEach es X.env := by rfl) (hpl : (backTo pos (starEach es X.env)).any (·.1) = false := by rfl)
    (ht : eval (.Call (.Attribute o m apos) (e :: es) [] pos) X.env = (do
      let ov ← eval o X.env
      standAt apos.atName
      let (f, first) ← holding [ov] (getMethod ov m pl)
      callWith pos f first (backTo pos (starEach (e :: es) X.env)) (backToKw pos (keywordEach [] X.env))) := by rfl) :
    PE X (.Call (.Attribute o m apos) (e :: es) [] pos) (fun σ H Q => ta σ H fun x H1 => x = .ref C ∧ t σ H1 fun vs H2 => sv vs H2 Q E) := by
  refine ⟨fun pins s σ H Q I h => ?_⟩
  refine PySem.W.methodCall_KW (pl := pl) (thn (he.run pins s σ H _ I h) fun u s1 ⟨x, H1, I1, rx, ex, q⟩ => ?_) ht
  subst ex
  obtain rfl : u = Value.ref C := rx
  obtain ⟨rest, hp⟩ := c.rc
  refine PySem.W.method_cls I1.kIn r.ga (PySem.W.cls_bind I1.kIn r.rd c.at_ (wpAny_call (PySem.W.sm_get (s := { s1 with toks := s1.toks + 1 }) I1.kIn hp (PySem.W.handed_on rfl ?_))))
  have I2 := I1.tok (s1.toks + 1)
  refine PySem.W.callWith_K (first := []) (h₀ := X.base) I.ok.mod.kin c.kp (thn (ha.run pos pins _ σ H1 _ I2 q) fun us s2 ⟨vs, H2, I3, rv, q2⟩ => ⟨I3.kIn, ?_⟩) hst hpl
  exact wpAny_call (run_fnR F hr hx I3 rv q2)
def dSMeth (C : Addr) (sp : SpD) (ξ : Addr → Mo → Prop) (de : DE) (da : DA) : DE := fun δ μ Q => de δ μ fun x μ1 => x = .ref C ∧ da δ μ1 fun xs μ2 => sp xs μ2 Q ξ
theorem xe_smeth {pl : Sem Bool} (he : XE X G o de) (r : ClX.CRead X.K C mc) (c : SMet X.K C mc m p g) (F : FnD X.prog X.w X.K X.mg X.base k g sp) (hr : Room k X.A) (ha : XA X G (e :: es) da) (hx : Passes (L2N.CX X.prog X.w) X G.E := by first | exact passD | exact passLN)
    (hst : starEach (e :: es) X.env = (false, eval e X.env) :: starEach es X.env := by rfl) (hpl : (backTo pos (starEach es X.env)).any (·.1) = false := by rfl)
    (ht : eval (.Call (.Attribute o m apos) (e :: es) [] pos) X.env = (do
      let ov ← eval o X.env
      standAt apos.atName
      let (f, first) ← holding [ov] (getMethod ov m pl)
      callWith pos f first (backTo pos (starEach (e :: es) X.env)) (backToKw pos (keywordEach [] X.env))) := by rfl) :
    XE X G (.Call (.Attribute o m apos) (e :: es) [] pos) (dSMeth C sp G.ξ de da) := by
  obtain ⟨t, p, s⟩ := he
  obtain ⟨u, q, z⟩ := ha
  refine ⟨_, pe_smeth p r c F hr hx q hst hpl ht, fun F H σ δ μ Q' Q R h k => s F H σ δ μ _ _ R h fun F1 H1 μ1 v x s1 R1 r1 ⟨e, h1⟩ => ?_⟩
  subst e
  cases r1
  exact ⟨rfl, sim_call z F1 H1 σ δ μ1 Q' Q R1 h1 fun F2 H2 μ2 v z s2 => k F2 H2 μ2 v z (s1.trans s2)⟩
def dCMeth (C : Addr) (sp : SpD) (ξ : Addr → Mo → Prop) (de : DE) (da : DA) : DE := fun δ μ Q => de δ μ fun x μ1 => x = .ref C ∧ da δ μ1 fun xs μ2 => sp (.ref C :: xs) μ2 Q ξ
theorem xe_cmeth {pl : Sem Bool} (he : XE X G o de) (r : ClX.CRead X.K C mc) (c : ClX.CMet X.K C mc m p g) (F : FnD X.prog X.w X.K X.mg X.base k g sp) (hr : Room k X.A) (ha : XA X G (e :: es) da) (hx : Passes (L2N.CX X.prog X.w) X G.E := by first | exact passD | exact passLN)
    (hst : starEach (e :: es) X.env = (false, eval e X.env) :: starEach es X.env := by rfl) (hpl : (backTo pos (starEach es X.env)).any (·.1) = false := by rfl)
    (ht : eval (.Call (.Attribute o m apos) (e :: es) [] pos) X.env = (do
      let ov ← eval o X.env
      standAt apos.atName
      let (f, first) ← holding [ov] (getMethod ov m pl)
      callWith pos f first (backTo pos (starEach (e :: es) X.env)) (backToKw pos (keywordEach [] X.env))) := by rfl) :
    XE X G (.Call (.Attribute o m apos) (e :: es) [] pos) (dCMeth C sp G.ξ de da) := by
  obtain ⟨t, p, s⟩ := he
  obtain ⟨u, q, z⟩ := ha
  refine ⟨_, ClX.pe_cmeth p r c F hr hx q hst hpl ht, fun F H σ δ μ Q' Q R h k => s F H σ δ μ _ _ R h fun F1 H1 μ1 v x s1 R1 r1 ⟨e, h1⟩ => ?_⟩
  subst e
  cases r1
  refine ⟨rfl, z F1 H1 σ δ μ1 _ _ R1 h1 fun F2 H2 μ2 vs xs s2 R2 r2 h2 => ?_⟩
  exact ⟨F2, μ2, _, Q', G.ξ, R2.m, .cons .ref r2, h2, fun F3 H3 μ3 v z s3 R3 r3 q3 => k F3 H3 μ3 v z ((s1.trans s2).trans s3) (R2.to s3 R3) r3 q3, fun F3 H3 μ3 c s3 R3 q3 => G.ok F3 H3 μ3 c (R2.fl.trans s3) R3 q3⟩

/-! ### properties of a rule -/
def dProp (st : Bool) (de : DE) : DE := fun δ μ Q => de δ μ fun x μ1 => ∃ c b, x = .rule c b ∧ Q (.int (if st = true then c else b)) μ1
theorem xe_prop (st : Bool) {fl : Str} {fd : FuncData} (he : XE X G e de) (c : Cls X.K (He.ga X.K "Rule")) (hp : PropOf X.K (He.ga X.K "Rule") fl p g) (F : FnOk X.prog X.w X.K X.mg X.base (L2N.CX X.prog X.w) k g fd ["self"] (getSp (He.ga X.K "Rule") (if st = true then "step" else "border"))) (hr : Room (k + 1) X.A) (hb : Binds X.K fd ["self"] [])
    (hab : attributeBase e fl X.env (eval e X.env) = eval e X.env := by rfl) : XE X G (.Attribute e fl pos) (dProp st de) := by
  obtain ⟨t, p, s⟩ := he
  refine ⟨_, pe_prop (E := E0) p c hp F hr hb .nil passLN hab, fun F H σ δ μ Q' Q R h k => s F H σ δ μ _ _ R h fun F1 H1 μ1 v x s1 R1 r1 ⟨cc, b, e, h1⟩ => ?_⟩
  subst e
  cases r1 with
  | rule q =>
    have q2 := R1.m.sub _ _ q
    refine ⟨_, _, _, rfl, q2, _, _, _, .int (if st = true then cc else b), rfl, q2, ?_, k F1 H1 μ1 _ _ s1 R1 .int h1⟩
    cases st
    · exact ruleF_border
    · exact ruleF_step

/-! ### list.append, isinstance, sum -/
def dAppend (de dv : DE) : DE := fun δ μ Q => de δ μ fun x μ1 => (∃ p ds, x = .ref p ∧ μ1 p = some (.lst ds)) ∧ dv δ μ1 fun y μ2 => ∃ p ds, x = .ref p ∧ μ2 p = some (.lst ds) ∧ ds.length < sizeLine ∧ Q .non (updM μ2 p (some (.lst (ds ++ [y]))))
theorem xe_append {dv : DE} (ho : XE X G o de) (hv : XE X G e dv) (hbase : attributeBase o "append" X.env (eval o X.env) = eval o X.env := by rfl)
    (hfew : ((backTo pos (starEach [e] X.env)).all (fun x => !x.1) && (backToKw pos (keywordEach [] X.env)).all (fun x => x.1.isSome)
      && decide ([e].length + ([] : List Keyword).length + (if ([] : List Keyword).isEmpty then 0 else 1) < 30)) = true := by rfl)
    (hline : (apos.endLine == pos.line) = true := by rfl) (hs : starEach [e] X.env = (false, eval e X.env) :: starEach [] X.env := by rfl) (hplain : (backTo pos (starEach [] X.env)).any (·.1) = false := by rfl) :
    XE X G (.Call (.Attribute o "append" apos) [e] [] pos) (dAppend de dv) := by
  obtain ⟨t, p, s⟩ := ho
  obtain ⟨u, q, z⟩ := hv
  refine ⟨_, pe_bm PySem.F.plainAttrs_list PySem.F.slot_list_append PySem.F.type_list_append mt_append p (pa_cons q pa_nil hs) hbase hfew hline hs hplain, fun F H σ δ μ Q' Q R h k => s F H σ δ μ _ _ R h fun F1 H1 μ1 v x s1 R1 r1 ⟨⟨p, ds, e, hm⟩, h1⟩ => ?_⟩
  subst e
  cases r1
  obtain ⟨f, vs, h3, h4⟩ := R1.m.mu p _ hm
  refine ⟨.inl ⟨rfl, vs, SqL.of h3⟩, z F1 H1 σ δ μ1 _ _ R1 h1 fun F2 H2 μ2 w y s2 R2 r2 ⟨p', ds', e', hm', hl, h2⟩ => ?_⟩
  cases e'
  obtain ⟨f', vs', h3', h4'⟩ := R2.m.mu p _ hm'
  exact ⟨p, vs', w, rfl, rfl, h3', by rw [h4'.length]; exact hl, k F2 _ _ _ _ (s1.trans s2) (R2.to (Same.refl _) (R2.m.putL f' (h4'.snoc r2))) .non h2⟩
/-- what isinstance asks of a value's type -/
inductive TyD (K : PySem.W.Frag) (μ : Mo) : D → Value → Prop where
  | non : TyD K μ .non (.type "NoneType")
  | bl {b : Bool} : TyD K μ (.bl b) (.type "bool")
  | int {i : Int} : TyD K μ (.int i) (.type "int")
  | str {x : Str} : TyD K μ (.str x) (.type "str")
  | tup {ds : List D} : TyD K μ (.tup ds) (.type "tuple")
  | lst {ds : List D} : TyD K μ (.lst ds) (.type "list")
  | lstM {p : Addr} {ds : List D} : μ p = some (.lst ds) → TyD K μ (.ref p) (.type "list")
  | rule {c b : Int} : TyD K μ (.rule c b) (.ref (He.ga K "Rule"))
  | ins {p C : Addr} {fs : List (Str × D)} : μ p = some (.ins C fs) → TyD K μ (.ref p) (.ref C)
/-- what a class must have for it -/
structure IsiC (K : PySem.W.Frag) (C : Addr) : Prop where
  cl : Cls K C
  ha : PySem.W.findIn K (.ref C) "__class__" = some (some (.builtin "object.__class__"))
  hn : PySem.W.specialIn K (.builtin "object.__class__") "__get__" = some (some (.builtin "getset_descriptor.__get__"))
  htk : PySem.W.takesIn K (.builtin "object.__class__") = some true
  hm : PySem.W.mroIn K C (.type "object") = some true
inductive ClsD : D → Value → Prop where
  | ty {n : String} : ClsD (.ty n) (.type n)
  | own {C : Addr} : ClsD (.ref C) (.ref C)
def fIsi (K : PySem.W.Frag) : DF := fun xs μ Q => ∃ x c t u b, xs = [x, c] ∧ ClsD c u ∧ TyD K μ x t ∧ (∀ C, t = .ref C → IsiC K C) ∧ PySem.W.kitOne K t u = some b ∧ Q (.bl b) μ
theorem xc_isi : XC X (.builtin "isinstance") (fIsi X.K) := ⟨_, call_isi, fun F H μ vs xs Q' Q R r ⟨x, c, t, u, b, e, hc, ht, hi, hk, q⟩ k => by
  subst e
  obtain ⟨v, w, rfl, r1, r2⟩ := rpl2 r
  have fin := k F H μ _ _ (Same.refl _) R .bl q
  have c1 : ClsV w u := by
    cases hc with
    | ty => cases r2; exact .ty _
    | own => cases r2; exact .own _
  have t1 : TyX X.K H v t := by
    cases ht with
    | non => cases r1; exact .base .non
    | bl => cases r1; exact .base (.bl _)
    | int => cases r1; exact .base (.int _)
    | str => cases r1; exact .base (.str _)
    | tup => obtain ⟨a, ws, rfl, h, _⟩ := rpT R r1; exact .base (.tup h)
    | lst => obtain ⟨a, ws, rfl, h, _⟩ := rpLst R r1; exact .base (.lst h)
    | lstM hm => cases r1; obtain ⟨f, vs, h3, _⟩ := R.mu _ _ hm; exact .base (.lst h3)
    | rule => cases r1 with
      | rule h => have i := hi _ rfl; exact .base (.ins (R.sub _ _ h) i.cl i.ha i.hn i.htk i.hm)
    | ins hm => cases r1; obtain ⟨f, dx, vs, h3, _⟩ := R.mu _ _ hm; have i := hi _ rfl; exact .base (.ins h3 i.cl i.ha i.hn i.htk i.hm)
  exact ⟨v, w, t, u, b, rfl, c1, t1, hk, fin⟩⟩
end
section
variable {prog : Program} {w : World} {A : Around} {E : Value → Shared → Prop} {s : Shared} {l : Addr} {its : List Value} {ns : List Int} {Q : Value → Shared → Prop}
theorem sumT_raw (hh : A.handled = none) (hl : s.heap.IsTuple l its.toArray) (hi : IntsAre its ns)
    (h : ∀ h' tk t', (∀ b o, s.heap.get? b = some o → h'.get? b = some o) → Q (.int ns.sum t') { s with heap := h', toks := tk }) : wpAny (model prog w) A (call (.builtin "sum") [.ref l]) Q E s := by
  obtain ⟨xs, e⟩ := hi.allInts.items
  have hn : numsOf (intItems xs).toList = ns := by rw [← e]; exact hi.numsOf
  rw [nums_intItems] at hn
  rw [e] at hl
  have hlt : l < s.heap.objs.size := by obtain ⟨_, e, _⟩ := hl; exact Heap.lt_size e
  refine call_sum_walkG (wpAny_pyIter_tuple hl ?_)
  refine ⟨_, [_, l], [_], _, _, _, numAt xs, rfl, Walks.tuple (A := A.in1) hh _ l (Nat.ne_of_lt hlt) (intItems xs), ⟨⟨_, Heap.get?_push_size _ rfl, rfl, rfl⟩, hl.push _⟩, fun b hb => ?_, (fun _ _ => intItems_at), fun h' tk t' hk => ?_⟩
  · show b < (s.heap.push _).objs.size
    rw [Heap.size_push]
    rcases List.mem_cons.mp hb with rfl | hb
    · exact Nat.lt_succ_self _
    · rcases List.mem_cons.mp hb with rfl | hb
      · exact Nat.lt_succ_of_lt hlt
      · cases hb
  · have := h h' tk t' fun b o q => hk b o (fun hm => by
      rcases List.mem_cons.mp hm with e1 | hm
      · have := Heap.lt_size q; rw [e1] at this; exact Nat.lt_irrefl _ this
      · cases hm) (Heap.get?_push_of_some _ q)
    have e2 : preSum (numAt xs) (intItems xs).size = ns.sum := by
      rw [show (intItems xs).size = xs.size by simp [intItems], preSum_eq, List.take_of_length_le (by simp), hn]
    rw [e2]; exact this
end
section
variable {X : Cx}
def rSumT (K : PySem.W.Frag) : List V → Hp → VK → Prop := fun vs H Q => ∃ (a : Addr) (ns : List Int), vs = [V.ref a] ∧ SqT K H a (ns.map V.int) ∧ Q (.int ns.sum) H
theorem cr_sumT (hc : X.calm = true) : CallR X (.builtin "sum") (rSumT X.K) := by
  intro pins s σ H vs us Q I r h
  obtain ⟨a, ns, rfl, hs, q⟩ := h
  obtain ⟨its, rv, hl, _⟩ := I.tuple hs
  rw [Vals.ref1 r]
  exact sumT_raw (I.ok.hd hc) hl rv.ints fun h' tk t' hk => ⟨.int _, H, I.kept hk, ⟨_, rfl⟩, q⟩
def fSum : DF := fun xs μ Q => ∃ x, ∃ ns : List Int, xs = [x] ∧ itemsOf μ x = some (ns.map .int) ∧ Q (.int ns.sum) μ
theorem xc_sum (hc : X.calm = true := by rfl) : XC X (.builtin "sum") fSum := ⟨_, CallR.or (cr_sum hc) (cr_sumT hc), fun F H μ vs xs Q' Q R r ⟨x, ns, e, e2, q⟩ k => by
  subst e
  obtain ⟨v, rfl, r1⟩ := rpl1 r
  obtain ⟨a, ws, rfl, h1, h2⟩ := rpSeq R r1 e2
  have e3 := h2.ints
  subst e3
  have fin := k F H μ _ _ (Same.refl _) R .int q
  rcases h1 with h1 | h1
  · exact .inl ⟨a, ns, rfl, h1, fin⟩
  · exact .inr ⟨a, ns, rfl, h1, fin⟩⟩
end
end DL

/-! DL5: the head's facts, the class Rule, a law's end. -/
namespace DL
open PySem PySem.Spec PyProof.Rows L2

/-! ### the hook: any Bool of the written part, the defs -/
abbrev AlB : Type := Bool × List He.FnW
def obsB (fn : List He5.DefA) (ex : PySem.W.Frag → Bool) (K : PySem.W.Frag) : AlB := (ex K && fn.all fun d => d.ok K, fn.map fun d => He5.fnA K (d.at_ K))
def valB (fn : List He5.DefA) : AlB := (true, fn.map He5.DefA.val)
def SaysB (fn : List He5.DefA) (ex : PySem.W.Frag → Bool) (K : PySem.W.Frag) : Prop := obsB fn ex K = valB fn
def obsBG (n : Nat) (fn : List He5.DefA) (ex : PySem.W.Frag → Bool) (g : Addr → Option Obj) : AlB := obsB fn ex (He.frG g (He5.asA g n))
def hookB (n : Nat) (fn : List He5.DefA) (ex : PySem.W.Frag → Bool) : PySem.W.Hook where
  α := AlB
  obs := fun s => obsBG n fn ex s.heap.get?
  val := fun _ => valB fn
  says := fun _ h => ∃ K : PySem.W.Frag, K.In h ∧ SaysB fn ex K
  of := fun _ _ e => ⟨_, He.frG_in, e⟩
  keeps := fun _ _ _ ⟨K, hK, c⟩ k => ⟨K, PySem.W.Frag.In.keeps hK k, c⟩
theorem obsBG_eq {n : Nat} {fn : List He5.DefA} {ex : PySem.W.Frag → Bool} {g : Addr → Option Obj} {s : Shared} (h : ∀ a, g a = s.heap.get? a) : obsBG n fn ex g = (hookB n fn ex).obs s := by
  have e : g = s.heap.get? := funext h
  rw [e] <;> rfl
section
variable {fn : List He5.DefA} {ex : PySem.W.Frag → Bool} {K : PySem.W.Frag}
theorem SaysB.more (c : SaysB fn ex K) : ex K = true := (He.ba (show (ex K && fn.all fun d => d.ok K) = true from congrArg (fun z : AlB => z.1) c)).1
theorem SaysB.def_ (c : SaysB fn ex K) (i : Nat) {d : He5.DefA} (h : fn[i]? = some d := by rfl) : ∃ fd, L2.FunD K d.name d.qual d.params d.body d.scope (d.dvs K) (d.kws K) (d.at_ K) fd := by
  have c2 := (He.ba (show (ex K && fn.all fun d => d.ok K) = true from congrArg (fun z : AlB => z.1) c)).2
  have e : fn.map (fun d => He5.fnA K (d.at_ K)) = fn.map He5.DefA.val := congrArg (fun z : AlB => z.2) c
  have e2 : (fn.map fun d => He5.fnA K (d.at_ K))[i]? = (fn.map He5.DefA.val)[i]? := by rw [e]
  rw [List.getElem?_map, List.getElem?_map, h] at e2
  exact He5.DefA.funD (Option.some.inj e2) (List.all_eq_true.mp c2 d (List.mem_of_getElem? h))
end
theorem all_of {α : Type} {l : List α} {f : α → Bool} (h : l.all f = true) (i : Nat) {x : α} (e : l[i]? = some x) : f x = true := List.all_eq_true.mp h x (List.mem_of_getElem? e)

/-! ### the class Rule -/
abbrev RC (K : PySem.W.Frag) : Addr := He.ga K "Rule"
def smB (K : PySem.W.Frag) (m : Str) : Bool := He5.wrapB K (RC K) "staticmethod" "staticmethod.__get__" m && PySem.W.keepIn K (.ref (He5.wf K (RC K) "staticmethod" m))
def cmB (K : PySem.W.Frag) (m : Str) : Bool := He5.wrapB K (RC K) "classmethod" "classmethod.__get__" m && PySem.W.fnIn K (He5.wf K (RC K) "classmethod" m)
def prB (K : PySem.W.Frag) (m : Str) : Bool := He.eqO (PySem.W.findIn K (.ref (RC K)) m) (some (some (.ref (He.ma K (RC K) m)))) && (He.eqO (PySem.W.specialIn K (.ref (He.ma K (RC K) m)) "__get__") (some (some (.builtin "property.__get__"))) &&
  (decide (PySem.W.takesIn K (.ref (He.ma K (RC K) m)) = some true) && (match PySem.W.recIn K (He.ma K (RC K) m) "property" with
    | some (.ref _ :: _) => true
    | _ => false)))
def largestB (K : PySem.W.Frag) : Bool := match PySem.W.findCls K (.ref (RC K)) (.type "type") "LARGEST" with
  | some (.val (.int i _)) => decide (i = 10)
  | _ => false
def isiB (K : PySem.W.Frag) (C : Addr) : Bool := He.eqO (PySem.W.findIn K (.ref C) "__class__") (some (some (.builtin "object.__class__"))) && (He.eqO (PySem.W.specialIn K (.builtin "object.__class__") "__get__") (some (some (.builtin "getset_descriptor.__get__"))) &&
  (decide (PySem.W.takesIn K (.builtin "object.__class__") = some true) && decide (PySem.W.mroIn K C (.type "object") = some true)))
def kitB1 (K : PySem.W.Frag) (t u : Value) (b : Bool) : Bool := decide (PySem.W.kitOne K t u = some b)
/-- the types of values that are no rules -/
def noRule : List String := ["NoneType", "bool", "int", "str", "tuple", "list"]
def ruleB (K : PySem.W.Frag) : Bool := (He.Fa.cls "Rule").ok K && ((He.Fa.noat "Rule" "step").ok K && ((He.Fa.noat "Rule" "border").ok K && ((He.Fa.mkr "Rule").ok K && ((He.Fa.meth "Rule" "rounded").ok K && ((He.Fa.meth "Rule" "charge").ok K &&
  (PySem.W.readsIn K (RC K) (.type "type") && (largestB K && (isiB K (RC K) && (kitB1 K (.ref (RC K)) (.ref (RC K)) true && (noRule.all fun t => kitB1 K (.type t) (.ref (RC K)) false) && (smB K "is_valid" && (smB K "need_coin" && (cmB K "up" && (cmB K "down" && (cmB K "nearest" &&
  (prB K "coin" && (prB K "up_from" && prB K "free"))))))))))))))))
theorem cread_ok {K : PySem.W.Frag} {C : Addr} (h : PySem.W.readsIn K C (.type "type") = true) : ClX.CRead K C (.type "type") := by
  refine ⟨h, ?_⟩
  unfold PySem.W.readsIn at h
  obtain ⟨h, _⟩ := He.ba h
  obtain ⟨h, _⟩ := He.ba h
  obtain ⟨h, h3⟩ := He.ba h
  obtain ⟨_, h2⟩ := He.ba h
  unfold PySem.W.specialIn
  rw [beq_iff_eq.mp h2, Option.bind_some]
  exact beq_iff_eq.mp h3
theorem prop_ok {K : PySem.W.Frag} {m : Str} (h : prB K m = true) : PropOf K (RC K) m (He.ma K (RC K) m) (He5.wf K (RC K) "property" m) := by
  obtain ⟨h1, h⟩ := He.ba h
  obtain ⟨h2, h⟩ := He.ba h
  obtain ⟨h3, h4⟩ := He.ba h
  refine ⟨He.eqO_ok h1, He.eqO_ok h2, of_decide_eq_true h3, ?_⟩
  unfold He5.wf
  split at h4
  · rename_i f r e
    exact ⟨r, by rw [e]⟩
  · cases h4
theorem isi_ok {K : PySem.W.Frag} {C : Addr} (c : Cls K C) (h : isiB K C = true) : IsiC K C := by
  obtain ⟨h1, h⟩ := He.ba h
  obtain ⟨h2, h⟩ := He.ba h
  obtain ⟨h3, h4⟩ := He.ba h
  exact ⟨c, He.eqO_ok h1, He.eqO_ok h2, of_decide_eq_true h3, of_decide_eq_true h4⟩
theorem sm_ok {K : PySem.W.Frag} {m : Str} (h : smB K m = true) : SMet K (RC K) (.type "type") m (He.ma K (RC K) m) (He5.wf K (RC K) "staticmethod" m) := by
  obtain ⟨h1, h2⟩ := He.ba h
  obtain ⟨h3, h4⟩ := He5.wrapB_ok h1
  exact ⟨h3, h4, h2⟩
theorem cm_ok {K : PySem.W.Frag} {m : Str} (h : cmB K m = true) : ClX.CMet K (RC K) (.type "type") m (He.ma K (RC K) m) (He5.wf K (RC K) "classmethod" m) := by
  obtain ⟨h1, h2⟩ := He.ba h
  exact He5.cmet_of h1 h2
/-- what the head tells of the class Rule -/
structure RuleT (K : PySem.W.Frag) : Prop where
  cl : Cls K (RC K)
  nS : NoAttr K (RC K) "step"
  nB : NoAttr K (RC K) "border"
  mkr : Mk K (RC K) (He.ma K (RC K) "__init__")
  mRounded : Meth K (RC K) "rounded" (He.ma K (RC K) "rounded")
  mCharge : Meth K (RC K) "charge" (He.ma K (RC K) "charge")
  rd : ClX.CRead K (RC K) (.type "type")
  largest : ∃ t, ClX.CVal K (RC K) (.type "type") "LARGEST" (.int 10) (.int 10 t)
  isi : IsiC K (RC K)
  isR : PySem.W.kitOne K (.ref (RC K)) (.ref (RC K)) = some true
  noR : ∀ t ∈ noRule, PySem.W.kitOne K (.type t) (.ref (RC K)) = some false
  sValid : SMet K (RC K) (.type "type") "is_valid" (He.ma K (RC K) "is_valid") (He5.wf K (RC K) "staticmethod" "is_valid")
  sNeed : SMet K (RC K) (.type "type") "need_coin" (He.ma K (RC K) "need_coin") (He5.wf K (RC K) "staticmethod" "need_coin")
  cUp : ClX.CMet K (RC K) (.type "type") "up" (He.ma K (RC K) "up") (He5.wf K (RC K) "classmethod" "up")
  cDown : ClX.CMet K (RC K) (.type "type") "down" (He.ma K (RC K) "down") (He5.wf K (RC K) "classmethod" "down")
  cNearest : ClX.CMet K (RC K) (.type "type") "nearest" (He.ma K (RC K) "nearest") (He5.wf K (RC K) "classmethod" "nearest")
  pCoin : PropOf K (RC K) "coin" (He.ma K (RC K) "coin") (He5.wf K (RC K) "property" "coin")
  pUp : PropOf K (RC K) "up_from" (He.ma K (RC K) "up_from") (He5.wf K (RC K) "property" "up_from")
  pFree : PropOf K (RC K) "free" (He.ma K (RC K) "free") (He5.wf K (RC K) "property" "free")
theorem ruleB_ok {K : PySem.W.Frag} (h : ruleB K = true) : RuleT K := by
  obtain ⟨h1, h⟩ := He.ba h
  obtain ⟨h2, h⟩ := He.ba h
  obtain ⟨h3, h⟩ := He.ba h
  obtain ⟨h4, h⟩ := He.ba h
  obtain ⟨h5, h⟩ := He.ba h
  obtain ⟨h6, h⟩ := He.ba h
  obtain ⟨h7, h⟩ := He.ba h
  obtain ⟨h8, h⟩ := He.ba h
  obtain ⟨h9, h⟩ := He.ba h
  obtain ⟨h10, h⟩ := He.ba h
  obtain ⟨hA, hB⟩ := He.ba h10
  obtain ⟨h11, h⟩ := He.ba h
  obtain ⟨h12, h⟩ := He.ba h
  obtain ⟨h13, h⟩ := He.ba h
  obtain ⟨h14, h⟩ := He.ba h
  obtain ⟨h15, h⟩ := He.ba h
  obtain ⟨h16, h⟩ := He.ba h
  obtain ⟨h17, h18⟩ := He.ba h
  refine ⟨He.cls_ok h1, He.noat_ok h2, He.noat_ok h3, He.mkr_ok h4, He.meth_ok h5, He.meth_ok h6, cread_ok h7, ?_, isi_ok (He.cls_ok h1) h9, of_decide_eq_true hA, fun t ht => of_decide_eq_true (List.all_eq_true.mp hB t ht), sm_ok h11, sm_ok h12, cm_ok h13, cm_ok h14, cm_ok h15, prop_ok h16, prop_ok h17, prop_ok h18⟩
  unfold largestB at h8
  split at h8
  · rename_i i t e
    have z := of_decide_eq_true h8
    subst z
    exact ⟨t, e, ⟨t, rfl⟩⟩
  · cases h8

/-! ### getters -/
theorem getter_ok {P : Program} {w : World} {K : PySem.W.Frag} {mg : Str → Option Value} {base : Heap} {CX : CXT} {k : Nat} {x qual : Str} {params : Arguments} {body : List Stmt} {scope : Scope} {g : Addr} {fd : FuncData} {f : Str} {p1 p2 p3 : Pos} (F : FunD K x qual params body scope [] [] g fd)
    (S : FnScope ["self"] ["self"] scope) (hb : body = [.Return (some (.Attribute (.Name "self" p1) f p2)) p3]) (c : Cls K (RC K)) (n : NoAttr K (RC K) f) : FnOk P w K mg base CX (k + 1) g fd ["self"] (getSp (RC K) f) := by
  obtain ⟨oc, od, dV, kV, doc, pm, an, cdv, ct, osl, rfl, lk, hcd, _, _⟩ := F.ex
  exact fn_getter lk hcd S rfl hb c n

/-! ### the law's end -/
def spLawD (n : Nat) : SpD := fun ds μ Q _ => ∃ ns : List Int, ds = [.fro (ns.map .int)] ∧ ns.length ≤ n ∧ (∀ z ∈ ns, Builtin.Int.intBits z ≤ 1048576) ∧ ∀ μ', Q (.bl true) μ'
theorem law_sp {K : PySem.W.Frag} {n : Nat} (H : Hp) (a : Addr) (ns : List Int) (hl : ns.length ≤ n) (hb : ∀ z ∈ ns, Builtin.Int.intBits z ≤ 1048576) (hS : SqL K H a (ns.map V.int)) : spV K (spLawD n) [.ref a] H (fun v _ => v = .bl true) fun _ _ _ => False :=
  ⟨H, fun _ => none, _, fun x _ => x = .bl true, fun _ _ => False, ⟨Same.refl _, fun _ _ e => by cases e⟩, .cons (.fro hS .ofInts) .nil, ⟨ns, rfl, hl, hb, fun _ => rfl⟩, fun F' H' μ' v x _ _ r e => by
    subst e
    cases r
    rfl, fun _ _ _ _ _ _ z => z⟩
theorem law_end {l : PySem.W.OpenLaw} {n k : Nat} {q : Program} {loose : List Str} {XP : (Str → Option Value) → Heap → Prop} {YP : World → Heap → Prop} {d : DefRec}
    (hn : l.most = some n) (hn2 : n ≤ sizeLine) (hdf : d.params.defaults = []) (hr : Room k callerA)
    (F : ∀ (w : World) (mg : Str → Option Value) (fa : Addr) (h : Heap), YP w h → h.Ns mainGlobals mg → mg d.name = some (.ref fa) →
      ∃ (K : PySem.W.Frag) (fd : FuncData), K.In h ∧ (∀ (s : Shared) (u : Value), BindsTo s fd ⟨[u], []⟩ [("script", u)]) ∧ ∀ base : Heap, K.In base → base.Ns mainGlobals mg → FnOk l.prog w K mg base (L2N.CX l.prog w) k fa fd ["script"] (spV K (spLawD n)))
    : PySem.W.WalkO q loose XP YP l.row.toRowW d [] (fun f vs => PySem.call f vs) := by
  refine Att.attach_callB hn hdf fun w s₀ s₁ mg mb fa o pm cd doc a vs ns G Y ho hd hcd hmg hobj hints hlen hbits hg => ?_
  obtain ⟨K, fd, KX, hb, hF⟩ := F w mg fa _ Y G.T.g hmg
  exact law_call KX G.T.g G.T.b G.T.builtins G.T.nolimit hg hobj hints (Nat.le_trans hlen hn2) hr hF hb (fun H hO hS => law_sp H a ns hlen hbits hS) fun H e s' ⟨_, _, _, _, _, _, _, _, _, _, _, _, z⟩ => z
end DL

/-! DL6: what the generator's terms use besides; small facts of data. -/
namespace DL
open PySem PySem.Spec PyProof.Rows L2

theorem kp {K : PySem.W.Frag} {x qual : Str} {params : Arguments} {body : List Stmt} {scope : Scope} {dvs : List V} {kws : List (Str × V)} {f : Addr} (h : ∃ fd, FunD K x qual params body scope dvs kws f fd) : PySem.W.keepIn K (.ref f) = true := let ⟨_, F⟩ := h; F.kp
theorem room65 {A : Around} {k : Nat} (hr : Room k A) : A.units + 65 < cLine := by have := hr.un; omega
section
variable {X : Cx} {G : Gx X.K} {e a : Expr} {es : List Expr} {de : DE} {da : DA} {pos p : Pos} {k : Nat} {g pp : Addr}
theorem xe_propE (st : Bool) {fl : Str} (he : XE X G e de) (c : Cls X.K (RC X.K)) (hp : PropOf X.K (RC X.K) fl pp g) (hF : ∃ fd, FnOk X.prog X.w X.K X.mg X.base (L2N.CX X.prog X.w) k g fd ["self"] (getSp (RC X.K) (if st = true then "step" else "border")) ∧ Binds X.K fd ["self"] []) (hr : Room (k + 1) X.A)
    (hab : attributeBase e fl X.env (eval e X.env) = eval e X.env := by rfl) : XE X G (.Attribute e fl pos) (dProp st de) := by
  obtain ⟨fd, F, b⟩ := hF
  exact xe_prop st he c hp F hr b hab
theorem xlargest (R : RuleT X.K) (hm : X.mg "Rule" = some (.ref (RC X.K))) (hg : Gl X "Rule" := by rfl) (hb : attributeBase (.Name "Rule" p) "LARGEST" X.env (eval (.Name "Rule" p) X.env) = eval (.Name "Rule" p) X.env := by rfl) : XE X G (.Attribute (.Name "Rule" p) "LARGEST" pos) (dC (.int 10)) := by
  obtain ⟨t, h⟩ := R.largest
  obtain ⟨u, q, z⟩ := xe_cval (G := G) (de := dC (.ref (RC X.K))) (d := .int 10) (pos := pos) (xe_gref (pos := p) hm hg) (fun _ _ _ h => h) R.rd h (fun _ => .int) hb
  exact ⟨u, q, fun F H σ δ μ Q' Q Rr h k => z F H σ δ μ Q' Q Rr ⟨rfl, h⟩ k⟩
/-- abs of an int -/
def fAbs : DF := fun xs μ Q => ∃ i, xs = [.int i] ∧ Q (.int (if i < 0 then -i else i)) μ
theorem xc_abs : XC X (.builtin "abs") fAbs := ⟨_, call_abs, fun F H μ vs xs Q' Q R r ⟨i, e, q⟩ k => by
  subst e
  obtain ⟨v, rfl, r1⟩ := rpl1 r
  cases r1
  exact ⟨i, rfl, k F H μ _ _ (Same.refl _) R .int q⟩⟩

/-! ### sorted(set(list of tuples of ints)) -/
def tupI (ks : List Int) : D := .tup (ks.map .int)
def dSortSet (de : DE) : DE := fun δ μ Q => de δ μ fun x μ1 => ∃ (kss : List (List Int)) (d : Nat) (B : Int), x = .lst (kss.map tupI) ∧ kss.length < 64 ∧ 1 ≤ d ∧ (∀ k ∈ kss, k.length = d ∧ TS.Bd B k) ∧
  ∀ ks' : List (List Int), (∀ k ∈ ks', k ∈ kss) → (∀ k ∈ kss, k ∈ ks') → ks'.Nodup → ks'.Pairwise (fun a b => TS.code B a ≤ TS.code B b) → Q (.lst (ks'.map tupI)) μ1
theorem rp_tups {K : PySem.W.Frag} {F : Hp} : ∀ {kss : List (List Int)} {vs : List V}, RpL K F vs (kss.map tupI) → ∃ ks : List (Addr × List Int), vs = ks.map (fun p => V.ref p.1) ∧ kss = ks.map (·.2) ∧ ∀ p ∈ ks, F p.1 = some (.tup (p.2.map V.int))
  | [], _, h => by cases h; exact ⟨[], rfl, rfl, fun p hp => by cases hp⟩
  | k :: kss, _, h => by
    cases h with
    | cons r t =>
      obtain ⟨ks, e1, e2, e3⟩ := rp_tups t
      cases r with
      | tup h1 h2 =>
        have e := h2.ints
        subst e
        refine ⟨(_, k) :: ks, by rw [e1] <;> rfl, by rw [e2] <;> rfl, fun p hp => ?_⟩
        rcases List.mem_cons.mp hp with e | hp
        · subst e; exact h1
        · exact e3 p hp
theorem rp_ofTups {K : PySem.W.Frag} {F : Hp} : ∀ {ks : List (Addr × List Int)}, (∀ p ∈ ks, F p.1 = some (.tup (p.2.map V.int))) → RpL K F (ks.map fun p => V.ref p.1) ((ks.map (·.2)).map tupI)
  | [], _ => .nil
  | q :: ks, h => .cons (.tup (h q (List.mem_cons_self ..)) .ofInts) (rp_ofTups fun p hp => h p (List.mem_cons_of_mem _ hp))
theorem xe_sortset {p2 pos2 : Pos} (hc : X.calm = true) (hu : X.A.units + 64 < cLine) (hm1 : X.mg "sorted" = none) (hm2 : X.mg "set" = none) (ha : XE X G a de) (hg1 : Gl X "sorted" := by rfl) (hg2 : Gl X "set" := by rfl)
    (he1 : starEach [(.Call (.Name "set" p2) [a] [] pos2)] X.env = [(false, eval (.Call (.Name "set" p2) [a] [] pos2) X.env)] := by rfl) (he2 : starEach [a] X.env = [(false, eval a X.env)] := by rfl) :
    XE X G (.Call (.Name "sorted" p) [.Call (.Name "set" p2) [a] [] pos2] [] pos) (dSortSet de) := by
  obtain ⟨t, q, s⟩ := ha
  refine ⟨_, pe_callB (cr_sortedT hc) hg1 hm1 (by decide +kernel) (pa_cons (pe_callTy (cr_setOfT hc hu) hg2 hm2 (by decide +kernel) (pa_cons q pa_nil he2) (he := he2) (hpl := by rfl)) pa_nil he1) (he := he1) (hpl := by rfl), fun F H σ δ μ Q' Q R h k => s F H σ δ μ _ _ R h fun F1 H1 μ1 v x s1 R1 r1 ⟨kss, d, B, e, hl, hd, hB, h1⟩ => ?_⟩
  subst e
  obtain ⟨l, vs, rfl, h2, h3, _⟩ := rpLst R1.m r1
  obtain ⟨ks, e1, e2, e3⟩ := rp_tups h3
  subst e1 e2
  have hl' : ks.length < 64 := by rw [List.length_map] at hl; exact hl
  refine ⟨l, ks, rfl, SqL.of h2, fun p hp => SqT.of (R1.m.sub _ _ (e3 p hp)), hl', fun b L hb hsub hall => ?_⟩
  have R2 := R1.m.other hb (SetTO X.prog X.w b L)
  refine ⟨b, L, d, B, rfl, upd_same, fun p hp => SqT.of (R2.sub _ _ (e3 p (hsub p hp))), hd, fun p hp => hB _ (List.mem_map.mpr ⟨p, hsub p hp, rfl⟩), fun L' c pm nd _ pw hc => ?_⟩
  have s4 := same_upd (o := .lst (L'.map fun q => V.ref q.1)) (R2.freeF hc)
  have fL : ∀ p ∈ L', F1 p.1 = some (.tup (p.2.map V.int)) := fun p hp => e3 p (hsub p (pm.mem_iff.mp hp))
  refine k _ _ μ1 _ _ (s1.trans s4) (R1.to s4 (R2.laid hc _)) (.lst upd_same ((rp_ofTups fL).mono s4)) (h1 _ (fun z hz => ?_) (fun z hz => ?_) nd ?_)
  · obtain ⟨p, hp, e⟩ := List.mem_map.mp hz
    exact List.mem_map.mpr ⟨p, hsub p (pm.mem_iff.mp hp), e⟩
  · obtain ⟨p, hp, e⟩ := List.mem_map.mp hz
    rw [← e]
    exact ((pm.map (·.2)).mem_iff).mpr (hall p hp)
  · rw [List.pairwise_map]; exact pw
end

/-! ### == of data -/
theorem fEq_int {i j : Int} {μ : Mo} {Q : DK} (h : Q (.bl (decide (i = j))) μ) : fEq (.int i) (.int j) μ Q := ⟨_, _, rfl, rfl, rfl, rfl, by rw [show PyData.eqv (.int i) (.int j) = (i == j) from rfl, Bool.beq_eq_decide_eq]; exact h⟩
theorem fNe_int {i j : Int} {μ : Mo} {Q : DK} (h : Q (.bl (!decide (i = j))) μ) : fNe (.int i) (.int j) μ Q := ⟨_, _, rfl, rfl, rfl, rfl, by rw [show PyData.eqv (.int i) (.int j) = (i == j) from rfl, Bool.beq_eq_decide_eq]; exact h⟩
/-- a value that is no mutable object -/
def isInt : D → Int → Int → Bool
  | .int i, lo, hi => decide (lo ≤ i) && decide (i ≤ hi)
  | _, _, _ => false
/-- the rounded sum -/
def rnd (c b w : Int) : Int := (w + c - b) / c * c
theorem big_mul {i j : Int} (h1 : -1000000000000000000000000000000000000000000000 < i) (h2 : i < 1000000000000000000000000000000000000000000000) (h3 : -1000000000000000000000000000000000000000000000 < j) (h4 : j < 1000000000000000000000000000000000000000000000) : CMulX i j :=
  mulx_ok (a := 150) (b := 150) (by omega) (by omega) (by decide)
theorem big_div {j : Int} (i : Int) (h3 : 0 < j) (h4 : j < 1000000000000000000000000000000000000000000000) : CDivW i j := wide_div (b := 150) h3 (by omega) (by decide) (by decide)
end DL

/-! DL7: isinstance as a function of the data; lemmas for the simplifier. -/
namespace DL
open PySem PySem.Spec PyProof.Rows L2
def tyName (μ : Mo) : D → Option String
  | .non => some "NoneType"
  | .bl _ => some "bool"
  | .int _ => some "int"
  | .str _ => some "str"
  | .tup _ => some "tuple"
  | .lst _ => some "list"
  | .ref p => match μ p with
    | some (.lst _) => some "list"
    | _ => none
  | _ => none
theorem tyName_D {K : PySem.W.Frag} {μ : Mo} {x : D} {t : String} (h : tyName μ x = some t) : TyD K μ x (.type t) := by
  cases x with
  | ref p =>
    simp only [tyName] at h
    split at h <;> cases h
    rename_i q
    exact .lstM q
  | fro _ => cases h
  | rule _ _ => cases h
  | ty _ => cases h
  | lam _ _ _ _ => cases h
  | _ => cases h; constructor
theorem tyName_mem {μ : Mo} {x : D} {t : String} (h : tyName μ x = some t) : t ∈ noRule := by
  cases x with
  | ref p =>
    simp only [tyName] at h
    split at h <;> cases h
    decide
  | fro _ => cases h
  | rule _ _ => cases h
  | ty _ => cases h
  | lam _ _ _ _ => cases h
  | _ => cases h; decide
/-- built-in types -/
def kitT (t n : String) : Bool := t == n || (t == "bool" && n == "int")
def okTy : List String := ["bool", "int", "str", "tuple", "list"]
theorem kitT_ok {K : PySem.W.Frag} : ∀ t ∈ noRule, ∀ n ∈ okTy, PySem.W.kitOne K (.type t) (.type n) = some (kitT t n) := by
  intro t ht n hn
  simp only [noRule, okTy, List.mem_cons, List.not_mem_nil, or_false] at ht hn
  rcases ht with rfl | rfl | rfl | rfl | rfl | rfl <;> rcases hn with rfl | rfl | rfl | rfl | rfl <;> rfl
def fIsT : DF := fun xs μ Q => ∃ x n t, xs = [x, .ty n] ∧ n ∈ okTy ∧ tyName μ x = some t ∧ Q (.bl (kitT t n)) μ
theorem xc_isT {X : Cx} : XC X (.builtin "isinstance") fIsT := by
  obtain ⟨r, h, z⟩ := xc_isi (X := X)
  refine ⟨r, h, fun F H μ vs xs Q' Q R rr ⟨x, n, t, e, hn, ht, q⟩ k => z F H μ vs xs Q' Q R rr ?_ k⟩
  exact ⟨x, _, _, _, _, e, .ty, tyName_D ht, fun C e => (by cases e), kitT_ok _ (tyName_mem ht) _ hn, q⟩
/-- isinstance(x, Rule) -/
def isRule (μ : Mo) : D → Option Bool
  | .rule _ _ => some true
  | x => (tyName μ x).map fun _ => false
def fIsR (K : PySem.W.Frag) : DF := fun xs μ Q => ∃ x b, xs = [x, .ref (RC K)] ∧ isRule μ x = some b ∧ Q (.bl b) μ
theorem xc_isR {X : Cx} (T : RuleT X.K) : XC X (.builtin "isinstance") (fIsR X.K) := by
  obtain ⟨r, h, z⟩ := xc_isi (X := X)
  refine ⟨r, h, fun F H μ vs xs Q' Q R rr ⟨x, b, e, hb, q⟩ k => z F H μ vs xs Q' Q R rr ?_ k⟩
  by_cases hx : ∃ c b, x = .rule c b
  · obtain ⟨c, b', rfl⟩ := hx
    cases hb
    exact ⟨_, _, _, _, _, e, .own, .rule, fun C e => by cases e; exact T.isi, T.isR, q⟩
  · have hb' : (tyName μ x).map (fun _ => false) = some b := by
      cases x <;> first | exact hb | exact absurd ⟨_, _, rfl⟩ hx
    cases ht : tyName μ x with
    | none => rw [ht] at hb'; cases hb'
    | some t =>
      rw [ht] at hb'
      cases hb'
      exact ⟨_, _, _, _, _, e, .own, tyName_D ht, fun C e => (by cases e), T.noR t (tyName_mem ht), q⟩
/-! ### for the simplifier -/
theorem atI_0 {α : Type} {x : α} {xs : List α} : atI (x :: xs) 0 = some x := by
  unfold atI ixN
  simp only [List.length_cons]
  rw [if_pos (by decide), if_pos (by omega)]
  rfl
theorem atI_1 {α : Type} {x y : α} {xs : List α} : atI (x :: y :: xs) 1 = some y := by
  unfold atI ixN
  simp only [List.length_cons]
  rw [if_pos (by decide), if_pos (by omega)]
  rfl
theorem atI_2 {α : Type} {x y z : α} {xs : List α} : atI (x :: y :: z :: xs) 2 = some z := by
  unfold atI ixN
  simp only [List.length_cons]
  rw [if_pos (by decide), if_pos (by omega)]
  rfl
theorem atI_m1 {α : Type} {xs : List α} {x : α} : atI (xs ++ [x]) (-1) = some x := by
  unfold atI ixN
  simp only [List.length_append, List.length_cons, List.length_nil]
  rw [if_neg (by decide), if_pos (by omega)]
  have e : (-1 + ((xs.length + (0 + 1) : Nat) : Int)).toNat = xs.length := by omega
  show (xs ++ [x])[(-1 + ((xs.length + (0 + 1) : Nat) : Int)).toNat]? = some x
  rw [e]
  simp
theorem ixN_0 {n : Nat} : ixN (n + 1) 0 = some 0 := by
  unfold ixN
  rw [if_pos (by decide), if_pos (by omega)] <;> rfl
theorem ixN_1 {n : Nat} : ixN (n + 1 + 1) 1 = some 1 := by
  unfold ixN
  rw [if_pos (by decide), if_pos (by omega)] <;> rfl
theorem ixN_1' : ixN 2 1 = some 1 := rfl
theorem atI_of {α : Type} {xs : List α} {i : Int} (h0 : 0 ≤ i) (h1 : i < xs.length) : ∃ x, atI xs i = some x ∧ x ∈ xs := by
  have hl : i.toNat < xs.length := by omega
  refine ⟨xs[i.toNat], ?_, List.getElem_mem hl⟩
  unfold atI ixN
  rw [if_pos h0, if_pos h1]
  exact List.getElem?_eq_getElem hl
theorem updM_updM {μ : Mo} {a : Addr} {m n : Option Mu} : updM (updM μ a m) a n = updM μ a n := by
  funext b
  unfold updM
  split <;> rfl
theorem atI_eq {α : Type} {xs : List α} {i : Int} (h0 : 0 ≤ i) (h1 : i < xs.length) : atI xs i = xs[i.toNat]? := by
  unfold atI ixN
  rw [if_pos h0, if_pos h1] <;> rfl
/-- == of data, with ints told apart -/
theorem fEqI {i j : Int} {μ : Mo} {Q : DK} : fEq (.int i) (.int j) μ Q ↔ Q (.bl (decide (i = j))) μ := by
  refine ⟨fun ⟨p, q, e1, e2, _, _, h⟩ => ?_, fEq_int⟩
  cases e1; cases e2
  rw [show PyData.eqv (.int i) (.int j) = (i == j) from rfl, Bool.beq_eq_decide_eq] at h
  exact h
theorem fNeI {i j : Int} {μ : Mo} {Q : DK} : fNe (.int i) (.int j) μ Q ↔ Q (.bl (!decide (i = j))) μ := by
  refine ⟨fun ⟨p, q, e1, e2, _, _, h⟩ => ?_, fNe_int⟩
  cases e1; cases e2
  rw [show PyData.eqv (.int i) (.int j) = (i == j) from rfl, Bool.beq_eq_decide_eq] at h
  exact h
/-- ways to write values as data, told apart by == -/
structure En (α : Type) where
  enc : α → D
  py : α → PyData
  to : ∀ a, toPy (enc a) = some (py a)
  dep : Nat
  lay : ∀ a, PyData.canLay0 (py a) = true
  de : ∀ a, PyData.depth (py a) ≤ dep
  eqv : ∀ a b, PyData.eqv (py a) (py b) = true ↔ a = b
def enI : En Int := ⟨.int, .int, fun _ => rfl, 0, fun _ => rfl, fun a => by simp only [PyData.depth]; exact Nat.le_refl _, fun a b => by simp only [PyData.eqv, beq_iff_eq]⟩
theorem enL_to {α : Type} (E : En α) : ∀ l : List α, toPyL (l.map E.enc) = some (l.map E.py)
  | [] => rfl
  | a :: l => by simp only [List.map_cons, toPyL]; rw [E.to, enL_to E l]
theorem enL_lay {α : Type} (E : En α) : ∀ l : List α, PyData.canLayAll0 (l.map E.py) = true
  | [] => rfl
  | a :: l => by simp only [List.map_cons, PyData.canLayAll0]; rw [E.lay, enL_lay E l] <;> rfl
theorem enL_de {α : Type} (E : En α) : ∀ l : List α, PyData.depthAll (l.map E.py) ≤ E.dep
  | [] => by simp only [List.map_nil, PyData.depthAll]; exact Nat.zero_le _
  | a :: l => by simp only [List.map_cons, PyData.depthAll]; exact Nat.max_le.mpr ⟨E.de a, enL_de E l⟩
theorem enL_eqv {α : Type} (E : En α) : ∀ l m : List α, PyData.eqvAll (l.map E.py) (m.map E.py) = true ↔ l = m
  | [], [] => by simp [PyData.eqvAll]
  | a :: l, b :: m => by
    have h := enL_eqv E l m
    have h2 := E.eqv a b
    simp only [List.map_cons, PyData.eqvAll, Bool.and_eq_true, h, h2, List.cons.injEq]
  | [], b :: m => by simp [PyData.eqvAll]
  | a :: l, [] => by simp [PyData.eqvAll]
def enTup {α : Type} (E : En α) : En (List α) := ⟨fun l => .tup (l.map E.enc), fun l => .tuple (l.map E.py), fun l => by simp only [toPy]; rw [enL_to E l] <;> rfl, E.dep + 1, fun l => by simp only [PyData.canLay0]; exact enL_lay E l, fun l => by simp only [PyData.depth]; exact Nat.succ_le_succ (enL_de E l), fun l m => by simp only [PyData.eqv]; exact enL_eqv E l m⟩
def enLst {α : Type} (E : En α) : En (List α) := ⟨fun l => .lst (l.map E.enc), fun l => .list (l.map E.py), fun l => by simp only [toPy]; rw [enL_to E l] <;> rfl, E.dep + 1, fun l => by simp only [PyData.canLay0]; exact enL_lay E l, fun l => by simp only [PyData.depth]; exact Nat.succ_le_succ (enL_de E l), fun l m => by simp only [PyData.eqv]; exact enL_eqv E l m⟩
/-- a tuple of two -/
def enPair {α β : Type} (E : En α) (E2 : En β) : En (α × β) := ⟨fun p => .tup [E.enc p.1, E2.enc p.2], fun p => .tuple [E.py p.1, E2.py p.2], fun p => by simp only [toPy, toPyL]; rw [E.to, E2.to] <;> rfl, max E.dep E2.dep + 1,
  fun p => by simp only [PyData.canLay0, PyData.canLayAll0]; rw [E.lay, E2.lay] <;> rfl,
  fun p => by
    have h1 := E.de p.1
    have h2 := E2.de p.2
    simp only [PyData.depth, PyData.depthAll]
    omega, fun p q => by simp only [PyData.eqv, PyData.eqvAll, Bool.and_eq_true, and_true, E.eqv, E2.eqv]; exact ⟨fun h => Prod.ext h.1 h.2, fun h => by rw [h]; exact ⟨rfl, rfl⟩⟩⟩
theorem En.sh {α : Type} (E : En α) (h : E.dep ≤ 64) (a : α) : SeqAt.shaped (E.py a) = true := by
  have h1 := E.de a
  show ((E.py a).canLay0 && decide ((E.py a).depth ≤ 64)) = true
  rw [E.lay, decide_eq_true (by omega)] <;> rfl
theorem En.eqd {α : Type} [DecidableEq α] (E : En α) (a b : α) : PyData.eqv (E.py a) (E.py b) = decide (a = b) := by
  by_cases h : a = b
  · rw [decide_eq_true h]; exact (E.eqv a b).mpr h
  · rw [decide_eq_false h]
    cases q : PyData.eqv (E.py a) (E.py b) with
    | false => rfl
    | true => exact absurd ((E.eqv a b).mp q) h
theorem fEq_en {α : Type} [DecidableEq α] (E : En α) {a b : α} {μ : Mo} {Q : DK} (h : Q (.bl (decide (a = b))) μ) (hd : E.dep ≤ 64 := by decide) : fEq (E.enc a) (E.enc b) μ Q :=
  ⟨_, _, E.to a, E.to b, E.sh hd a, E.sh hd b, by rw [E.eqd]; exact h⟩
theorem fNe_en {α : Type} [DecidableEq α] (E : En α) {a b : α} {μ : Mo} {Q : DK} (h : Q (.bl (!decide (a = b))) μ) (hd : E.dep ≤ 64 := by decide) : fNe (E.enc a) (E.enc b) μ Q :=
  ⟨_, _, E.to a, E.to b, E.sh hd a, E.sh hd b, by rw [E.eqd]; exact h⟩
theorem any_en {α : Type} [DecidableEq α] (E : En α) (a : α) : ∀ l : List α, ((l.map E.py).any fun z => PyData.eqv z (E.py a)) = decide (a ∈ l)
  | [] => rfl
  | b :: l => by
    rw [List.map_cons, List.any_cons, any_en E a l, E.eqd]
    by_cases h : b = a
    · subst h; simp
    · have h' : a ≠ b := fun e => h e.symm
      simp [h, h']
theorem fIn_en {α : Type} [DecidableEq α] (E : En α) {a : α} {l : List α} {μ : Mo} {Q : DK} (h : Q (.bl (decide (a ∈ l))) μ) (hd : E.dep ≤ 63 := by decide) : fIn (E.enc a) (.lst (l.map E.enc)) μ Q :=
  ⟨_, _, _, E.to a, rfl, enL_to E l, E.sh (by omega) a, (enLst E).sh (show E.dep + 1 ≤ 64 by omega) l, by rw [any_en]; exact h⟩
theorem fNotIn_en {α : Type} [DecidableEq α] (E : En α) {a : α} {l : List α} {μ : Mo} {Q : DK} (h : Q (.bl (!decide (a ∈ l))) μ) (hd : E.dep ≤ 63 := by decide) : fNotIn (E.enc a) (.lst (l.map E.enc)) μ Q :=
  ⟨_, _, _, E.to a, rfl, enL_to E l, E.sh (by omega) a, (enLst E).sh (show E.dep + 1 ≤ 64 by omega) l, by rw [any_en]; exact h⟩
theorem xe_fldR {X : Cx} {G : Gx X.K} {e : Expr} {de : DE} {pos : Pos} (st : Bool) {fl : Str} (he : XE X G e de) (c : Cls X.K (RC X.K)) (n : NoAttr X.K (RC X.K) fl) (hfl : fl = (if st = true then ("step" : Str) else ("border" : Str)) := by rfl) (hb : attributeBase e fl X.env (eval e X.env) = eval e X.env := by rfl) : XE X G (.Attribute e fl pos) (dProp st de) := by
  obtain ⟨t, p, s⟩ := he
  refine ⟨_, pe_fld p hb, fun F H σ δ μ Q' Q R h k => s F H σ δ μ _ _ R h fun F1 H1 μ1 v x s1 R1 r1 ⟨cc, b, e, h1⟩ => ?_⟩
  subst e
  cases r1 with
  | rule q =>
    have q2 := R1.m.sub _ _ q
    subst hfl
    refine ⟨_, RC X.K, _, _, .int (if st = true then cc else b), rfl, q2, c, n, ?_, k F1 H1 μ1 _ _ s1 R1 .int h1⟩
    cases st
    · exact ruleF_border
    · exact ruleF_step
theorem updM_none {μ : Mo} {a : Addr} (h : μ a = none) : updM μ a none = μ := by
  funext b
  unfold updM
  split
  · rename_i e; rw [e, h]
  · rfl
/-- the loop, once what it walks is known -/
def ForIn (g : DG) (b : DS) (De : DEnds) (items : List D) (δ : Slots) (μ : Mo) : Prop := ∃ W : Nat → Slots → Mo → Prop, W 0 δ μ ∧
  (∀ i x δ μ, items[i]? = some x → W i δ μ → g x δ μ fun δ2 μ2 => b { De with nx := W (i + 1), ct := W (i + 1), bk := De.nx } δ2 μ2) ∧ ∀ δ μ, W items.length δ μ → De.nx δ μ
theorem dFor_eq {di : DI} {g : DG} {b : DS} {De : DEnds} {δ : Slots} {μ : Mo} : dFor di g b De δ μ = di δ μ fun items μ1 => ForIn g b De items δ μ1 := rfl
theorem for_in {g : DG} {b : DS} {De : DEnds} {δ : Slots} {μ : Mo} {ds : List D} (W : Nat → Slots → Mo → Prop) (h0 : W 0 δ μ)
    (hs : ∀ i x δ μ, ds[i]? = some x → W i δ μ → g x δ μ fun δ2 μ2 => b { De with nx := W (i + 1), ct := W (i + 1), bk := De.nx } δ2 μ2) (he : ∀ δ μ, W ds.length δ μ → De.nx δ μ) : ForIn g b De ds δ μ := ⟨W, h0, hs, he⟩
theorem for_rng {g : DG} {b : DS} {De : DEnds} {δ : Slots} {μ : Mo} {lo : Int} {n : Nat} (W : Nat → Slots → Mo → Prop) (h0 : W 0 δ μ)
    (hs : ∀ (i : Nat) δ μ, i < n → W i δ μ → g (.int (lo + i)) δ μ fun δ2 μ2 => b { De with nx := W (i + 1), ct := W (i + 1), bk := De.nx } δ2 μ2) (he : ∀ δ μ, W n δ μ → De.nx δ μ) : ForIn g b De (rng lo n) δ μ :=
  ⟨W, h0, fun i x δ μ hx w => by
    obtain ⟨hl, rfl⟩ := rng_get hx
    exact hs i δ μ hl w, fun δ μ w => he δ μ (by rw [rng_length] at w; exact w)⟩
/-- a comprehension, once what it walks is known -/
def LcIn (g : DG) (tt : DT) (te : DE) (vs : List Nat) (Q : DK) (items : List D) (δ : Slots) (μ1 : Mo) : Prop := ∀ L, μ1 L = none → ∃ W : Nat → Mo → Prop, W 0 (updM μ1 L (some (.lst []))) ∧
  (∀ i x μ, items[i]? = some x → W i μ → g x (wipeD δ vs) μ fun δ2 μ2 => tt δ2 μ2 fun b μ3 =>
    if b = true then te δ2 μ3 fun y μ4 => ∃ acc, μ4 L = some (.lst acc) ∧ acc.length < sizeLine ∧ W (i + 1) (updM μ4 L (some (.lst (acc ++ [y])))) else W (i + 1) μ3) ∧
  ∀ μ, W items.length μ → ∃ ds, μ L = some (.lst ds) ∧ Q (.lst ds) (updM μ L none)
theorem dLc_eq {di : DI} {g : DG} {tt : DT} {te : DE} {vs : List Nat} {δ : Slots} {μ : Mo} {Q : DK} : dLc di g tt te vs δ μ Q = di δ μ fun items μ1 => LcIn g tt te vs Q items δ μ1 := rfl
theorem lc_in {g : DG} {dtt : DT} {dte : DE} {vs : List Nat} {δ : Slots} {μ : Mo} {Q : DK} {ds : List D} (f : D → Option D) (hz : ds.length ≤ 16777215)
    (hs : ∀ x ∈ ds, ∀ (μ : Mo) (Qe : Mo → Prop) (Qy : D → Mo → Prop), (f x = none → Qe μ) → (∀ y, f x = some y → Qy y μ) → g x (wipeD δ vs) μ fun δ2 μ2 => dtt δ2 μ2 fun b μ3 => if b = true then dte δ2 μ3 Qy else Qe μ3)
    (hQ : ∀ μ', (∀ a m, μ a = some m → μ' a = some m) → Q (.lst (ds.filterMap f)) μ') : LcIn g dtt dte vs Q ds δ μ :=
  fun L hL => lc_pure (di := diSeq (dVar 0)) hz hs hQ L hL
section
variable {X : Cx} {G : Gx X.K} {scope : Scope} {pos : Pos}
theorem xe_lcB {elt tg iter : Expr} {ifs : List Expr} (own : List (Str × Nat)) {di : DI} {g : DG} {dtt : DT} {dte : DE} {g' : Shared → Hp → Addr → List (Str × Addr) → List Addr → DG} {dtt' : Shared → Hp → Addr → List (Str × Addr) → List Addr → DT} {dte' : Shared → Hp → Addr → List (Str × Addr) → List Addr → DE} {is : List Nat} (hN : X.N.Nodup) (ok : BlkOk X.N X.env.scope scope own) (hi : XI X G tg iter di)
    (hg : ∀ (s : Shared) (H : Hp) (C : Addr) (cl : List (Str × Addr)) (fp : List Addr), XG (BX X scope s H C cl fp) G.blk tg is (g' s H C cl fp)) (ht : ∀ (s : Shared) (H : Hp) (C : Addr) (cl : List (Str × Addr)) (fp : List Addr), XTs (BX X scope s H C cl fp) G.blk ifs (dtt' s H C cl fp))
    (he : ∀ (s : Shared) (H : Hp) (C : Addr) (cl : List (Str × Addr)) (fp : List Addr), XE (BX X scope s H C cl fp) G.blk elt (dte' s H C cl fp))
    (eg : ∀ s H C cl fp, g' s H C cl fp = g := by intros; first | rfl | (dsimp only [Cx.blk, Gx.blk]; done) | (dsimp only [Cx.blk, Gx.blk]; rfl)) (et : ∀ s H C cl fp, dtt' s H C cl fp = dtt := by intros; first | rfl | (dsimp only [Cx.blk, Gx.blk]; done) | (dsimp only [Cx.blk, Gx.blk]; rfl)) (ee : ∀ s H C cl fp, dte' s H C cl fp = dte := by intros; first | rfl | (dsimp only [Cx.blk, Gx.blk]; done) | (dsimp only [Cx.blk, Gx.blk]; rfl))
    (hv : ∀ i ∈ is, i ∈ own.map (·.2) := by decide) (hc : X.calm = true := by rfl) (hs : ∀ x, foldedSetIterable iter X.env x = pure x := by intro _; rfl) :
    XE X G (.ListComp elt [⟨tg, iter, ifs, 0⟩] scope pos) (dLc di g dtt dte (own.map (·.2))) :=
  xe_lc own hN ok hi (fun s H C cl fp => by rw [← eg s H C cl fp]; exact hg s H C cl fp) (fun s H C cl fp => by rw [← et s H C cl fp]; exact ht s H C cl fp) (fun s H C cl fp => by rw [← ee s H C cl fp]; exact he s H C cl fp) hv hc hs
theorem xs_setLcB {i : Nat} {y : Str} {py : Pos} {elt tg iter : Expr} {ifs : List Expr} (own : List (Str × Nat)) {spos : Pos} {di : DI} {g : DG} {dtt : DT} {dte : DE} {g' : Shared → Hp → Addr → List (Str × Addr) → List Addr → DG} {dtt' : Shared → Hp → Addr → List (Str × Addr) → List Addr → DT} {dte' : Shared → Hp → Addr → List (Str × Addr) → List Addr → DE} {is : List Nat} (hN : X.N.Nodup)
    (hsw : swapsWith (.ListComp elt [⟨tg, iter, ifs, 0⟩] scope pos) (some (.Name y py)) spos.line X.env = pure true) (ok : BlkOk X.N X.env.scope scope own) (hi : XI X G tg iter di)
    (hg : ∀ (s : Shared) (H : Hp) (C : Addr) (cl : List (Str × Addr)) (fp : List Addr), XG (BX X scope s H C cl fp) G.blk tg is (g' s H C cl fp)) (ht : ∀ (s : Shared) (H : Hp) (C : Addr) (cl : List (Str × Addr)) (fp : List Addr), XTs (BX X scope s H C cl fp) G.blk ifs (dtt' s H C cl fp))
    (he : ∀ (s : Shared) (H : Hp) (C : Addr) (cl : List (Str × Addr)) (fp : List Addr), XE (BX X scope s H C cl fp) G.blk elt (dte' s H C cl fp))
    (eg : ∀ s H C cl fp, g' s H C cl fp = g := by intros; first | rfl | (dsimp only [Cx.blk, Gx.blk]; done) | (dsimp only [Cx.blk, Gx.blk]; rfl)) (et : ∀ s H C cl fp, dtt' s H C cl fp = dtt := by intros; first | rfl | (dsimp only [Cx.blk, Gx.blk]; done) | (dsimp only [Cx.blk, Gx.blk]; rfl)) (ee : ∀ s H C cl fp, dte' s H C cl fp = dte := by intros; first | rfl | (dsimp only [Cx.blk, Gx.blk]; done) | (dsimp only [Cx.blk, Gx.blk]; rfl))
    (hy : X.N[i]? = some y := by rfl) (hyl : X.env.scope.names.lookup y = some .local := by rfl)
    (hv : ∀ i ∈ is, i ∈ own.map (·.2) := by decide) (hc : X.calm = true := by rfl) (hs : ∀ x, foldedSetIterable iter X.env x = pure x := by intro _; rfl) :
    XS X G (.Assign [.Name y py] (.ListComp elt [⟨tg, iter, ifs, 0⟩] scope pos) spos) (dAsg (dLc di g dtt dte (own.map (·.2))) (dgName i)) :=
  xs_setLc own hN hsw ok hi (fun s H C cl fp => by rw [← eg s H C cl fp]; exact hg s H C cl fp) (fun s H C cl fp => by rw [← et s H C cl fp]; exact ht s H C cl fp) (fun s H C cl fp => by rw [← ee s H C cl fp]; exact he s H C cl fp) hy hyl hv hc hs
end
theorem fMax_2 {i j : Int} {μ : Mo} {Q : DK} : fMax [.int i, .int j] μ Q ↔ Q (.int (max i j)) μ := by
  have e : max i j = if j > i then j else i := by split <;> omega
  rw [e]
  constructor
  · rintro (⟨a, b, e, q⟩ | ⟨x, ns, e, _⟩)
    · cases e; exact q
    · cases e
  · exact fun q => .inl ⟨i, j, rfl, q⟩
theorem fMin_2 {i j : Int} {μ : Mo} {Q : DK} : fMin [.int i, .int j] μ Q ↔ Q (.int (min i j)) μ := by
  have e : min i j = if j < i then j else i := by split <;> omega
  rw [e]
  constructor
  · rintro (⟨a, b, e, q⟩ | ⟨x, ns, e, _⟩)
    · cases e; exact q
    · cases e
  · exact fun q => .inl ⟨i, j, rfl, q⟩
theorem while_in {c : DT} {b : DS} {De : DEnds} {δ : Slots} {μ : Mo} (W : Nat → Slots → Mo → Prop) (m : Nat) (h0 : W m δ μ) (hs : ∀ m δ μ, W m δ μ →
  c δ μ fun t μ1 => if t = true then b { De with nx := fun δ' μ' => ∃ m', m' < m ∧ W m' δ' μ', ct := fun δ' μ' => ∃ m', m' < m ∧ W m' δ' μ', bk := De.nx } δ μ1 else De.nx δ μ1) : dWhile c b De δ μ := ⟨W, ⟨m, h0⟩, hs⟩
theorem rcv_rounded {K : PySem.W.Frag} {μ : Mo} {c b : Int} : RcvOk K (RC K) "rounded" μ (.rule c b) := .inl ⟨rfl, by decide, by decide, _, _, rfl⟩
theorem rcv_charge {K : PySem.W.Frag} {μ : Mo} {c b : Int} : RcvOk K (RC K) "charge" μ (.rule c b) := .inl ⟨rfl, by decide, by decide, _, _, rfl⟩
theorem tup_mem {ts : List (List Int)} {i : Nat} {x : D} (h : (ts.map tupI)[i]? = some x) : ∃ t, t ∈ ts ∧ x = tupI t ∧ ts[i]? = some t := by
  rw [List.getElem?_map] at h
  cases q : ts[i]? with
  | none => rw [q] at h; cases h
  | some t => rw [q] at h; cases h; exact ⟨t, List.mem_of_getElem? q, rfl, rfl⟩
theorem take_snoc {α : Type} {l : List α} {i : Nat} {x : α} (h : l[i]? = some x) : l.take (i + 1) = l.take i ++ [x] := by
  rw [List.take_succ, h] <;> rfl
theorem atI_2m1 {α : Type} {x y : α} : atI [x, y] (-1) = some y := rfl
theorem atI_2m2 {α : Type} {x y : α} : atI [x, y] (-2) = some x := rfl
theorem atI_3m1 {α : Type} {x y z : α} : atI [x, y, z] (-1) = some z := rfl
theorem atI_3m2 {α : Type} {x y z : α} : atI [x, y, z] (-2) = some y := rfl
theorem fm_all {α β : Type} {f : α → Option β} {g : α → β} : ∀ {l : List α}, (∀ x ∈ l, f x = some (g x)) → l.filterMap f = l.map g
  | [], _ => rfl
  | x :: l, h => by
    rw [List.filterMap_cons, h x (List.mem_cons_self ..), List.map_cons, fm_all fun y hy => h y (List.mem_cons_of_mem _ hy)]
theorem fAll_of {α : Type} {l : List α} {g : α → Bool} {x : D} {μ : Mo} {Q : DK} (e : x = .lst (l.map fun a => .bl (g a))) (h : Q (.bl (l.all g)) μ) : fAll [x] μ Q := by
  refine ⟨l.map g, by rw [e, List.map_map] <;> rfl, ?_⟩
  rw [List.all_map]
  exact h
theorem fAdd_int {i j : Int} {μ : Mo} {Q : DK} : fAdd (.int i) (.int j) μ Q ↔ Q (.int (i + j)) μ := Iff.rfl
theorem fAdd_tup {xs ys : List D} {μ : Mo} {Q : DK} : fAdd (.tup xs) (.tup ys) μ Q ↔ xs.length + ys.length ≤ sizeLine ∧ Q (.tup (xs ++ ys)) μ := Iff.rfl
theorem fAdd_lst {xs ys : List D} {μ : Mo} {Q : DK} : fAdd (.lst xs) (.lst ys) μ Q ↔ xs.length + ys.length ≤ sizeLine ∧ Q (.lst (xs ++ ys)) μ := Iff.rfl
theorem fTuple_lst {ds : List D} {μ : Mo} {Q : DK} : fTuple [.lst ds] μ Q ↔ Q (.tup ds) μ := by
  constructor
  · rintro ⟨x, es, e, e2, q⟩
    cases e
    cases e2
    exact q
  · exact fun q => ⟨_, _, rfl, rfl, q⟩
theorem fList_tup {ds : List D} {μ : Mo} {Q : DK} : fList [.tup ds] μ Q ↔ Q (.lst ds) μ := by
  constructor
  · rintro ⟨x, es, e, e2, q⟩
    cases e
    cases e2
    exact q
  · exact fun q => ⟨_, _, rfl, rfl, q⟩
theorem ite_tail {p : Prop} [Decidable p] {A B : Prop} (h : B) (h2 : p → B → A) : if p then A else B := by
  split
  · rename_i hp; exact h2 hp h
  · exact h
theorem cutD_take {xs : List D} {i : Int} (h0 : 0 ≤ i) (h1 : i ≤ xs.length) : cutD xs none (some i) = xs.take i.toNat := by
  unfold cutD HT.sIx
  have : ¬ i < 0 := by omega
  simp only [List.drop_zero, Nat.sub_zero, this, if_false]
  congr 1
  omega
theorem cutD_drop {xs : List D} {i : Int} (h0 : 0 ≤ i) (h1 : i ≤ xs.length) : cutD xs (some i) none = xs.drop i.toNat := by
  unfold cutD HT.sIx
  have : ¬ i < 0 := by omega
  simp only [this, if_false]
  rw [show min i.toNat xs.length = i.toNat by omega]
  rw [← List.length_drop, List.take_length]
theorem lc_filter {α : Type} {g : DG} {dtt : DT} {dte : DE} {vs : List Nat} {δ : Slots} {μ : Mo} {Q : DK} {l : List α} {enc : α → D} (P : α → Bool) (f : α → D) (hz : l.length ≤ 16777215)
    (hs : ∀ a ∈ l, ∀ (μ : Mo) (Qe : Mo → Prop) (Qy : D → Mo → Prop), (P a = false → Qe μ) → (P a = true → Qy (f a) μ) → g (enc a) (wipeD δ vs) μ fun δ2 μ2 => dtt δ2 μ2 fun b μ3 => if b = true then dte δ2 μ3 Qy else Qe μ3)
    (hQ : ∀ μ', Less μ μ' → Q (.lst ((l.filter P).map f)) μ') : LcIn g dtt dte vs Q (l.map enc) δ μ := by
  intro L hL
  have h0 : ∀ {x : Option Mu}, Less μ (updM μ L x) := Less.new hL
  refine ⟨fun i μ' => μ' L = some (.lst (((l.take i).filter P).map f)) ∧ Less μ μ', ⟨updM_same, h0⟩, ?_, ?_⟩
  · rintro i x μ' hx ⟨h1, h2⟩
    rw [List.getElem?_map] at hx
    cases q : l[i]? with
    | none => rw [q] at hx; cases hx
    | some a =>
      rw [q] at hx
      cases hx
      have hi := (List.getElem?_eq_some_iff.mp q).1
      have e := take_snoc q
      refine hs a (List.mem_of_getElem? q) μ' _ _ (fun hp => ⟨?_, h2⟩) fun hp => ⟨_, h1, ?_, ?_, h2.put hL⟩
      · rw [e, List.filter_append, List.filter_cons, hp, h1]; simp
      · have l1 := List.length_filter_le P (l.take i)
        rw [List.length_take] at l1
        rw [List.length_map, sizeLine_eq]
        omega
      · rw [updM_same, e, List.filter_append, List.filter_cons, hp]; simp
  · rintro μ' ⟨h1, h2⟩
    rw [List.length_map, List.take_length] at h1
    exact ⟨_, h1, hQ _ (h2.put hL)⟩
theorem lc_map {α : Type} {g : DG} {dte : DE} {vs : List Nat} {δ : Slots} {μ : Mo} {Q : DK} {l : List α} {enc : α → D} (f : α → D) (hz : l.length ≤ 16777215)
    (hs : ∀ a ∈ l, ∀ (μ : Mo) (Qy : D → Mo → Prop), Qy (f a) μ → g (enc a) (wipeD δ vs) μ fun δ2 μ2 => dte δ2 μ2 Qy)
    (hQ : ∀ μ', Less μ μ' → Q (.lst (l.map f)) μ') : LcIn g dYes dte vs Q (l.map enc) δ μ :=
  lc_filter (fun _ => true) f hz (fun a ha μ Qe Qy _ h => hs a ha μ Qy (h rfl)) fun μ' h => by
    rw [show l.filter (fun _ => true) = l by simp]
    exact hQ μ' h
section
variable {α : Type} [DecidableEq α] (E : En α) {a b : α} {l : List α} {μ : Mo} {Q : DK}
theorem fNotIn_mem (h : a ∈ l) (q : Q (.bl false) μ) (hd : E.dep ≤ 63 := by decide) : fNotIn (E.enc a) (.lst (l.map E.enc)) μ Q := fNotIn_en E (by rw [decide_eq_true h]; exact q) hd
theorem fNotIn_not (h : a ∉ l) (q : Q (.bl true) μ) (hd : E.dep ≤ 63 := by decide) : fNotIn (E.enc a) (.lst (l.map E.enc)) μ Q := fNotIn_en E (by rw [decide_eq_false h]; exact q) hd
theorem fIn_mem (h : a ∈ l) (q : Q (.bl true) μ) (hd : E.dep ≤ 63 := by decide) : fIn (E.enc a) (.lst (l.map E.enc)) μ Q := fIn_en E (by rw [decide_eq_true h]; exact q) hd
theorem fIn_not (h : a ∉ l) (q : Q (.bl false) μ) (hd : E.dep ≤ 63 := by decide) : fIn (E.enc a) (.lst (l.map E.enc)) μ Q := fIn_en E (by rw [decide_eq_false h]; exact q) hd
theorem fEq_yes (h : a = b) (q : Q (.bl true) μ) (hd : E.dep ≤ 64 := by decide) : fEq (E.enc a) (E.enc b) μ Q := fEq_en E (by rw [decide_eq_true h]; exact q) hd
theorem fEq_no (h : a ≠ b) (q : Q (.bl false) μ) (hd : E.dep ≤ 64 := by decide) : fEq (E.enc a) (E.enc b) μ Q := fEq_en E (by rw [decide_eq_false h]; exact q) hd
theorem fNe_no (h : a = b) (q : Q (.bl false) μ) (hd : E.dep ≤ 64 := by decide) : fNe (E.enc a) (E.enc b) μ Q := fNe_en E (by rw [decide_eq_true h]; exact q) hd
theorem fNe_yes (h : a ≠ b) (q : Q (.bl true) μ) (hd : E.dep ≤ 64 := by decide) : fNe (E.enc a) (E.enc b) μ Q := fNe_en E (by rw [decide_eq_false h]; exact q) hd
end
theorem cxD_K {P : Program} {w : World} {K : PySem.W.Frag} {mg : Str → Option Value} {base : Heap} {N : List Str} {qual : Str} {scope : Scope} {f : Addr} {cd : Value} {A : Around} {outer : List Env} {s : Shared} {H : Hp} {E : XK} : (cxD P w K mg base N qual scope f cd A outer s H E).K = K := rfl
theorem dq {Q : DK} {x : D} {μ : Mo} (h : Q x μ) : DropQ Q x μ := ⟨μ, Less.refl _, h⟩
end DL

/-! DL8: in an except suite: the ends of iterators, a tuple taken apart, a comprehension. -/
namespace HotD
open PySem PySem.Spec PyProof.Rows HotX
section
variable {prog : Program} {w : World} {A : Around} {E : Value → Shared → Prop} {s : Shared}
/-- a new StopIteration while x1 is handled -/
theorem stop_hot {α : Type} {x1 : Addr} {Q : α → Shared → Prop} (hot : HotAt A x1 s.heap)
    (h : ∀ h' e oe, (∀ b o, s.heap.get? b = some o → h'.get? b = some o) → h'.get? e = some oe → oe.cls = .type "StopIteration" → E (.ref e) { s with heap := h' }) :
    wpAny (model prog w) A (do raiseNew (← newExc (.type "StopIteration") []) : Sem α) Q E s := by
  obtain ⟨hh, o1, vs1, g1, d1, c1⟩ := hot
  refine wpAny_bind ?_
  unfold newExc newTuple
  refine wpAny_bind (wpAny_newObj_type ?_ (by size_fits))
  refine wpAny_bind (m := firstArgMember _ _) (wpAny_of_eq (a := Value.none) (by first | rfl | (simp only [firstArgMember]; rfl)) ?_)
  refine wpAny_newObj_type ?_ (by size_fits)
  refine raiseNew_hot ⟨hh, o1, vs1, Heap.get?_push_of_some _ (Heap.get?_push_of_some _ g1), d1, c1⟩ (Nat.ne_of_lt (Heap.lt_size (Heap.get?_push_of_some _ g1))) (Heap.get?_push_size _ rfl) rfl ?_ ?_
  · first
    | (simp; done)
    | (simp; omega)
    | decide
  · refine h _ _ _ (fun b o e => ?_) (Heap.get?_update_self _ (Heap.get?_push_size _ rfl) rfl) rfl
    have e2 := Heap.get?_push_of_some { cls := .type "tuple", data := .seq #[] } e
    rw [Heap.get?_update_other _ _ (Nat.ne_of_gt (Heap.lt_size (Heap.get?_push_of_some _ e)))]
    exact Heap.get?_push_of_some _ (Heap.get?_push_of_some _ e)
/-- HotAt goes with what is kept -/
theorem HotAt.keep {x1 : Addr} {h h' : Heap} (hot : HotAt A x1 h) (k : ∀ o, h.get? x1 = some o → h'.get? x1 = some o) : HotAt A x1 h' := by
  obtain ⟨hh, o1, vs1, g1, d1, c1⟩ := hot
  exact ⟨hh, o1, vs1, k _ g1, d1, c1⟩
/-- a list iterator at its end -/
theorem lend_hot {it l x1 : Addr} {i : Nat} {items : Array Value} {Q : Option Value → Shared → Prop} (hot : HotAt A x1 s.heap) (ne : x1 ≠ it) (hit : s.heap.IsListIter it l i) (hl : s.heap.IsList l items) (hx : items[i]? = none)
    (hQ : ∀ h', Heap.ExtBut it s.heap h' → Q none { s with heap := h' }) : wpAny (model prog w) A (pyNext (.ref it)) Q E s := by
  obtain ⟨oi, ei, ci, di⟩ := id hit
  obtain ⟨ol, el, _, nl, dl⟩ := hl
  unfold pyNext
  refine wpAny_bind (wpAny_attempt (wpAny_callSpecial?_slot (name := Str.ofString "__next__") hit.typeIs slot_listiter_next (wpAny_call_entry slot_listiter_next hit.typeIs entry_listiter_next ?_ (args_listiter_next _))))
  show wpAny _ _ (field (.ref it) 0 >>= fun _ => _) _ _ s
  refine wpAny_bind (wpAny_field ei di (x := .ref l) rfl ?_)
  show wpAny _ _ (ite ((Value.ref l == Value.none) = true) _ _) _ _ s
  rw [if_neg (show ¬ (Value.ref l == Value.none) = true from Bool.false_ne_true)]
  show wpAny _ _ (field (.ref it) 1 >>= fun _ => _) _ _ s
  refine wpAny_bind (wpAny_field ei di (x := .int i 0) rfl ?_)
  show wpAny _ _ (seqItems? (.ref l) >>= fun _ => _) _ _ s
  refine wpAny_bind (wpAny_seqItems el dl ?_)
  simp only [Int.toNat_natCast, hx]
  refine wpAny_bind (wpAny_rule (wpAny_bind (wpAny_setField ei di (by simp) (stop_hot (x1 := x1) ?_ fun h' e oe k he hc => ?_))))
  · exact HotAt.keep hot fun o e => by
      show (s.heap.update it _).get? x1 = some o
      rw [Heap.get?_update_other _ _ (Ne.symm ne)]; exact e
  · refine wpAny_bind (wpAny_isInstance (T := "StopIteration") (b := true) ⟨_, he, hc⟩ isSubtype_stop (wpAny_pure (hQ _ fun b o hb e' => ?_)))
    refine k b o ?_
    show (s.heap.update it _).get? b = some o
    rw [Heap.get?_update_other _ _ (Ne.symm hb)]; exact e'
/-- a tuple iterator at its end -/
theorem tend_hot {it t x1 : Addr} {i : Nat} {items : Array Value} {Q : Option Value → Shared → Prop} (hot : HotAt A x1 s.heap) (ne : x1 ≠ it) (hit : IsTupIter s.heap it t i) (ht : IsTup s.heap t items) (hx : items[i]? = none)
    (hQ : ∀ h', Heap.ExtBut it s.heap h' → Q none { s with heap := h' }) : wpAny (model prog w) A (pyNext (.ref it)) Q E s := by
  obtain ⟨oi, ei, ci, di⟩ := id hit
  obtain ⟨ol, el, _, nl, dl⟩ := ht
  unfold pyNext
  refine wpAny_bind (wpAny_attempt (wpAny_callSpecial?_slot (name := Str.ofString "__next__") hit.typeIs slot_tupleiter_next (wpAny_call_entry slot_tupleiter_next hit.typeIs entry_tupleiter_next ?_ (args_tupleiter_next _))))
  show wpAny _ _ (field (.ref it) 0 >>= fun _ => _) _ _ s
  refine wpAny_bind (wpAny_field ei di (x := .ref t) rfl ?_)
  show wpAny _ _ (ite ((Value.ref t == Value.none) = true) _ _) _ _ s
  rw [if_neg (show ¬ (Value.ref t == Value.none) = true from Bool.false_ne_true)]
  show wpAny _ _ (field (.ref it) 1 >>= fun _ => _) _ _ s
  refine wpAny_bind (wpAny_field ei di (x := .int i 0) rfl ?_)
  show wpAny _ _ (seqItems? (.ref t) >>= fun _ => _) _ _ s
  refine wpAny_bind (wpAny_seqItems el dl ?_)
  simp only [Int.toNat_natCast, hx]
  refine wpAny_bind (wpAny_rule (wpAny_bind (wpAny_setField ei di (by simp) (stop_hot (x1 := x1) ?_ fun h' e oe k he hc => ?_))))
  · exact HotAt.keep hot fun o e => by
      show (s.heap.update it _).get? x1 = some o
      rw [Heap.get?_update_other _ _ (Ne.symm ne)]; exact e
  · refine wpAny_bind (wpAny_isInstance (T := "StopIteration") (b := true) ⟨_, he, hc⟩ isSubtype_stop (wpAny_pure (hQ _ fun b o hb e' => ?_)))
    refine k b o ?_
    show (s.heap.update it _).get? b = some o
    rw [Heap.get?_update_other _ _ (Ne.symm hb)]; exact e'
/-- a, b, .. = a tuple -/
theorem unpack_hot {t x1 : Addr} {items : Array Value} {targets : List (Bool × (Value → Sem Unit))} {Q : Unit → Shared → Prop} (hot : HotAt A x1 s.heap) (ht : IsTup s.heap t items) (hn : targets.length = items.size) (hstar : targets.findIdx? (·.1) = none)
    (h : ∀ h', Heap.ExtBut s.heap.objs.size s.heap h' → wpAny (model prog w) A (assignInOrder (targets.map (·.2)) items.toList) Q E { s with heap := h' }) : wpAny (model prog w) A (unpack (.ref t) targets) Q E s := by
  have lt1 : x1 ≠ s.heap.objs.size := by obtain ⟨_, o1, _, g1, _⟩ := hot; exact Nat.ne_of_lt (Heap.lt_size g1)
  have lt2 : t ≠ s.heap.objs.size := by obtain ⟨o, ho, _⟩ := ht; exact Nat.ne_of_lt (Heap.lt_size ho)
  unfold unpack
  rw [hn, hstar]
  refine wpAny_bind (wpAny_holding ?_)
  unfold unpackItems notIterableAtAll
  refine wpAny_bind (wpAny_bind (wpAny_specialOf ht.typeIs slot_tuple_iter.lookup (wpAny_pure ?_)))
  simp only [Bool.false_eq_true, if_false]
  refine wpAny_bind (wpAny_holding (iter_tuple ht (wpAny_bind (wpAny_holding (draw_tuple lt2 items.size 0 _ _ ⟨_, Heap.get?_push_size _ rfl, rfl, rfl⟩ (ht.push _) (by omega) fun h₁ hit₁ hs₁ => ?_)))))
  rw [List.drop_zero, List.take_of_length_le (by simp), if_neg (by simp)]
  have k1 : ∀ b o, b ≠ s.heap.objs.size → s.heap.get? b = some o → h₁.get? b = some o := fun b o hb e => hs₁.extBut b o hb (Heap.get?_push_of_some _ e)
  refine wpAny_bind (wpAny_holding (tend_hot (x1 := x1) (HotAt.keep hot fun o e => k1 _ o lt1 e) lt1 hit₁ ((ht.push _).extBut hs₁.extBut lt2) (by simp) fun h₂ he₂ => ?_))
  simp only [Option.isSome_none, Bool.false_eq_true, if_false]
  exact wpAny_pure (h h₂ fun b o hb e => he₂ b o hb (k1 b o hb e))
end
end HotD

/-! DL9: in an except suite: a tuple taken apart, a list comprehension. -/
namespace HotD
open PySem PySem.Spec PyProof.Rows HotX L2
/-- an exception is handled whose object stands still -/
def HotN (X : Cx) : Prop := ∀ (pins : List (Addr × Obj)) (σ : L2.St) (H : Hp) (s : Shared), Inv X pins σ H s → ∃ x1, HotAt X.A x1 s.heap
structure HotW (X : Cx) : Prop where
  at_ : ∀ (pins : List (Addr × Obj)) (σ : L2.St) (H : Hp) (s : Shared), Inv X pins σ H s → ∃ x1, HotAt X.A x1 s.heap ∧ H x1 = none ∧ x1 ∉ frs X.stack ∧ ∀ b, FpOk X pins H b → x1 ≠ b
theorem HotW.n {X : Cx} (h : HotW X) : HotN X := fun pins σ H s I => let ⟨x1, a, _⟩ := h.at_ pins σ H s I; ⟨x1, a⟩
section
variable {X : Cx} {pos : Pos}
theorem pg_tupN {es : List Expr} {k : Nat} {t : TGs} {n : Nat} (hot : HotN X) (h : PGs X es t) (hn : (assignEach es X.env).length = n := by rfl) (hst : (assignEach es X.env).findIdx? (·.1) = none := by rfl) : PG X (.Tuple es k pos) (gTup X.K n t) := by
  refine ⟨fun pins s σ H v u Q I r ⟨a, xs, e1, hq, hl, hw⟩ => ?_⟩
  subst e1
  cases r
  obtain ⟨its, rv, ht, _⟩ := I.tuple hq
  obtain ⟨x1, ha⟩ := hot _ _ _ _ I
  rw [assign_Tuple]
  refine wpAny_bind (wpAny_standAt (unpack_hot ha ht (by simp [hn, ← hl, rv.length]) hst fun h' hx => ?_))
  exact h.run pins _ σ H xs _ Q (I.kept (t' := s.toks) fun b o e => hx b o (Nat.ne_of_lt (Heap.lt_size e)) e) (by simpa using rv) hw
/-- a list is walked -/
def iLst (K : PySem.W.Frag) (tl : TE) : TI := fun σ H R => tl σ H fun x H1 => ∃ a xs, x = .ref a ∧ SqL K H1 a xs ∧ R (Itl K a) H1
theorem pe_lcN {elt tg l : Expr} {ifs : List Expr} {scope : Scope} {own : List (Str × Nat)} {tl : TE} {g : TG} {tt : TT} {te : TE} (hot : HotW X) (hN : X.N.Nodup) (hl : PE X l tl) (ok : BlkOk X.N X.env.scope scope own)
    (hg : ∀ (s : Shared) (H : Hp) (C : Addr) (cl : List (Str × Addr)) (fp : List Addr), HotN (X.blk s H scope (compEnvC scope cl C X.env) fp) → PG (X.blk s H scope (compEnvC scope cl C X.env) fp) tg g)
    (ht : ∀ (s : Shared) (H : Hp) (C : Addr) (cl : List (Str × Addr)) (fp : List Addr), PTs (X.blk s H scope (compEnvC scope cl C X.env) fp) ifs tt)
    (he : ∀ (s : Shared) (H : Hp) (C : Addr) (cl : List (Str × Addr)) (fp : List Addr), PE (X.blk s H scope (compEnvC scope cl C X.env) fp) elt te)
    (hs : ∀ x, foldedSetIterable l X.env x = pure x := by intro _; rfl) : PE X (.ListComp elt [⟨tg, l, ifs, 0⟩] scope pos) (tLc (iLst X.K tl) g tt te (own.map (·.2))) := by
  refine ⟨fun pins s σ H Q I h => ?_⟩
  rw [eval_ListComp]
  have cells : ∀ y ∈ scope.names, y.2 = .free → ∃ c, X.env.cells.lookup y.1 = some c := fun y hy e => (ok.free y hy e).elim (fun k => I.ok.has _ (.inl k)) (fun k => I.ok.has _ (.inr k))
  refine wpAny_comprehension_free (use := none) rfl hs (closure_ok cells) ok.kind (fun y hy e => (ok.uniq y hy).trans (congrArg some e)) (thn (hl.run pins s σ H _ I h) fun xv s1 hx => ?_)
  obtain ⟨x, H1, I1, rx, a, xs, e, hsq, q⟩ := hx
  subst e
  cases rx
  obtain ⟨its, rv, pl, hz⟩ := I1.list hsq
  refine wpAny_pyIter_list pl.isList ?_
  -- the iterator, the new list
  have J2 : Inv X pins σ H1 { s1 with heap := s1.heap.push { cls := .type "list_iterator", data := .fields #[.ref a, rawInt 0] }, toks := s1.toks } := I1.kept fun b o e => Heap.get?_push_of_some _ e
  have st2 : (s1.heap.push { cls := .type "list_iterator", data := .fields #[.ref a, rawInt 0] }).IsListIter s1.heap.objs.size a 0 := ⟨_, Heap.get?_push_size _ rfl, rfl, rfl⟩
  have fo : FpOk X pins H1 s1.heap.objs.size := I1.fpOk (Nat.le_refl _) (I1.hok.fresh (Nat.le_refl _))
  generalize e2 : ({ s1 with heap := s1.heap.push { cls := .type "list_iterator", data := .fields #[.ref a, rawInt 0] } } : Shared) = s2 at J2
  have st2' : s2.heap.IsListIter s1.heap.objs.size a 0 := by rw [← e2]; exact st2
  generalize s1.heap.objs.size = it at fo st2' ⊢
  have lit : it < s2.heap.objs.size := by obtain ⟨o, eo, _⟩ := st2'; exact Heap.lt_size eo
  have goal2 : ∀ {P : Prop}, P → P := fun h => h
  clear st2
  show wpAny _ _ (newList []) _ _ ({ s1 with heap := s1.heap.push { cls := .type "list_iterator", data := .fields #[.ref a, rawInt 0] } } : Shared)
  rw [e2]
  refine wpAny_newObj_type (newEnv_comp ?_) (by show 0 ≤ sizeLine; decide)
  generalize eD : s2.heap.objs.size = D
  have nD : H1 D = none := J2.hok.fresh (Nat.le_of_eq eD)
  obtain ⟨W, ⟨m0, w0⟩, turn⟩ := q D nD
  generalize e3 : ({ s2 with heap := s2.heap.push { cls := .type "list", data := .seq ([] : List Value).toArray } } : Shared) = s3
  have J3 : Inv X pins σ (upd H1 D (.lst [])) s3 := by
    have z := J2.laid (a := D) (o := .lst []) (h' := s2.heap.push { cls := .type "list", data := .seq ([] : List Value).toArray }) (t' := s2.toks) (fun b o e => Heap.get?_push_of_some _ e) (Nat.le_of_eq eD) ⟨Nat.zero_le _, [], 0, .nil, by rw [← eD]; exact Heap.get?_push_size _ rfl⟩
    rw [← e3]
    exact z
  have p3 : s3.heap = s2.heap.push { cls := .type "list", data := .seq ([] : List Value).toArray } := by rw [← e3]
  have k3 : ∀ b o, s2.heap.get? b = some o → s3.heap.get? b = some o := fun b o e => by rw [p3]; exact Heap.get?_push_of_some _ e
  have itD : it ≠ D := by rw [← eD]; exact Nat.ne_of_lt lit
  have st3 : s3.heap.IsListIter it a 0 := st2'.at fun o e => k3 it o e
  have f3 : FpOk X pins (upd H1 D (.lst [])) it := ⟨(upd_ne itD).trans fo.1, fo.2⟩
  have l3 : it < s3.heap.objs.size := by obtain ⟨o, eo, _⟩ := st3; exact Heap.lt_size eo
  obtain ⟨x1, hot3, hx1, hxf, hxb⟩ := hot.at_ _ _ _ _ J3
  have J4 := block_start J3 ok hN (fp := [it]) fun b hb => by
    rw [List.mem_singleton.mp hb]
    exact ⟨f3, l3⟩
  show codeAny _ _ (.compStart (.ListComp elt [⟨tg, l, ifs, 0⟩] scope pos) 0 (.ref it) (.ref D) (compEnvC scope (cellsFrom (s3.heap.objs.size + 1) scope.names (cloFrom X.env.cells scope.names [])) s3.heap.objs.size X.env)) (compPost (model X.prog X.w) X.A X.xe none (EP X pins σ Q) (.ref D) s3.heap.objs.size) { s3 with heap := pushCells (s3.heap.push { cls := .type "dict", data := .dict #[] }) scope.names }
  have nit : x1 ≠ it := hxb it f3
  generalize eH : upd H1 D (.lst []) = H3 at J3 J4 f3 hx1 w0
  have pg := hg s3 H3 s3.heap.objs.size (cellsFrom (s3.heap.objs.size + 1) scope.names (cloFrom X.env.cells scope.names [])) [it]
  have pt := ht s3 H3 s3.heap.objs.size (cellsFrom (s3.heap.objs.size + 1) scope.names (cloFrom X.env.cells scope.names [])) [it]
  have pe := he s3 H3 s3.heap.objs.size (cellsFrom (s3.heap.objs.size + 1) scope.names (cloFrom X.env.cells scope.names [])) [it]
  have eL : (compEnvC scope (cellsFrom (s3.heap.objs.size + 1) scope.names (cloFrom X.env.cells scope.names [])) s3.heap.objs.size X.env).locals = s3.heap.objs.size := rfl
  generalize compEnvC scope (cellsFrom (s3.heap.objs.size + 1) scope.names (cloFrom X.env.cells scope.names [])) s3.heap.objs.size X.env = ce at J4 pg pt pe eL ⊢
  have k4 : ∀ o, s3.heap.get? it = some o → (pushCells (s3.heap.push { cls := .type "dict", data := .dict #[] }) scope.names).get? it = some o := fun o e => pushCells_keeps _ _ _ _ (Heap.get?_push_of_some _ e)
  have st4 : (pushCells (s3.heap.push { cls := .type "dict", data := .dict #[] }) scope.names).IsListIter it a 0 := st3.at k4
  generalize e4 : ({ s3 with heap := pushCells (s3.heap.push { cls := .type "dict", data := .dict #[] }) scope.names } : Shared) = s4 at J4 ⊢
  have st4 : s4.heap.IsListIter it a 0 := by rw [← e4]; exact st4
  generalize eB : X.blk s3 H3 scope ce [it] = B at J4 pg pt pe
  have bm : it ∈ B.ex := by rw [← eB]; exact List.mem_singleton.mpr rfl
  have hotB : ∀ (pins : List (Addr × Obj)) (σ' : L2.St) (H' : Hp) (s' : Shared), Inv B pins σ' H' s' → HotAt X.A x1 s'.heap := fun pins σ' H' s' J => by
    refine HotAt.keep hot3 fun o e => ?_
    have z := J.base.keep x1 o
    rw [← eB] at z
    exact z e hx1 hxf fun m => nit (List.mem_singleton.mp m)
  have foB : ∀ {σ' : L2.St} {H' : Hp} {s' : Shared}, Inv B [] σ' H' s' → H' it = none → FpOk B [] H' it := fun {σ' H' s'} J n =>
    ⟨n, (J.ok.exf it bm).1, J.ok.exfs it bm, .inl bm, fun x c e => (J.ok.exf it bm).2 x c e, fun p hp => by
      rw [← eB] at hp
      exact absurd (show p ∈ ([] : List (Addr × Obj)) ++ [] from hp) (by simp)⟩
  have eBP : B.prog = X.prog ∧ B.w = X.w ∧ B.A = X.A ∧ B.K = X.K ∧ B.env = ce ∧ B.N = X.N := by rw [← eB]; exact ⟨rfl, rfl, rfl, rfl, rfl, rfl⟩
  clear eBP
  subst eB
  have pgg := pg fun pins σ' H' s' J => ⟨x1, hotB pins σ' H' s' J⟩
  refine codeAny_compStart_list ?_ (wpAny_pyIter_listiter st4 ?_)
  all_goals
    refine compLoop_any (fun n s' => ∃ i H', Inv (X.blk s3 H3 scope ce [it]) [] (wipe σ (own.map (·.2))) H' s' ∧ s'.heap.IsListIter it a i ∧ H' it = none ∧ W i n H') ?_ m0 ⟨0, H3, J4, st4, f3.1, w0⟩
    rintro n s5 ⟨i, H5, J5, st5, n5, w5⟩
    have fo5 := foB J5 n5
    obtain ⟨g0, g1, g2, g3, g4, g5⟩ := fo5
    rcases turn i n H5 w5 with ⟨⟨ys, hq5, hle⟩, qq⟩ | ⟨⟨ys, y, hq5, hy⟩, Nx, hNx, step⟩
    · obtain ⟨its5, rv5, pl5, _⟩ := J5.list hq5
      have hl5 := rv5.length
      refine lend_hot (hotB _ _ _ _ J5) nit st5 pl5.isList (by simp; omega) fun h6 eb => ?_
      have J6 : Inv (X.blk s3 H3 scope ce [it]) [] (wipe σ (own.map (·.2))) H5 { s5 with heap := h6 } := J5.turned (t' := s5.toks) (fun b o hb e => eb b o hb e) g0 g1 g3 g4 g5
      have J7 : Inv X pins σ H5 { s5 with heap := h6 } := J3.call' (ch := [it]) J6.os J6.base J6.hok J6.bare fun b hb => by
        rw [List.mem_singleton.mp hb]
        exact ⟨f3.2.2.2.1, f3.2.1, f3.2.2.2.2.1, f3.2.2.2.2.2⟩
      obtain ⟨m, hn, _⟩ := J6.loc
      have nC : H5 s3.heap.objs.size = none := by
        have z : H5 ce.locals = none := J6.free
        rw [eL] at z
        exact z
      have hn : h6.Ns ce.locals m := hn
      rw [eL] at hn
      obtain ⟨c0, c1, c2, c3, c4, c5⟩ := J3.fpOk (Nat.le_refl _) nC
      exact ⟨m, hn, fun h7 sb => ⟨.ref D, H5, J7.turned (t' := s5.toks) (fun b o hb e => (sb.2 b hb).trans e) c0 c1 c3 c4 c5, rfl, qq⟩⟩
    · obtain ⟨its5, rv5, pl5, _⟩ := J5.list hq5
      obtain ⟨u, hu, ru⟩ := rv5.get hy
      refine wpAny_pyNext_list_item st5 pl5.isList (x := u) (by simpa using hu) fun h6 st6 sb => ?_
      have J6 : Inv (X.blk s3 H3 scope ce [it]) [] (wipe σ (own.map (·.2))) H5 { s5 with heap := h6 } := J5.turned (t' := s5.toks) (fun b o hb e => (sb.2 b hb).trans e) g0 g1 g3 g4 g5
      obtain ⟨oi, ei, ci, di⟩ := id st6
      refine go_of (s := { s5 with heap := h6 }) ei ci di (by decide) ?_
      have hold : ∀ b ∈ [it], ∃ o, h6.get? b = some o ∧ ∀ v, o.data ≠ .cell v := fun b hb => by
        rw [List.mem_singleton.mp hb]
        exact ⟨oi, ei, fun v z => by rw [di] at z; cases z⟩
      have J6' := J6.pinned (fp := [it]) (fun b hb => by rw [List.mem_singleton.mp hb]; exact foB J6 n5) hold
      have done_ : ∀ {σ8 : L2.St} {H' : Hp} {s' : Shared}, Inv (X.blk s3 H3 scope ce [it]) ([] ++ pinsAt [it] h6) σ8 H' s' → wipe σ8 (own.map (·.2)) = wipe σ (own.map (·.2)) → Nx H' → ∃ m, m < n ∧ ∃ i H', Inv (X.blk s3 H3 scope ce [it]) [] (wipe σ (own.map (·.2))) H' s' ∧ s'.heap.IsListIter it a i ∧ H' it = none ∧ W i m H' := fun {σ8 H' s'} J hw nx => by
        obtain ⟨m', hm, w'⟩ := hNx H' nx
        obtain ⟨z1, z2, _⟩ := J.pin (it, oi) (List.mem_append_right _ (List.mem_append_right _ (mem_pinsAt (List.mem_singleton.mpr rfl) ei)))
        refine ⟨m', hm, i + 1, H', (J.unpinned (pins := [])).weak (by rw [← hw, wipe_length]) (fun j v e => ?_), st6.at fun o e => ?_, z2, w'⟩
        · rw [← hw] at e
          exact (wipe_some e).1
        · rw [ei] at e
          cases e
          exact z1
      refine thnF (pgg.run _ _ _ H5 y u _ J6' ru (step y H5 ⟨rfl, fun zs hz => by rw [J5.list_inj hz hq5]; exact hy⟩)) fun _ s8 ⟨σ8, H8, J8, hw8, q8⟩ => ?_
      refine thnF (pt.run _ s8 σ8 H8 _ J8 q8) fun t9 s9 ⟨H9, J9, q9⟩ => ?_
      cases t9 with
      | false =>
        rw [if_neg Bool.false_ne_true] at q9 ⊢
        exact done_ J9 hw8 q9
      | true =>
        rw [if_pos rfl] at q9 ⊢
        refine thnF (pe.run _ s9 σ8 H9 _ J9 q9) fun z s10 ⟨yv, H10, J10, r10, acc, hD10, hz10, nx⟩ => ?_
        exact app_ok (X := X.blk s3 H3 scope ce [it]) J10 hD10 hz10 r10 fun s11 J11 => done_ J11 hw8 nx
end
end HotD

/-! DL10: raise, try, isinstance of the exception, the suite. -/
namespace DL
open PySem PySem.Spec PyProof.Rows L2
/-- an own exception class -/
structure ExcT (K : PySem.W.Frag) (C : Addr) : Prop where
  q : PySem.W.excIn K C He.veBase "ValueError.__new__" = true
  kp : PySem.W.keepIn K (.ref C) = true
  sub : PySem.W.subIn K (.ref C) (.type "BaseException") = some true
  ty : PySem.W.typeIn K (.ref C) = some (.type "type")
theorem ExcT.of {K : PySem.W.Frag} {x : Str} (c : (He.Fa.exc x).ok K = true) : ExcT K (He.ga K x) := let ⟨a, b, c, d⟩ := He.exc_ok c; ⟨a, b, c, d⟩
/-- its instances, asked by isinstance -/
def excCB (K : PySem.W.Frag) (D : Addr) : Bool := He.eqO (PySem.W.findIn K (.ref D) "__getattribute__") (some (some (.builtin "BaseException.__getattribute__"))) && (He.eqO (PySem.W.findIn K (.ref D) "__getattr__") (some none) && (decide (PySem.W.subIn K (.ref D) (.type "BaseException") = some true) && (PySem.W.hasDictIn K D &&
  (He.eqO (PySem.W.findIn K (.ref D) "__class__") (some (some (.builtin "object.__class__"))) && (He.eqO (PySem.W.specialIn K (.builtin "object.__class__") "__get__") (some (some (.builtin "getset_descriptor.__get__"))) && (decide (PySem.W.takesIn K (.builtin "object.__class__") = some true) && decide (PySem.W.mroIn K D (.type "object") = some true)))))))
theorem excC_ok {K : PySem.W.Frag} {D : Addr} (h : excCB K D = true) : ExcC K D := by
  obtain ⟨h1, h⟩ := He.ba h
  obtain ⟨h2, h⟩ := He.ba h
  obtain ⟨h3, h⟩ := He.ba h
  obtain ⟨h4, h⟩ := He.ba h
  obtain ⟨h5, h⟩ := He.ba h
  obtain ⟨h6, h⟩ := He.ba h
  obtain ⟨h7, h8⟩ := He.ba h
  exact ⟨He.eqO_ok h1, He.eqO_ok h2, of_decide_eq_true h3, h4, He.eqO_ok h5, He.eqO_ok h6, of_decide_eq_true h7, of_decide_eq_true h8⟩
section
variable {X : Cx} {G : Gx X.K} {C : Addr} {x m : Str} {j : Nat} {p p2 pos pos' : Pos}
def dRaise (ξ : Addr → Mo → Prop) (C : Addr) : DS := fun _ _ μ => ξ C μ
theorem xs_raise (T : ExcT X.K C) (gC : X.mg x = some (.ref C)) (hc : X.calm = true := by rfl) (tk : L2N.Takes X (fun cls d _ H => G.E cls d H) := by exact L2N.takes_of rfl rfl rfl rfl) (hg : Gl X x := by rfl) (hdb : (x == ("__debug__" : Str)) = false := by decide) :
    XS X G (.Raise (some (.Call (.Name x p) [.Constant (.str m) j p2] [] pos)) none pos') (dRaise G.ξ C) :=
  ⟨_, L2N.ps_raise hc tk (L2N.pmk_own PySem.F.excBase_ValueError T.q gC T.kp (raises_own T.sub T.ty) hg hdb), fun F H σ δ μ D' D R h k => G.ok F H μ C R.fl R.m h⟩
/-- + of a list that changes and one more: a new one -/
def fAddM : DO := fun x y μ Q => ∃ p xs ys, x = .ref p ∧ μ p = some (.lst xs) ∧ y = .lst ys ∧ xs.length + ys.length ≤ sizeLine ∧ ∀ q, μ q = none → Q (.ref q) (updM μ q (some (.lst (xs ++ ys))))
theorem xo_addM : XO X (binaryOp .Add) fAddM := by
  refine ⟨_, op_cat, fun F H μ v w x y Q' Q R r1 r2 ⟨p, xs, ys, e1, e2, e3, hz, h⟩ k => ?_⟩
  subst e1 e3
  cases r1
  obtain ⟨f, vs, h1, h2⟩ := R.mu p _ e2
  obtain ⟨b, ws, rfl, hb, tb, _⟩ := rpLst R r2
  refine ⟨p, b, vs, ws, rfl, rfl, h1, hb, by rw [h2.length, tb.length]; exact hz, fun q hq => ?_⟩
  exact k _ _ _ _ _ (Same.refl _) (R.putL (R.freeF hq) (h2.append tb)) .ref (h q (R.freeM hq))
end
/-! ### the suite's context -/
section
variable {X : Cx} {a : Addr} {oe : Obj} {pn : List (Addr × Obj)}
theorem hot_suite (hz : PXN.CtxN oe) (hf : ∃ vs, oe.data = .fields vs) : HotD.HotW (X.suite a ((a, oe) :: pn)) := by
  obtain ⟨vs, hv⟩ := hf
  refine ⟨fun pins σ H s I => ⟨a, ⟨rfl, oe, vs, ?_⟩, ?_⟩⟩
  · exact ⟨(I.pin (a, oe) (List.mem_append_left _ (List.mem_cons_self ..))).1, hv, hz vs hv⟩
  · obtain ⟨_, n, nl, nf, _⟩ := I.pin (a, oe) (List.mem_append_left _ (List.mem_cons_self ..))
    refine ⟨n, fun hm => ?_, fun b fb => fb.2.2.2.2.2 (a, oe) (List.mem_append_left _ (List.mem_cons_self ..))⟩
    rcases List.mem_cons.mp (I.stkSub a hm) with z | z
    · exact nl z
    · exact nf z
/-- isinstance(e, C) -/
def fIsE (K : PySem.W.Frag) (C a : Addr) : DF := fun xs μ Q => ∃ c u b, xs = [.ref a, c] ∧ ClsD c u ∧ ExcC K C ∧ PySem.W.kitOne K (.ref C) u = some b ∧ Q (.bl b) μ
theorem xc_isE {C : Addr} (hz : Zc (.ref C) none oe) (hf : ∃ vs, oe.data = .fields vs) : XC (X.suite a ((a, oe) :: pn)) (.builtin "isinstance") (fIsE X.K C a) := by
  refine ⟨fun vs H Q => ExcC X.K C ∧ rIsE X.K C a vs H Q, fun pins s σ H xs us Q I r ⟨hC, h⟩ => call_isE hC hz hf pins s σ H xs us Q I r h, fun F H μ vs xs Q' Q R r ⟨c, u, b, e, hc, hC, hk, q⟩ k => ?_⟩
  subst e
  obtain ⟨v, w, rfl, r1, r2⟩ := rpl2 r
  cases r1
  refine ⟨hC, w, u, b, rfl, fun u' hu => ?_, hk, k F H μ _ _ (Same.refl _) R .bl q⟩
  cases hc with
  | ty => cases r2; exact hu
  | own => cases r2; exact hu
end
end DL

/-! DL11: lambdas without captured names: made, called. -/
namespace DL
open PySem PySem.Spec PyProof.Rows L2
section
variable {X : Cx} {G : Gx X.K} {params : Arguments} {body : Expr} {scope : Scope} {pos : Pos} {c P : Addr} {q : Str}
def tLamV (P : Addr) (q : Str) (params : Arguments) (body : Expr) (scope : Scope) (pos : Pos) : TE := fun _ H Q => ∃ ps : Array Value, H P = some (.tbl ps) ∧ TriplesOk ps.toList ∧
  (∀ cv, codeAmong pos ps.toList = some cv → ∃ c, cv = .ref c ∧ H c = some (LamX.CodeO c q) ∧ ∀ f, H f = none → Q (.ref f) (upd H f (LamV f c q params body scope))) ∧
  (codeAmong pos ps.toList = none → ∀ f c, H f = none → H c = none → f ≠ c → Q (.ref f) (upd (upd (upd H P (.tbl (ps ++ #[rawInt pos.line, rawInt pos.col, .ref c]))) c (LamX.CodeO c q)) f (LamV f c q params body scope)))
theorem lamV_new {H : Hp} {h : Heap} {f c : Addr} {pm ctv : Value} (hf : h.get? f = some (PySem.W.kla_obj "<lambda>" q params body scope [] pm c ctv)) : ObjOk X.prog X.w H h f (LamV f c q params body scope) :=
  ⟨⟨pm, ctv, hf⟩, ⟨_, hf⟩, fun h1 h2 ⟨pm, ctv, e⟩ st => ⟨pm, ctv, st _ e⟩⟩
theorem pe_lamV (TB : LamX.TabB X.base X.mg c P) (hcode : X.env.code = .ref c) (hq : q = X.env.qual ++ "<lambda>") (hdef : defaultsOf params X.env = ([], [])) (hfree : ∀ y ∈ scope.names, y.2 ≠ .free) :
    PE X (.Lambda params body scope pos) (tLamV P q params body scope pos) := by
  refine ⟨fun pins s σ H Q I ⟨ps, hP, ht, hit, hno⟩ => PySem.W.kla_eval hdef ?_⟩
  rw [← hq]
  have clos : closureFor scope X.env = pure [] := by
    have z := closure_ok (scope := scope) (env := X.env) fun y hy e => absurd e (hfree y hy)
    rw [z]
    have : ∀ (l : List (Str × NameKind)) (acc : List (Str × Addr)), (∀ y ∈ l, y.2 ≠ .free) → cloFrom X.env.cells l acc = acc := by
      intro l
      induction l with
      | nil => intro acc _; rfl
      | cons y r ih =>
        intro acc h
        have hy := h y (List.mem_cons_self ..)
        have hr := ih acc fun z hz => h z (List.mem_cons_of_mem _ hz)
        obtain ⟨n, k⟩ := y
        cases k <;> first
          | exact absurd rfl hy
          | (unfold cloFrom; exact hr)
          | (simp only [cloFrom]; exact hr)
          | (simp [cloFrom]; exact hr)
    rw [this _ _ hfree]
  have bP : s.heap.BuiltinsAt X.mg P := TB.bm.keeps I.bk
  have hP' : s.heap.get? P = some { cls := .none, data := .fields ps } := I.hok P _ hP
  cases hc : codeAmong pos ps.toList with
  | none =>
    refine PySem.W.kla_makeFunction (mg := X.mg) (c := c) (P := P) (ps := ps) clos I.ok.glob (I.mod.glob.keeps I.bk) hcode (TB.code.keeps I.bk) hP' ht hc TB.gP bP fun c' ctv h' tk hx hge hlt hrec htb => ?_
    obtain ⟨c2, oc, vs, t, e2, hoc, hd, hv⟩ := hrec
    cases e2
    have nC : H c' = none := I.hok.fresh hge
    have hsz : s.heap.objs.size ≤ h'.objs.size := Nat.le_trans hge (Nat.le_of_lt hlt)
    have nF : H h'.objs.size = none := I.hok.fresh hsz
    have J := LamX.inv_table (q := q) (t' := tk) (more := #[rawInt pos.line, rawInt pos.col, .ref c']) (h' := h') I hP (fun b o hb e => hx b o hb e) htb hge ⟨oc, vs, t, hoc, hd, hv⟩
    have J2 := J.laid (a := h'.objs.size) (o := LamV h'.objs.size c' q params body scope) (h' := h'.push (PySem.W.kla_obj "<lambda>" q params body scope [] ((X.mg "__name__").getD .none) c' ctv)) (t' := tk) (fun b o e => Heap.get?_push_of_some _ e) (Nat.le_refl _) (lamV_new (Heap.get?_push_size _ rfl))
    exact ⟨.ref h'.objs.size, _, J2, rfl, hno hc _ _ nF nC (Nat.ne_of_gt hlt)⟩
  | some cv =>
    obtain ⟨c', e, hco, hQ⟩ := hit cv hc
    subst e
    refine PySem.W.kla_makeFunctionHit (mg := X.mg) (c := c) (P := P) (ps := ps) clos I.ok.glob (I.mod.glob.keeps I.bk) hcode (TB.code.keeps I.bk) hP' ht hc bP fun ctv h' tk hx hsz => ?_
    have nF : H h'.objs.size = none := I.hok.fresh hsz
    have J : Inv X pins σ H { s with heap := h', toks := tk } := I.kept (t' := tk) hx
    have J2 := J.laid (a := h'.objs.size) (o := LamV h'.objs.size c' q params body scope) (h' := h'.push (PySem.W.kla_obj "<lambda>" q params body scope [] ((X.mg "__name__").getD .none) c' ctv)) (t' := tk) (fun b o e => Heap.get?_push_of_some _ e) (Nat.le_refl _) (lamV_new (Heap.get?_push_size _ rfl))
    exact ⟨.ref h'.objs.size, _, J2, rfl, hQ _ nF⟩
def dLam (P : Addr) (q : Str) (params : Arguments) (body : Expr) (scope : Scope) : DE := fun _ μ Q => μ P = some (.tbl q) ∧ Q (.lam q params body scope) μ
theorem updM_id {μ : Mo} {a : Addr} {m : Mu} (h : μ a = some m) : updM μ a (some m) = μ := by
  funext b
  unfold updM
  split
  · rename_i e; rw [e, h]
  · rfl
theorem xe_lam (TB : LamX.TabB X.base X.mg c P) (hcode : X.env.code = .ref c) (hq : q = X.env.qual ++ "<lambda>" := by rfl) (hdef : defaultsOf params X.env = ([], []) := by rfl) (hfree : ∀ y ∈ scope.names, y.2 ≠ .free := by decide) :
    XE X G (.Lambda params body scope pos) (dLam P q params body scope) := by
  refine ⟨_, pe_lamV TB hcode hq hdef hfree, fun F H σ δ μ Q' Q R ⟨hm, h⟩ k => ?_⟩
  obtain ⟨fP, ps, hP, ht, hc⟩ := R.m.mu P _ hm
  refine ⟨ps, hP, ht, fun cv e => ?_, fun e f c nf nc hne => ?_⟩
  · obtain ⟨c, e2, hF⟩ := hc pos cv e
    refine ⟨c, e2, R.m.sub _ _ hF, fun f nf => ?_⟩
    have s := same_upd (o := LamV f c q params body scope) (R.m.freeF nf)
    exact k _ _ μ _ _ s (R.to s (R.m.laid nf _)) (.lam upd_same (s _ _ hF)) h
  · have nPc : P ≠ c := ne_of_none hP nc
    have nPf : P ≠ f := ne_of_none hP nf
    have s1 := same_upd (o := LamX.CodeO c q) (R.m.freeF nc)
    have R1 := R.m.laid nc (LamX.CodeO c q)
    have eL : (ps ++ #[rawInt pos.line, rawInt pos.col, .ref c]).toList = ps.toList ++ [rawInt pos.line, rawInt pos.col, .ref c] := by simp
    have R2 := R1.put (p := P) (o := .tbl (ps ++ #[rawInt pos.line, rawInt pos.col, .ref c])) (m := .tbl q) (by rw [upd_ne nPc]; exact fP) ⟨_, upd_same, by rw [eL]; exact PySem.TriplesOk_snoc _ _ _ _ ht, fun p' cv hcv => by
      rw [eL] at hcv
      rcases LamX.among_app _ ht hcv with z | z
      · obtain ⟨c0, e1, e2⟩ := hc p' cv z
        exact ⟨c0, e1, s1 _ _ e2⟩
      · exact ⟨c, z, upd_same⟩⟩
    rw [updM_id hm] at R2
    have nf2 : (upd (upd H c (LamX.CodeO c q)) P (.tbl (ps ++ #[rawInt pos.line, rawInt pos.col, .ref c]))) f = none := by rw [upd_ne (Ne.symm nPf), upd_ne hne]; exact nf
    have R3 := R2.laid nf2 (LamV f c q params body scope)
    have s2 := same_upd (o := LamV f c q params body scope) (R2.freeF nf2)
    have eH : upd (upd H c (LamX.CodeO c q)) P (.tbl (ps ++ #[rawInt pos.line, rawInt pos.col, .ref c])) = upd (upd H P (.tbl (ps ++ #[rawInt pos.line, rawInt pos.col, .ref c]))) c (LamX.CodeO c q) := by
      funext b
      by_cases h1 : b = P
      · subst h1; rw [upd_same, upd_ne nPc, upd_same]
      · by_cases h2 : b = c
        · subst h2; rw [upd_ne h1, upd_same, upd_same]
        · rw [upd_ne h1, upd_ne h2, upd_ne h2, upd_ne h1]
    rw [eH] at R3
    exact k _ _ μ _ _ (s1.trans s2) (R.to (s1.trans s2) R3) (.lam upd_same (s2 _ _ upd_same)) h
end
/-! ### a lambda called -/
def LamD (P : Program) (w : World) (K : PySem.W.Frag) (mg : Str → Option Value) (base : Heap) (k : Nat) (q : Str) (params : Arguments) (body : Expr) (scope : Scope) (sp : SpD) : Prop :=
  ∀ (A : Around) (outer : List Env) (s : Shared) (H : Hp) (us : List Value) (vs : List V) (Q : VK) (E : XK) (f c : Addr), Room k A → Env0 P w K mg base A outer s H → Vals vs us → H f = some (LamV f c q params body scope) → H c = some (LamX.CodeO c q) → spV K sp vs H Q E →
    codeAny (model P w) A (.call (.ref f) ⟨us, []⟩) (CR (L2N.CX P w) outer P w H s Q E) s
section
variable {P : Program} {w : World} {K : PySem.W.Frag} {mg : Str → Option Value} {base : Heap} {j k : Nat} {q : Str} {params : Arguments} {body : Expr} {scope : Scope} {sp : SpD}
theorem LamD.mono (h : LamD P w K mg base j q params body scope sp) (hjk : j ≤ k) : LamD P w K mg base k q params body scope sp := fun A outer s H us vs Q E f c hr => h A outer s H us vs Q E f c (hr.mono hjk)
theorem lamD {N ps : List Str} (S : FnScope N ps scope) (hb : ∀ (pm cv ctv : Value) (us : List Value), us.length = ps.length → bindArgs (PySem.W.kla_fn "<lambda>" q params body scope [] pm cv ctv) ⟨us, []⟩ = pure (ps.zip us)) (hl : ∀ ds μ Q ξ, sp ds μ Q ξ → ds.length = ps.length)
    (hbody : ∀ (f : Addr) (cdv : Value) (A : Around) (outer : List Env) (s : Shared) (H : Hp) (E : XK) (Φ : Hp) (ξ : Addr → Mo → Prop) (ok : ∀ F H μ c, Same Φ F → RelM K F H μ → ξ c μ → E (.ref c) none H) (ds : List D) (μ : Mo) (Q : DK),
      Room k (A.deeper (envOfC q scope s.heap.objs.size f cdv)) → sp ds μ Q ξ → ∃ d, XE (cxD P w K mg base N q scope f cdv A outer s H E) ⟨Φ, E, ξ, ok⟩ body d ∧ d (startD N ds) μ (DropQ Q)) : LamD P w K mg base (k + 1) q params body scope sp := by
  intro A outer s H us vs Q E f c hr e0 r hf hc ⟨F0, μ, ds, Q', ξ, R, rr, h, kq, kx⟩
  have hlen : vs.length = ps.length := by rw [rr.length]; exact hl _ _ _ _ h
  have KX : K.In s.heap := e0.mod.kin.keeps fun b o e => (e0.bs b o e).1
  have lim : s.heap.NoLimit := e0.mod.nolimit.keeps fun b o e => (e0.bs b o e).1
  obtain ⟨⟨pm, ctv, of1⟩, _, _⟩ := e0.hok f _ hf
  obtain ⟨⟨oc, vs', t, hoc, hdc, hvc⟩, _, _⟩ := e0.hok c _ hc
  have kinds : ∀ y ∈ ps.zip us, scope.names.lookup y.1 = some .local ∨ (scope.names.lookup y.1 = some .cell ∧ ((cellsFrom (s.heap.objs.size + 1) scope.names []).lookup y.1).isSome = true) := fun ⟨n, v⟩ hy => by
    rcases S.par n (List.of_mem_zip hy).1 with z | z
    · exact .inl z
    · exact .inr ⟨z, PySem.W.cellsFrom_some _ _ _ (.inl z)⟩
  refine PySem.W.kla_callFunE hr.depth of1 rfl S.co S.gen rfl ⟨c, oc, vs', t, rfl, hoc, hdc, hvc⟩ ?_
  rw [hb pm (.ref c) ctv us (by rw [← r.length]; exact hlen)]
  refine wpAny_pure (wpAny_newFunctionEnv_cells S.kind kinds fun env he s1 x => ?_)
  subst he
  refine ⟨lim.keeps x.toInCall.keep, ?_⟩
  obtain ⟨d, ⟨tt, p, z⟩, hd⟩ := hbody f (.ref c) A outer s H E F0 ξ kx ds μ Q' (hr.deeper _) h
  have I : Inv (cxD P w K mg base N q scope f (.ref c) A outer s H E) [] (L2.start N vs) H s1 := inv_start S hr.hd e0 hlen r x
  have fin := p.run [] s1 (L2.start N vs) H _ I (z F0 H _ _ μ _ Q ⟨Same.refl _, R, relS_start rr⟩ hd fun F' H' μ' v y s2 R2 r2 ⟨μ3, l, qq⟩ => kq F' H' μ3 v y s2 (R2.m.drop l) r2 qq)
  refine PySem.W.kla_codeExpr (wpAny_mono fin (fun v s' hq => ?_) fun e s' hq => hq)
  obtain ⟨v', H', J, rv, qv⟩ := hq
  exact ⟨v', H', J.os, J.bare, J.base, J.hok, rv, qv⟩
end
/-! ### what may be called by a local name -/
def CalD (P : Program) (w : World) (K : PySem.W.Frag) (mg : Str → Option Value) (base : Heap) (k : Nat) : D → SpD → Prop
  | .ref f, sp => PySem.W.keepIn K (.ref f) = true ∧ FnD P w K mg base k f sp
  | .lam q params body scope, sp => LamD P w K mg base k q params body scope sp
  | _, _ => False
theorem run_cal {X : Cx} {pins : List (Addr × Obj)} {σ : L2.St} {F H : Hp} {μ : Mo} {s : Shared} {k : Nat} {u : Value} {v : V} {d : D} {sp : SpD} {us : List Value} {vs : List V} {Q : VK} {E : XK} (I : Inv X pins σ H s) (hr : Room k X.A) (R : RelM X.K F H μ) (rv : RelV v u) (rd : Rp X.K F v d)
    (hc : CalD X.prog X.w X.K X.mg X.base k d sp) (r : Vals vs us) (hx : PassesAt (L2N.CX X.prog X.w) X σ E) (h : spV X.K sp vs H Q E) : wpAny (model X.prog X.w) X.A (call u us) (EP X pins σ Q) X.xe s := by
  have fin : ∀ {f : Addr}, codeAny (model X.prog X.w) X.A (.call (.ref f) ⟨us, []⟩) (CR (L2N.CX X.prog X.w) X.stack X.prog X.w H s Q E) s → wpAny (model X.prog X.w) X.A (call (.ref f) us) (EP X pins σ Q) X.xe s := fun {f} hh => by
    refine wpAny_call (codeAny_mono hh fun r s' hq => ?_)
    cases r with
    | error e => exact hx pins H s e s' I hq
    | ok fl =>
      cases fl with
      | ret u => exact I.after hq
      | next => exact False.elim hq
      | brk => exact False.elim hq
      | cont => exact False.elim hq
  cases d with
  | ref f =>
    cases rd
    obtain rfl : u = Value.ref f := rv
    exact fin (hc.2 X.A X.stack s H us vs Q E hr I.env0 r h)
  | lam q params body scope =>
    cases rd with
    | lam h1 h2 =>
      cases rv
      exact fin (hc X.A X.stack s H us vs Q E _ _ hr I.env0 r (R.sub _ _ h1) (R.sub _ _ h2) h)
  | _ => exact hc.elim
end DL

/-! DL12: try: f(a, ..) / except C as e: suite; a local name called; a comprehension in the suite. -/
namespace DL
open PySem PySem.Spec PyProof.Rows L2
theorem RelS.setNone {K : PySem.W.Frag} {F : Hp} {σ : L2.St} {δ : Slots} (h : RelS K F σ δ) (i : Nat) : RelS K F (σ.set i none) (δ.set i none) := by
  refine ⟨by rw [List.length_set, List.length_set, h.len], fun j x e => ?_⟩
  by_cases hj : i = j
  · subst hj
    by_cases hl : i < δ.length
    · rw [List.getElem?_set_self hl] at e; cases e
    · rw [List.getElem?_eq_none (by simpa using hl)] at e; cases e
  · rw [List.getElem?_set_ne hj] at e ⊢
    exact h.at_ j x e
section
variable {X : Cx} {G : Gx X.K} {i ic k : Nat} {x n fx : Str} {CE : Addr} {suite : List Stmt} {b₀ : Stmt} {np pos pos' p p2 pe : Pos} {e1 : Expr} {es : List Expr} {da : DA}
/-- x(..), x a local name -/
def dCalL (P : Program) (w : World) (K : PySem.W.Frag) (mg : Str → Option Value) (base : Heap) (k ic : Nat) (ξ : Addr → Mo → Prop) (da : DA) : DE := fun δ μ Q => ∃ d sp, δ[ic]? = some (some d) ∧ CalD P w K mg base k d sp ∧ da δ μ fun xs μ1 => sp xs μ1 Q ξ
/-- the clause's ends -/
def clsD (i : Nat) (D : DEnds) : DEnds := ⟨fun δ μ => D.nx (δ.set i none) μ, D.rt, fun δ μ => D.bk (δ.set i none) μ, fun δ μ => D.ct (δ.set i none) μ⟩
def dTryC (P : Program) (w : World) (K : PySem.W.Frag) (mg : Str → Option Value) (base : Heap) (k ic i : Nat) (CE : Addr) (da : DA) (ds : Addr → Addr → DS) : DS := fun D δ μ => ∃ d sp, δ[ic]? = some (some d) ∧ CalD P w K mg base k d sp ∧ da δ μ fun xs μ1 =>
  sp xs μ1 (fun _ μ2 => D.nx δ μ2) fun C μ2 => PySem.W.exmOne K (.ref C) (.ref CE) = some true ∧ ∀ a, μ2 a = none → ds a C (clsD i D) (δ.set i (some (.ref a))) μ2
theorem xs_tryC {ds : Addr → Addr → DS} {ds' : Addr → Obj → Addr → List (Addr × Obj) → DS} (hr : Room k X.A) (hN : X.N.Nodup) (hm : X.mg x = some (.ref CE)) (hIC : X.N[ic]? = some fx) (ha : ∀ (pn : List (Addr × Obj)) (xe : Value → Shared → Prop) (E : XK) (Φ : Hp), XA (X.tr pn xe) ⟨Φ, E, fun _ _ => False, fun _ _ _ _ _ _ z => z.elim⟩ (e1 :: es) da)
    (hsu : ∀ (a : Addr) (oe : Obj) (C : Addr) (pn : List (Addr × Obj)), L2N.Zn (.ref C) none oe → (∃ vs, oe.data = .fields vs) → XSs (X.suite a ((a, oe) :: pn)) G.blk (b₀ :: suite) (ds' a oe C pn))
    (eds : ∀ a oe C pn, ds' a oe C pn = ds a C := by intros; first | rfl | (dsimp only [Cx.suite, Gx.blk]; done) | (dsimp only [Cx.suite, Gx.blk]; rfl))
    (hi : X.N[i]? = some n := by rfl) (hln : X.env.kindOf n = some .local := by rfl) (hs : X.stack = X.env :: X.outer := by rfl) (hf : X.env.frame = some X.env.locals := by rfl) (hg : Gl X x := by rfl) (hdb : (x == ("__debug__" : Str)) = false := by decide)
    (hv : Vis X.env.scope fx := by first | exact Or.inl rfl | exact Or.inr (Or.inl rfl) | exact Or.inr (Or.inr rfl)) (hdb2 : (fx == ("__debug__" : Str)) = false := by decide) (hcd2 : (fx == ("__classdict__" : Str)) = false := by decide)
    (he : starEach (e1 :: es) X.env = (false, eval e1 X.env) :: starEach es X.env := by rfl) (hpl : (backTo p2 (starEach es X.env)).any (·.1) = false := by rfl) (hsw : swapsWith (.Call (.Name fx p) (e1 :: es) [] p2) none pe.line X.env = pure false := by rfl)
    (tk : L2N.Takes X (fun cls d _ H => G.E cls d H) := by exact L2N.takes_of rfl rfl rfl rfl) :
    XS X G (.Try [.Expr (.Call (.Name fx p) (e1 :: es) [] p2) pe] [.ExceptHandler (some (.Name x np)) (some n) (b₀ :: suite) pos'] [] [] pos) (dTryC X.prog X.w X.K X.mg X.base k ic i CE da ds) := by
  refine ⟨_, L2N.ps_try_as (c := .ref CE) (Wout := fun cls d _ H => G.E cls d H)
    (tb := fun W D σ H => ∀ (pn : List (Addr × Obj)) (xe : Value → Shared → Prop) (pins : List (Addr × Obj)) (s : Shared), L2N.Takes (X.tr pn xe) W → Inv (X.tr pn xe) pins σ H s → wpAny (model X.prog X.w) X.A (execs [.Expr (.Call (.Name fx p) (e1 :: es) [] p2) pe] X.env) (SP (X.tr pn xe) pins D) xe s)
    (ts := fun a cls d D σ H => ∀ (oe : Obj) (pn pins : List (Addr × Obj)) (s : Shared), L2N.Zn cls d oe → (∃ vs, oe.data = .fields vs) → Inv (X.suite a ((a, oe) :: pn)) pins σ H s → wpAny (model X.prog X.w) (X.suite a ((a, oe) :: pn)).A (execs (b₀ :: suite) X.env) (SP (X.suite a ((a, oe) :: pn)) pins D) (fun _ _ => False) s)
    hs hf hN hi hln ⟨hg, hdb, .inl hm⟩ tk (fun W pn xe tk' _ => ⟨fun pins s σ H D I h => h pn xe pins s tk' I⟩) (fun a oe cls d pn hz hd => ⟨fun pins s σ H D I h => h oe pn pins s hz hd I⟩), ?_⟩
  intro F H σ δ μ D' D R h kE pn xe pins s tk' I
  obtain ⟨d, sp, e0, hcal, h⟩ := h
  obtain ⟨v, ev, rv⟩ := R.s.at_ ic _ e0
  have sky := L2N.passAt tk' σ
  obtain ⟨ta, pa, za⟩ := ha pn xe (WE (wAs X.K (.ref CE) i (fun a cls d D σ H => ∀ (oe : Obj) (pn pins : List (Addr × Obj)) (s : Shared), L2N.Zn cls d oe → (∃ vs, oe.data = .fields vs) → Inv (X.suite a ((a, oe) :: pn)) pins σ H s → wpAny (model X.prog X.w) (X.suite a ((a, oe) :: pn)).A (execs (b₀ :: suite) X.env) (SP (X.suite a ((a, oe) :: pn)) pins D) (fun _ _ => False) s) (fun cls d _ H => G.E cls d H) D) σ) G.Φ
  -- the call
  have args : ta σ H (fun vs H2 => ∃ F2 μ2 xs, Same F F2 ∧ Rel X.K G F2 H2 σ δ μ2 ∧ RpL X.K F2 vs xs ∧ sp xs μ2 (fun _ μ2 => D'.nx δ μ2) fun C μ2 => PySem.W.exmOne X.K (.ref C) (.ref CE) = some true ∧ ∀ a, μ2 a = none → ds a C (clsD i D') (δ.set i (some (.ref a))) μ2) :=
    za F H σ δ μ _ _ ⟨R.fl, R.m, R.s⟩ h fun F2 H2 μ2 vs xs s2 R2 r2 q2 => ⟨F2, μ2, xs, s2, ⟨R2.fl, R2.m, R2.s⟩, r2, q2⟩
  have last : ∀ {u : Value} {us : List Value} {s2 : Shared} {vs : List V} {H2 : Hp}, RelV v u → Inv (X.tr pn xe) pins σ H2 s2 → Vals vs us → (∃ F2 μ2 xs, Same F F2 ∧ Rel X.K G F2 H2 σ δ μ2 ∧ RpL X.K F2 vs xs ∧ sp xs μ2 (fun _ μ2 => D'.nx δ μ2) fun C μ2 => PySem.W.exmOne X.K (.ref C) (.ref CE) = some true ∧ ∀ a, μ2 a = none → ds a C (clsD i D') (δ.set i (some (.ref a))) μ2) →
      wpAny (model X.prog X.w) X.A (call u us) (EP (X.tr pn xe) pins σ fun _ H' => D.nx σ H') xe s2 := by
    rintro u us s2 vs H2 ru I2 r2 ⟨F2, μ2, xs, s12, R2, rp2, h2⟩
    refine run_cal (X := X.tr pn xe) I2 hr R2.m ru (rv.mono s12) hcal r2 sky ⟨F2, μ2, xs, _, _, R2.m, rp2, h2, fun F' H' μ' v x s3 R3 r3 q3 => kE.nx F' H' σ δ μ' (s12.trans s3) (R2.to s3 R3) q3, fun F' H' μ' C s3 R3 ⟨hmm, hq⟩ => ⟨true, hmm, fun _ a na => ?_, fun z => by cases z⟩⟩
    intro oe pn' pins' s' hz hd Is
    have hs' := hsu a oe C pn' hz hd
    rw [eds] at hs'
    obtain ⟨t, pt, z⟩ := hs'
    have s13 := s12.trans s3
    refine pt.run pins' s' _ H' _ Is (z F' H' _ _ μ' (clsD i D') _ ⟨R.fl.trans s13, R3, (R.s.mono s13).set i .ref⟩ (hq a (R3.freeM na)) ⟨?_, ?_, ?_, ?_⟩)
    · exact fun F4 H4 σ4 δ4 μ4 s4 R4 q4 => kE.nx F4 H4 _ _ μ4 (s13.trans s4) ⟨R4.fl, R4.m, R4.s.setNone i⟩ q4
    · exact fun F4 H4 μ4 v x s4 R4 r4 q4 => kE.rt F4 H4 μ4 v x (s13.trans s4) R4 r4 q4
    · exact fun F4 H4 σ4 δ4 μ4 s4 R4 q4 => kE.bk F4 H4 _ _ μ4 (s13.trans s4) ⟨R4.fl, R4.m, R4.s.setNone i⟩ q4
    · exact fun F4 H4 σ4 δ4 μ4 s4 R4 q4 => kE.ct F4 H4 _ _ μ4 (s13.trans s4) ⟨R4.fl, R4.m, R4.s.setNone i⟩ q4
  have call_ : wpAny (model X.prog X.w) X.A (eval (.Call (.Name fx p) (e1 :: es) [] p2) X.env) (EP (X.tr pn xe) pins σ fun _ H' => D.nx σ H') xe s := by
    refine wpAny_Call_Name_kw (thn ((pe_var (X := X.tr pn xe) (pos := p) (i := ic) hIC hv hdb2 hcd2).run pins s σ H (fun u H1 => u = v ∧ H1 = H) I ⟨v, ev, rfl, rfl⟩) fun u s1 hh => ?_)
    obtain ⟨v1, H1, I1, r1, q1, q1'⟩ := hh
    subst q1 q1'
    cases d with
    | ref f =>
      cases rv
      obtain rfl : u = Value.ref f := r1
      refine PySem.W.callWith_K (h₀ := X.base) I.ok.mod.kin hcal.1 (thn (pa.run p2 pins s1 σ _ _ I1 args) fun us s2 ⟨vs, H2, I2, r2, q2⟩ => ⟨I2.kIn, last rfl I2 r2 q2⟩) he hpl
    | lam q ps bd sc =>
      cases rv with
      | lam g1 g2 =>
        rename_i f c
        obtain rfl : u = Value.ref f := r1
        have fn : ∀ {F2 H2 : Hp} {s2 : Shared}, Same F F2 → Same F2 H2 → HOk X.prog X.w H2 s2.heap → PySem.W.FnAt f s2.heap := fun {F2 H2 s2} s a hk => by
          obtain ⟨⟨pm, ctv, e⟩, _, _⟩ := hk f _ (a _ _ (s _ _ g1))
          exact ⟨_, _, _, _, e⟩
        refine PySem.W.callWith_F (fn (Same.refl _) R.m.sub I1.hok) (thn (pa.run p2 pins s1 σ _ _ I1 args) fun us s2 ⟨vs, H2, I2, r2, q2⟩ => ⟨?_, last rfl I2 r2 q2⟩) he hpl
        obtain ⟨F2, μ2, xs, s12, R2, _⟩ := q2
        exact fn s12 R2.m.sub I2.hok
    | _ => exact hcal.elim
  have ex : wpAny (model X.prog X.w) X.A (exec (.Expr (.Call (.Name fx p) (e1 :: es) [] p2) pe) X.env) (fun f s' => f = .next ∧ ∃ H1, Inv (X.tr pn xe) pins σ H1 s' ∧ D.nx σ H1) xe s := wpAny_Expr_any (thn call_ fun u s1 ⟨v1, H1, I1, r1, q1⟩ => ⟨rfl, H1, I1, q1⟩) I.quiet hsw
  refine wpAny_execs_cons (thn ex fun f s1 ⟨ef, H1, I1, q1⟩ => ?_)
  subst ef
  exact wpAny_execs_nil ⟨σ, H1, I1, q1⟩
theorem xe_callL (hr : Room k X.A) (hIC : X.N[ic]? = some fx) (ha : XA X G (e1 :: es) da) (hx : Passes (L2N.CX X.prog X.w) X G.E := by first | exact passD | exact passLN)
    (hv : Vis X.env.scope fx := by first | exact Or.inl rfl | exact Or.inr (Or.inl rfl) | exact Or.inr (Or.inr rfl)) (hdb2 : (fx == ("__debug__" : Str)) = false := by decide) (hcd2 : (fx == ("__classdict__" : Str)) = false := by decide)
    (he : starEach (e1 :: es) X.env = (false, eval e1 X.env) :: starEach es X.env := by rfl) (hpl : (backTo p2 (starEach es X.env)).any (·.1) = false := by rfl) :
    XE X G (.Call (.Name fx p) (e1 :: es) [] p2) (dCalL X.prog X.w X.K X.mg X.base k ic G.ξ da) := by
  refine ⟨fun σ H Q => ∀ (pins : List (Addr × Obj)) (s : Shared), Inv X pins σ H s → wpAny (model X.prog X.w) X.A (eval (.Call (.Name fx p) (e1 :: es) [] p2) X.env) (EP X pins σ Q) X.xe s, ⟨fun pins s σ H Q I h => h pins s I⟩, ?_⟩
  intro F H σ δ μ Q' Q R ⟨d, sp, e0, hcal, h⟩ kE pins s I
  obtain ⟨v, ev, rv⟩ := R.s.at_ ic _ e0
  obtain ⟨ta, pa, za⟩ := ha
  have args : ta σ H (fun vs H2 => ∃ F2 μ2 xs, Same F F2 ∧ Rel X.K G F2 H2 σ δ μ2 ∧ RpL X.K F2 vs xs ∧ sp xs μ2 Q' G.ξ) := za F H σ δ μ _ _ R h fun F2 H2 μ2 vs xs s2 R2 r2 q2 => ⟨F2, μ2, xs, s2, R2, r2, q2⟩
  have last : ∀ {u : Value} {us : List Value} {s2 : Shared} {vs : List V} {H2 : Hp}, RelV v u → Inv X pins σ H2 s2 → Vals vs us → (∃ F2 μ2 xs, Same F F2 ∧ Rel X.K G F2 H2 σ δ μ2 ∧ RpL X.K F2 vs xs ∧ sp xs μ2 Q' G.ξ) → wpAny (model X.prog X.w) X.A (call u us) (EP X pins σ Q) X.xe s2 := by
    rintro u us s2 vs H2 ru I2 r2 ⟨F2, μ2, xs, s12, R2, rp2, h2⟩
    exact run_cal I2 hr R2.m ru (rv.mono s12) hcal r2 (fun pins H s e s' I c => hx pins σ H s e s' I c) ⟨F2, μ2, xs, _, _, R2.m, rp2, h2, fun F' H' μ' v x s3 R3 r3 q3 => kE F' H' μ' v x (s12.trans s3) (R2.to s3 R3) r3 q3, fun F' H' μ' C s3 R3 q3 => G.ok F' H' μ' C (R2.fl.trans s3) R3 q3⟩
  refine wpAny_Call_Name_kw (thn ((pe_var (pos := p) (i := ic) hIC hv hdb2 hcd2).run pins s σ H (fun u H1 => u = v ∧ H1 = H) I ⟨v, ev, rfl, rfl⟩) fun u s1 hh => ?_)
  obtain ⟨v1, H1, I1, r1, q1, q1'⟩ := hh
  subst q1 q1'
  cases d with
  | ref f =>
    cases rv
    obtain rfl : u = Value.ref f := r1
    exact PySem.W.callWith_K (h₀ := X.base) I.ok.mod.kin hcal.1 (thn (pa.run p2 pins s1 σ _ _ I1 args) fun us s2 ⟨vs, H2, I2, r2, q2⟩ => ⟨I2.kIn, last rfl I2 r2 q2⟩) he hpl
  | lam q ps bd sc =>
    cases rv with
    | lam g1 g2 =>
      rename_i f c
      obtain rfl : u = Value.ref f := r1
      have fn : ∀ {F2 H2 : Hp} {s2 : Shared}, Same F F2 → Same F2 H2 → HOk X.prog X.w H2 s2.heap → PySem.W.FnAt f s2.heap := fun {F2 H2 s2} s a hk => by
        obtain ⟨⟨pm, ctv, e⟩, _, _⟩ := hk f _ (a _ _ (s _ _ g1))
        exact ⟨_, _, _, _, e⟩
      refine PySem.W.callWith_F (fn (Same.refl _) R.m.sub I1.hok) (thn (pa.run p2 pins s1 σ _ _ I1 args) fun us s2 ⟨vs, H2, I2, r2, q2⟩ => ⟨?_, last rfl I2 r2 q2⟩) he hpl
      obtain ⟨F2, μ2, xs, s12, R2, _⟩ := q2
      exact fn s12 R2.m.sub I2.hok
  | _ => exact hcal.elim
end
/-! ### a comprehension while an exception is handled -/
section
variable {X : Cx} {G : Gx X.K} {pos : Pos} {scope : Scope}
theorem xg_tupN {es : List Expr} {k : Nat} {is : List Nat} {ds : DGs} {n : Nat} (hot : HotD.HotN X) (h : XGs X G es is ds) (hn : (assignEach es X.env).length = n := by rfl) (hst : (assignEach es X.env).findIdx? (·.1) = none := by rfl) : XG X G (.Tuple es k pos) is (dgTup n ds) := by
  obtain ⟨t, p, s⟩ := h
  refine ⟨_, HotD.pg_tupN hot p hn hst, fun F H σ δ μ v x Q' Q R r ⟨xs, e, hl, h⟩ k => ?_⟩
  subst e
  obtain ⟨a, vs, rfl, ha, ta, _⟩ := rpT R.m r
  exact ⟨a, vs, rfl, SqT.of ha, by rw [ta.length]; exact hl, s F H σ δ μ vs xs Q' Q R ta h k⟩
def diLst (de : DE) : DI := fun δ μ R => de δ μ fun x μ1 => ∃ ds, x = .lst ds ∧ R ds μ1
theorem sim_iLst {tl : TE} {de : DE} (s : SimE X.K G tl de) : SimI X.K G (HotD.iLst X.K tl) (diLst de) := fun F H σ δ μ R' R I h k => s F H σ δ μ _ _ I h fun F1 H1 μ1 v x s1 R1 r1 ⟨ds, e, h1⟩ => by
  subst e
  obtain ⟨a, vs, rfl, h2, h3, h4⟩ := rpLst R1.m r1
  exact ⟨a, vs, rfl, SqL.of h2, k F1 H1 μ1 _ ds s1 R1 (iters_lst (SqL.of h4) h3) h1⟩
theorem blkGN {tg : Expr} {is : List Nat} {d : DG} (h : ∀ (s : Shared) (H : Hp) (C : Addr) (cl : List (Str × Addr)) (fp : List Addr), HotD.HotN (BX X scope s H C cl fp) → XG (BX X scope s H C cl fp) G.blk tg is d) :
    ∃ te, (∀ (s : Shared) (H : Hp) (C : Addr) (cl : List (Str × Addr)) (fp : List Addr), HotD.HotN (BX X scope s H C cl fp) → PG (BX X scope s H C cl fp) tg te) ∧ SimG X.K G.blk is te d := by
  refine ⟨fun v σ H Q => ∀ (s0 : Shared) (H0 : Hp) (C : Addr) (cl : List (Str × Addr)) (fp : List Addr) (pins : List (Addr × Obj)) (s : Shared) (u : Value), HotD.HotN (BX X scope s0 H0 C cl fp) → Inv (BX X scope s0 H0 C cl fp) pins σ H s → RelV v u →
    wpAny (model X.prog X.w) X.A (assign tg (compEnvC scope cl C X.env) u) (fun _ s' => ∃ σ' H', Inv (BX X scope s0 H0 C cl fp) pins σ' H' s' ∧ Q σ' H') (BX X scope s0 H0 C cl fp).xe s,
    fun s0 H0 C cl fp hh => ⟨fun pins s σ H v u Q I r h => h s0 H0 C cl fp pins s u hh I r⟩, ?_⟩
  intro F H σ δ μ v x Q' Q R r q k s0 H0 C cl fp pins s u hh I ru
  obtain ⟨t, p, z⟩ := h s0 H0 C cl fp hh
  exact p.run pins s σ H v u Q I ru (z F H σ δ μ v x Q' Q R r q k)
theorem xe_lcN {elt tg l : Expr} {ifs : List Expr} (own : List (Str × Nat)) {de : DE} {g : DG} {dtt : DT} {dte : DE} {g' : Shared → Hp → Addr → List (Str × Addr) → List Addr → DG} {dtt' : Shared → Hp → Addr → List (Str × Addr) → List Addr → DT} {dte' : Shared → Hp → Addr → List (Str × Addr) → List Addr → DE} {is : List Nat} (hot : HotD.HotW X) (hN : X.N.Nodup) (ok : BlkOk X.N X.env.scope scope own) (hl : XE X G l de)
    (hg : ∀ (s : Shared) (H : Hp) (C : Addr) (cl : List (Str × Addr)) (fp : List Addr), HotD.HotN (BX X scope s H C cl fp) → XG (BX X scope s H C cl fp) G.blk tg is (g' s H C cl fp)) (ht : ∀ (s : Shared) (H : Hp) (C : Addr) (cl : List (Str × Addr)) (fp : List Addr), XTs (BX X scope s H C cl fp) G.blk ifs (dtt' s H C cl fp))
    (he : ∀ (s : Shared) (H : Hp) (C : Addr) (cl : List (Str × Addr)) (fp : List Addr), XE (BX X scope s H C cl fp) G.blk elt (dte' s H C cl fp))
    (eg : ∀ s H C cl fp, g' s H C cl fp = g := by intros; first | rfl | (dsimp only [Cx.blk, Gx.blk]; done) | (dsimp only [Cx.blk, Gx.blk]; rfl)) (et : ∀ s H C cl fp, dtt' s H C cl fp = dtt := by intros; first | rfl | (dsimp only [Cx.blk, Gx.blk]; done) | (dsimp only [Cx.blk, Gx.blk]; rfl)) (ee : ∀ s H C cl fp, dte' s H C cl fp = dte := by intros; first | rfl | (dsimp only [Cx.blk, Gx.blk]; done) | (dsimp only [Cx.blk, Gx.blk]; rfl))
    (hv : ∀ i ∈ is, i ∈ own.map (·.2) := by decide) (hs : ∀ x, foldedSetIterable l X.env x = pure x := by intro _; rfl) :
    XE X G (.ListComp elt [⟨tg, l, ifs, 0⟩] scope pos) (dLc (diLst de) g dtt dte (own.map (·.2))) := by
  obtain ⟨tl, pl, sl⟩ := hl
  obtain ⟨tg', pg, z⟩ := blkGN (G := G) (d := g) fun s H C cl fp hh => by rw [← eg s H C cl fp]; exact hg s H C cl fp hh
  obtain ⟨tt, pt, zt⟩ := blkT (G := G) (d := dtt) fun s H C cl fp => by rw [← et s H C cl fp]; exact ht s H C cl fp
  obtain ⟨te, pe, ze⟩ := blkE (G := G) (d := dte) fun s H C cl fp => by rw [← ee s H C cl fp]; exact he s H C cl fp
  exact ⟨_, HotD.pe_lcN hot hN pl ok pg pt pe hs, sim_lc hv (sim_iLst sl) z zt ze⟩
end
end DL

/-! DL13: the error classes' facts; the head's hook with tables of code objects; the law's end with tables. -/
namespace DL
open PySem PySem.Spec PyProof.Rows L2
/-! ### the error classes -/
def excN : List Str := ["InvalidRule", "InvalidAmount", "InvalidBasket", "InvalidSplitting", "InvalidNumber", "InvalidRecords", "TooMany", "NotEmpty", "NothingToUndo"]
def errB1 (K : PySem.W.Frag) (x : Str) : Bool := (He.Fa.exc x).ok K && (excCB K (He.ga K x) && ((He.Fa.exm x "CoinError" true).ok K && ((excN.all fun y => decide (PySem.W.kitOne K (.ref (He.ga K x)) (.ref (He.ga K y)) = some (decide (x = y)))) && decide (PySem.W.kitOne K (.ref (He.ga K x)) (.type "ValueError") = some true))))
def errB (K : PySem.W.Frag) : Bool := excN.all (errB1 K)
structure ErrT (K : PySem.W.Frag) : Prop where
  exc : ∀ {x : Str}, x ∈ excN → ExcT K (He.ga K x)
  isE : ∀ {x : Str}, x ∈ excN → ExcC K (He.ga K x)
  coin : ∀ {x : Str}, x ∈ excN → PySem.W.exmOne K (.ref (He.ga K x)) (.ref (He.ga K "CoinError")) = some true
  kit : ∀ {x y : Str}, x ∈ excN → y ∈ excN → PySem.W.kitOne K (.ref (He.ga K x)) (.ref (He.ga K y)) = some (decide (x = y))
  ve : ∀ {x : Str}, x ∈ excN → PySem.W.kitOne K (.ref (He.ga K x)) (.type "ValueError") = some true
theorem errB_ok {K : PySem.W.Frag} (h : errB K = true) : ErrT K := by
  have key : ∀ {x : Str}, x ∈ excN → errB1 K x = true := fun {x} hx => List.all_eq_true.mp h x hx
  refine ⟨fun hx => ?_, fun hx => ?_, fun hx => ?_, fun {x y} hx hy => ?_, fun hx => ?_⟩
  · exact ExcT.of (He.ba (key hx)).1
  · exact excC_ok (He.ba (He.ba (key hx)).2).1
  · exact He.exm_ok (He.ba (He.ba (He.ba (key hx)).2).2).1
  · exact of_decide_eq_true (List.all_eq_true.mp (He.ba (He.ba (He.ba (He.ba (key hx)).2).2).2).1 y hy)
  · exact of_decide_eq_true (He.ba (He.ba (He.ba (He.ba (key hx)).2).2).2).2
/-! ### the hook with tables -/
/-- a def that makes lambdas, with its lambdas' name -/
structure Mkr where
  at_ : PySem.W.Frag → Addr
  q : Str
abbrev tabA (K : PySem.W.Frag) (a : Addr) : Addr := He.tabOf K (codeA K a)
abbrev cTA (K : PySem.W.Frag) (a : Addr) : Addr × Addr := (codeA K a, tabA K a)
def tabsT (g : Addr → Option Obj) (tf : List Mkr) (K : PySem.W.Frag) : Bool := (tf.all fun m => PySem.W.codeHdIn K (cTA K (m.at_ K)).1 (cTA K (m.at_ K)).2 && (match g (cTA K (m.at_ K)).2 with
  | some o => He.emptyTab o
  | none => false)) && decide ((tf.map fun m => (cTA K (m.at_ K)).2).Nodup)
structure SaysT (fn : List He5.DefA) (ex : PySem.W.Frag → Bool) (tf : List Mkr) (h : Heap) (K : PySem.W.Frag) : Prop where
  b : SaysB fn ex K
  hd : ∀ m ∈ tf, PySem.W.codeHdIn K (cTA K (m.at_ K)).1 (cTA K (m.at_ K)).2 = true
  out : ∀ m ∈ tf, K.lookup (cTA K (m.at_ K)).2 = none
  empty : ∀ m ∈ tf, h.get? (cTA K (m.at_ K)).2 = some { cls := .none, data := .fields #[] }
  nd : (tf.map fun m => (cTA K (m.at_ K)).2).Nodup
abbrev AlT : Type := AlB × Bool
def obsT (n : Nat) (fn : List He5.DefA) (ex : PySem.W.Frag → Bool) (tf : List Mkr) (g : Addr → Option Obj) : AlT := (obsB fn ex (He.frT g (He5.asA g n)), tabsT g tf (He.frT g (He5.asA g n)))
theorem saysT_of {n : Nat} {fn : List He5.DefA} {ex : PySem.W.Frag → Bool} {tf : List Mkr} {h : Heap} (e : obsT n fn ex tf h.get? = (valB fn, true)) : SaysT fn ex tf h (He.frT h.get? (He5.asA h.get? n)) := by
  have e1 : obsB fn ex (He.frT h.get? (He5.asA h.get? n)) = valB fn := congrArg Prod.fst e
  have e2 : tabsT h.get? tf (He.frT h.get? (He5.asA h.get? n)) = true := congrArg Prod.snd e
  obtain ⟨h1, h2⟩ := He.ba e2
  have key : ∀ m ∈ tf, PySem.W.codeHdIn (He.frT h.get? (He5.asA h.get? n)) (cTA (He.frT h.get? (He5.asA h.get? n)) (m.at_ (He.frT h.get? (He5.asA h.get? n)))).1 (cTA (He.frT h.get? (He5.asA h.get? n)) (m.at_ (He.frT h.get? (He5.asA h.get? n)))).2 = true ∧ ∃ o, h.get? (cTA (He.frT h.get? (He5.asA h.get? n)) (m.at_ (He.frT h.get? (He5.asA h.get? n)))).2 = some o ∧ He.emptyTab o = true := fun m hm => by
    obtain ⟨h3, h4⟩ := He.ba (List.all_eq_true.mp h1 m hm)
    refine ⟨h3, ?_⟩
    cases q : h.get? (cTA (He.frT h.get? (He5.asA h.get? n)) (m.at_ (He.frT h.get? (He5.asA h.get? n)))).2 with
    | none => rw [q] at h4; cases h4
    | some o => rw [q] at h4; exact ⟨o, rfl, h4⟩
  refine ⟨e1, fun m hm => (key m hm).1, fun m hm => ?_, fun m hm => ?_, of_decide_eq_true h2⟩
  · obtain ⟨_, o, q, z⟩ := key m hm
    exact He.frT_none q z
  · obtain ⟨_, o, q, z⟩ := key m hm
    rw [q, He.emptyTab_eq z]
def hookT (n : Nat) (fn : List He5.DefA) (ex : PySem.W.Frag → Bool) (tf : List Mkr) : PySem.W.Hook where
  α := AlT
  obs := fun s => obsT n fn ex tf s.heap.get?
  val := fun _ => (valB fn, true)
  says := fun _ h => ∃ K : PySem.W.Frag, K.In h ∧ SaysT fn ex tf h K
  of := fun _ _ e => ⟨_, He.frT_in, saysT_of e⟩
  keeps := fun _ _ _ ⟨K, hK, c⟩ k => ⟨K, PySem.W.Frag.In.keeps hK k, ⟨c.b, c.hd, c.out, fun m hm => k _ _ (c.empty m hm), c.nd⟩⟩
theorem obsT_eq {n : Nat} {fn : List He5.DefA} {ex : PySem.W.Frag → Bool} {tf : List Mkr} {g : Addr → Option Obj} {s : Shared} (h : ∀ a, g a = s.heap.get? a) : obsT n fn ex tf g = (hookT n fn ex tf).obs s := by
  have e : g = s.heap.get? := funext h
  rw [e] <;> rfl
/-! ### the law's end with tables -/
def tblM (K : PySem.W.Frag) (tf : List Mkr) : Mo := fun a => (tf.find? fun m => decide ((cTA K (m.at_ K)).2 = a)).map fun m => .tbl m.q
def spLawT (K : PySem.W.Frag) (tf : List Mkr) (n : Nat) : SpD := fun ds μ Q _ => ∃ ns : List Int, ds = [.fro (ns.map .int)] ∧ ns.length ≤ n ∧ (∀ z ∈ ns, Builtin.Int.intBits z ≤ 1048576) ∧ (∀ m ∈ tf, μ (cTA K (m.at_ K)).2 = some (.tbl m.q)) ∧ ∀ μ', Q (.bl true) μ'
theorem tblM_mem {K : PySem.W.Frag} : ∀ {tf : List Mkr}, (tf.map fun m => (cTA K (m.at_ K)).2).Nodup → ∀ m ∈ tf, tblM K tf (cTA K (m.at_ K)).2 = some (.tbl m.q)
  | [], _, _, h => by cases h
  | x :: tf, nd, m, hm => by
    obtain ⟨n1, n2⟩ := List.nodup_cons.mp nd
    unfold tblM
    rcases List.mem_cons.mp hm with e | hm
    · subst e
      rw [List.find?_cons_of_pos (by simp)] <;> rfl
    · have hne : (cTA K (x.at_ K)).2 ≠ (cTA K (m.at_ K)).2 := fun e => n1 (List.mem_map.mpr ⟨m, hm, e.symm⟩)
      rw [List.find?_cons_of_neg (by simpa using hne)]
      exact tblM_mem n2 m hm
theorem tblM_of {K : PySem.W.Frag} {tf : List Mkr} {a : Addr} {x : Mu} (h : tblM K tf a = some x) : ∃ m ∈ tf, (cTA K (m.at_ K)).2 = a ∧ x = .tbl m.q := by
  unfold tblM at h
  cases e : tf.find? fun m => decide ((cTA K (m.at_ K)).2 = a) with
  | none => rw [e] at h; cases h
  | some m =>
    rw [e] at h
    cases h
    exact ⟨m, List.mem_of_find?_eq_some e, by simpa using List.find?_some e, rfl⟩
theorem law_spT {K : PySem.W.Frag} {tf : List Mkr} {n : Nat} (H : Hp) (a : Addr) (ns : List Int) (hl : ns.length ≤ n) (hb : ∀ z ∈ ns, Builtin.Int.intBits z ≤ 1048576) (nd : (tf.map fun m => (cTA K (m.at_ K)).2).Nodup) (hT : ∀ m ∈ tf, H (cTA K (m.at_ K)).2 = some (.tbl #[])) (hS : SqL K H a (ns.map V.int)) :
    spV K (spLawT K tf n) [.ref a] H (fun v _ => v = .bl true) fun _ _ _ => False := by
  have hS2 : SqL K (fun b => if (tf.any fun m => decide ((cTA K (m.at_ K)).2 = b)) = true then none else H b) a (ns.map V.int) := by
    rcases hS with h | h
    · refine .inl ?_
      have nt : (tf.any fun m => decide ((cTA K (m.at_ K)).2 = a)) = false := by
        cases q : tf.any fun m => decide ((cTA K (m.at_ K)).2 = a) with
        | false => rfl
        | true =>
          obtain ⟨m, hm, e⟩ := List.any_eq_true.mp q
          have e := of_decide_eq_true e
          have z := hT m hm
          rw [e] at z
          rcases h with h | ⟨o, h⟩
          · rw [z] at h; cases h
          · rw [z] at h; cases h
      rcases h with h | ⟨o, h⟩
      · exact .inl (by show (if _ then _ else _) = _; rw [nt]; exact h)
      · exact .inr ⟨o, by show (if _ then _ else _) = _; rw [nt]; exact h⟩
    · exact .inr h
  refine ⟨fun b => if (tf.any fun m => decide ((cTA K (m.at_ K)).2 = b)) = true then none else H b, tblM K tf, _, fun x _ => x = .bl true, fun _ _ => False, ⟨fun b o e => ?_, fun b x e => ?_⟩, .cons (.fro hS2 .ofInts) .nil, ⟨ns, rfl, hl, hb, tblM_mem nd, fun _ => rfl⟩, fun F' H' μ' v x _ _ r e => by
    subst e
    cases r
    rfl, fun _ _ _ _ _ _ z => z⟩
  · have e : (if (tf.any fun m => decide ((cTA K (m.at_ K)).2 = b)) = true then none else H b) = some o := e
    split at e
    · cases e
    · exact e
  · obtain ⟨m, hm, e1, e2⟩ := tblM_of e
    subst e2
    have hy : (tf.any fun m => decide ((cTA K (m.at_ K)).2 = b)) = true := List.any_eq_true.mpr ⟨m, hm, decide_eq_true e1⟩
    refine ⟨by show (if _ then _ else _) = _; rw [if_pos hy], #[], by rw [← e1]; exact hT m hm, True.intro, fun pos cv hc => ?_⟩
    have z : codeAmong pos [] = some cv := hc
    simp [codeAmong] at z
theorem law_endT {l : PySem.W.OpenLaw} {n k : Nat} {q : Program} {loose : List Str} {XP : (Str → Option Value) → Heap → Prop} {YP : World → Heap → Prop} {d : DefRec} {tf : List Mkr}
    (hn : l.most = some n) (hn2 : n ≤ sizeLine) (hdf : d.params.defaults = []) (hr : Room k callerA)
    (F : ∀ (w : World) (mg : Str → Option Value) (fa : Addr) (h : Heap), YP w h → h.Ns mainGlobals mg → mg d.name = some (.ref fa) →
      ∃ (K : PySem.W.Frag) (fd : FuncData), K.In h ∧ (∀ (s : Shared) (u : Value), BindsTo s fd ⟨[u], []⟩ [("script", u)]) ∧ (∀ m ∈ tf, PySem.W.codeHdIn K (cTA K (m.at_ K)).1 (cTA K (m.at_ K)).2 = true) ∧ (∀ m ∈ tf, K.lookup (cTA K (m.at_ K)).2 = none) ∧
        (∀ m ∈ tf, h.get? (cTA K (m.at_ K)).2 = some { cls := .none, data := .fields #[] }) ∧ (tf.map fun m => (cTA K (m.at_ K)).2).Nodup ∧
        ∀ base : Heap, K.In base → base.Ns mainGlobals mg → (∀ m ∈ tf, LamX.TabB base mg (cTA K (m.at_ K)).1 (cTA K (m.at_ K)).2) → FnOk l.prog w K mg base (L2N.CX l.prog w) k fa fd ["script"] (spV K (spLawT K tf n)))
    : PySem.W.WalkO q loose XP YP l.row.toRowW d [] (fun f vs => PySem.call f vs) := by
  refine Att.attach_callB hn hdf fun w s₀ s₁ mg mb fa o pm cd doc a vs ns G Y ho hd hcd hmg hobj hints hlen hbits hg => ?_
  obtain ⟨K, fd, KX, hb, hh, ho', he, nd, hF⟩ := F w mg fa _ Y G.T.g hmg
  have mem : ∀ p ∈ tf.map (fun m => cTA K (m.at_ K)), ∃ m ∈ tf, cTA K (m.at_ K) = p := fun p hp => List.mem_map.mp hp
  refine LamX.law_callTs (cs := tf.map fun m => cTA K (m.at_ K)) KX G.T.g G.T.b G.T.builtins G.T.nolimit hg (fun p hp => ?_) (fun p hp => ?_) (fun p hp => ?_) G.T.bmain hobj hints (Nat.le_trans hlen hn2) hr (fun base hK hN hT => hF base hK hN fun m hm => hT _ (List.mem_map.mpr ⟨m, hm, rfl⟩)) hb (fun H hH hS => law_spT H a ns hlen hbits nd (fun m hm => hH _ (List.mem_map.mpr ⟨m, hm, rfl⟩)) hS) fun H e s' ⟨_, _, _, _, _, _, _, _, _, _, _, _, z⟩ => z
  · obtain ⟨m, hm, rfl⟩ := mem p hp; exact he m hm
  · obtain ⟨m, hm, rfl⟩ := mem p hp; exact ho' m hm
  · obtain ⟨m, hm, rfl⟩ := mem p hp; exact PySem.W.codeHd_of_K KX (hh m hm)
end DL

/-! DL14: the simplifier's lemmas for the suite. -/
namespace DL
open PySem PySem.Spec PyProof.Rows L2
theorem cxD_prog {P : Program} {w : World} {K : PySem.W.Frag} {mg : Str → Option Value} {base : Heap} {N : List Str} {qual : Str} {scope : Scope} {f : Addr} {cd : Value} {A : Around} {outer : List Env} {s : Shared} {H : Hp} {E : XK} : (cxD P w K mg base N qual scope f cd A outer s H E).prog = P := rfl
theorem cxD_w {P : Program} {w : World} {K : PySem.W.Frag} {mg : Str → Option Value} {base : Heap} {N : List Str} {qual : Str} {scope : Scope} {f : Addr} {cd : Value} {A : Around} {outer : List Env} {s : Shared} {H : Hp} {E : XK} : (cxD P w K mg base N qual scope f cd A outer s H E).w = w := rfl
theorem cxD_mg {P : Program} {w : World} {K : PySem.W.Frag} {mg : Str → Option Value} {base : Heap} {N : List Str} {qual : Str} {scope : Scope} {f : Addr} {cd : Value} {A : Around} {outer : List Env} {s : Shared} {H : Hp} {E : XK} : (cxD P w K mg base N qual scope f cd A outer s H E).mg = mg := rfl
theorem cxD_base {P : Program} {w : World} {K : PySem.W.Frag} {mg : Str → Option Value} {base : Heap} {N : List Str} {qual : Str} {scope : Scope} {f : Addr} {cd : Value} {A : Around} {outer : List Env} {s : Shared} {H : Hp} {E : XK} : (cxD P w K mg base N qual scope f cd A outer s H E).base = base := rfl
theorem cxD_qual {P : Program} {w : World} {K : PySem.W.Frag} {mg : Str → Option Value} {base : Heap} {N : List Str} {qual : Str} {scope : Scope} {f : Addr} {cd : Value} {A : Around} {outer : List Env} {s : Shared} {H : Hp} {E : XK} : (cxD P w K mg base N qual scope f cd A outer s H E).env.qual = qual ++ ".<locals>." := rfl
theorem fNe_exc {x : Str} {μ : Mo} {Q : DK} (hx : PyData.canLay0 (.str x) = true) (q : Q (.bl false) μ) : fNe (.lst [.str x, .bl true]) (.lst [.str x, .bl true]) μ Q := by
  have sh : SeqAt.shaped (.list [.str x, .bool true]) = true := by
    show (PyData.canLay0 (.list [.str x, .bool true]) && decide (PyData.depth (.list [.str x, .bool true]) ≤ 64)) = true
    simp only [PyData.canLay0, PyData.canLayAll0, PyData.depth, PyData.depthAll] at hx ⊢
    rw [hx] <;> rfl
  refine ⟨_, _, rfl, rfl, sh, sh, ?_⟩
  have e : PyData.eqv (.list [.str x, .bool true]) (.list [.str x, .bool true]) = true := by simp [PyData.eqv, PyData.eqvAll]
  rw [e]
  exact q
/-- a statement, then what holds behind it -/
def dCut (d : DS) : DS := fun D δ μ => ∃ W : Slots → Mo → Prop, d { D with nx := W } δ μ ∧ ∀ δ μ, W δ μ → D.nx δ μ
theorem xs_cut {X : Cx} {G : Gx X.K} {st : Stmt} {d : DS} (h : XS X G st d) : XS X G st (dCut d) := by
  obtain ⟨t, p, s⟩ := h
  exact ⟨t, p, fun F H σ δ μ D' D R ⟨W, h1, h2⟩ k => s F H σ δ μ { D' with nx := W } D R h1 ⟨fun F1 H1 σ1 δ1 μ1 s1 R1 q => k.nx F1 H1 σ1 δ1 μ1 s1 R1 (h2 δ1 μ1 q), k.rt, k.bk, k.ct⟩⟩
theorem cut_in {d : DS} {De : DEnds} {δ : Slots} {μ : Mo} (W : Slots → Mo → Prop) (h : d { De with nx := W } δ μ) (h2 : ∀ δ μ, W δ μ → De.nx δ μ) : dCut d De δ μ := ⟨W, h, h2⟩
theorem fNe_nn {μ : Mo} {Q : DK} : fNe .non .non μ Q ↔ Q (.bl false) μ := by
  constructor
  · rintro ⟨p, q, e1, e2, _, _, h⟩
    cases e1; cases e2
    exact h
  · exact fun h => ⟨_, _, rfl, rfl, rfl, rfl, h⟩
theorem cutD_last {xs : List D} : cutD xs none (some (-1)) = xs.dropLast := by
  unfold cutD HT.sIx
  simp only [List.drop_zero, Nat.sub_zero]
  rw [if_pos (by decide), List.dropLast_eq_take]
  congr 1
  omega
theorem atI_map {α β : Type} {f : α → β} {l : List α} {i : Int} {x : α} (h : atI l i = some x) : atI (l.map f) i = some (f x) := by
  unfold atI at h ⊢
  rw [List.length_map]
  cases e : ixN l.length i with
  | none => rw [e] at h; cases h
  | some j =>
    rw [e] at h
    show (l.map f)[j]? = _
    rw [List.getElem?_map, show l[j]? = some x from h] <;> rfl
theorem calLam {P : Program} {w : World} {K : PySem.W.Frag} {mg : Str → Option Value} {base : Heap} {k : Nat} {q : Str} {ps : Arguments} {body : Expr} {sc : Scope} {sp : SpD} (h : LamD P w K mg base k q ps body sc sp) : CalD P w K mg base k (.lam q ps body sc) sp := h
theorem calDef {P : Program} {w : World} {K : PySem.W.Frag} {mg : Str → Option Value} {base : Heap} {k : Nat} {f : Addr} {sp : SpD} (hk : PySem.W.keepIn K (.ref f) = true) (h : FnD P w K mg base k f sp) : CalD P w K mg base k (.ref f) sp := ⟨hk, h⟩
theorem atI_mem {α : Type} {xs : List α} {i : Int} {x : α} (h : atI xs i = some x) : x ∈ xs := by
  unfold atI at h
  cases e : ixN xs.length i with
  | none => rw [e] at h; cases h
  | some j => rw [e] at h; exact List.mem_of_getElem? h
section
variable {K : PySem.W.Frag} {x y : Str} {a : Addr} {μ : Mo} {Q : DK}
theorem isE_own (T : ErrT K) (hx : x ∈ excN) (hy : y ∈ excN) : fIsE K (He.ga K x) a [.ref a, .ref (He.ga K y)] μ Q ↔ Q (.bl (decide (x = y))) μ := by
  constructor
  · rintro ⟨c, u, b, e, hc, _, hk, q⟩
    cases e
    cases hc
    rw [T.kit hx hy] at hk
    cases hk
    exact q
  · exact fun q => ⟨_, _, _, rfl, .own, T.isE hx, T.kit hx hy, q⟩
theorem isE_ve (T : ErrT K) (hx : x ∈ excN) : fIsE K (He.ga K x) a [.ref a, .ty "ValueError"] μ Q ↔ Q (.bl true) μ := by
  constructor
  · rintro ⟨c, u, b, e, hc, _, hk, q⟩
    cases e
    cases hc
    rw [T.ve hx] at hk
    cases hk
    exact q
  · exact fun q => ⟨_, _, _, rfl, .ty, T.isE hx, T.ve hx, q⟩
end
end DL

/-! DL15: repr of a bool, enumerate, zip. -/
namespace DL
open PySem PySem.Spec PyProof.Rows L2
section
variable {X : Cx} {G : Gx X.K} {pos p tpos : Pos}
theorem call_repr_bl : CallR X (.builtin "repr") (fun xs H Q => ∃ b : Bool, xs = [.bl b] ∧ Q (.str (if b = true then "True" else "False")) H) := by
  intro pins s σ H xs us Q I r h
  obtain ⟨b, rfl, q⟩ := h
  cases r with
  | cons ru rr =>
    cases rr
    cases ru
    refine PySem.P.repr_of_bool ⟨.str (if b = true then "True" else "False"), H, I.tok _, ⟨s.toks, ?_⟩, q⟩
    cases b <;> rfl
def fReprB : DF := fun xs μ Q => ∃ b : Bool, xs = [.bl b] ∧ Q (.str (if b = true then "True" else "False")) μ
theorem xc_reprB : XC X (.builtin "repr") fReprB := ⟨_, call_repr_bl, fun F H μ vs xs Q' Q R r ⟨b, e, q⟩ k => by
  subst e
  obtain ⟨v, rfl, r1⟩ := rpl1 r
  cases r1
  exact ⟨b, rfl, k F H μ _ _ (Same.refl _) R .str q⟩⟩
/-- is / is not, between two bools -/
theorem op_notB : OpR X (compareOp .IsNot) (fun x y H Q => ∃ a b : Bool, x = .bl a ∧ y = .bl b ∧ Q (.bl (a != b)) H) := by
  intro pins s σ H x y v u Q I rx ry h
  obtain ⟨a, b, rfl, rfl, q⟩ := h
  cases rx
  cases ry
  exact wpAny_isNot_plain (by cases a <;> cases b <;> rfl) (fin_bl I q (by cases a <;> cases b <;> rfl))
def fNotB : DO := fun x y μ Q => ∃ a b : Bool, x = .bl a ∧ y = .bl b ∧ Q (.bl (a != b)) μ
theorem xo_notB : XO X (compareOp .IsNot) fNotB := ⟨_, op_notB, fun F H μ v w x y Q' Q R r1 r2 ⟨a, b, e1, e2, h⟩ k => by
  subst e1 e2
  cases r1
  cases r2
  exact ⟨a, b, rfl, rfl, k F H μ _ _ (Same.refl _) R .bl h⟩⟩
/-- (0, x0), (1, x1), .. -/
def enumD (n : Nat) : List D → List D
  | [] => []
  | d :: ds => .tup [.int n, d] :: enumD (n + 1) ds
theorem enumD_len : ∀ (n : Nat) (ds : List D), (enumD n ds).length = ds.length
  | _, [] => rfl
  | n, _ :: ds => congrArg (· + 1) (enumD_len (n + 1) ds)
theorem enumD_get : ∀ (n : Nat) (ds : List D) (i : Nat) (x : D), (enumD n ds)[i]? = some x → ∃ d, ds[i]? = some d ∧ x = .tup [.int ((n + i : Nat) : Int), d]
  | _, [], _, _, h => by simp [enumD] at h
  | n, d :: ds, 0, x, h => by
    have e : some (D.tup [.int n, d]) = some x := h
    cases e
    exact ⟨d, rfl, rfl⟩
  | n, d :: ds, i + 1, x, h => by
    obtain ⟨d', h1, h2⟩ := enumD_get (n + 1) ds i x h
    exact ⟨d', h1, by rw [h2]; congr 4; omega⟩
theorem iters_enum {K : PySem.W.Frag} {F : Hp} {a : Addr} {vs : List V} {ds : List D} (h : SqL K F a vs) (r : RpL K F vs ds) : Iters K (Ite K a) F (enumD 0 ds) := fun i F1 H1 μ1 s1 R1 => by
  have e := R1.sub.seq (s1.seq h)
  refine ⟨fun hi => ⟨vs, e, by rw [r.length]; rw [enumD_len] at hi; exact hi⟩, fun x hx => ?_⟩
  obtain ⟨d, hd, rfl⟩ := enumD_get 0 ds i x hx
  obtain ⟨v, hv, rv⟩ := r.get hd
  refine ⟨⟨vs, v, e, hv⟩, fun u H2 ⟨T, y, e1, nT, e2, hy⟩ => ?_⟩
  subst e1 e2
  have q := hy vs e
  rw [hv] at q
  cases q
  have s2 := same_upd (o := .tup [.int (i : Nat), v]) (R1.freeF nT)
  refine ⟨_, s2, R1.laid nT _, .tup upd_same (.cons ?_ (.cons ((rv.mono s1).mono s2) .nil))⟩
  rw [Nat.zero_add]
  exact .int
def diEnum (da : DA) : DI := fun δ μ R => da δ μ fun xs μ1 => ∃ x ds, xs = [x] ∧ (x = .lst ds ∨ x = .fro ds) ∧ R (enumD 0 ds) μ1
theorem xi_enum {elts : List Expr} {kk : Nat} {e : Expr} {da : DA} (hm : X.mg "enumerate" = none) (ha : XA X G [e] da) (hg : Gl X "enumerate" := by rfl) (hs : starEach [e] X.env = [(false, eval e X.env)] := by rfl) : XI X G (.Tuple elts kk tpos) (.Call (.Name "enumerate" p) [e] [] pos) (diEnum da) := by
  obtain ⟨t, q, s⟩ := ha
  refine ⟨_, pi_enum hg hm q hs, fun F H σ δ μ R' R I h k => s F H σ δ μ _ _ I h fun F1 H1 μ1 vs xs s1 R1 r1 ⟨x, ds, e1, e2, h1⟩ => ?_⟩
  subst e1
  obtain ⟨v, rfl, r2⟩ := rpl1 r1
  rcases e2 with e | e
  · subst e
    obtain ⟨a, ws, rfl, h2, h3, h4⟩ := rpLst R1.m r2
    exact ⟨a, ws, rfl, SqL.of h2, k F1 H1 μ1 _ _ s1 R1 (iters_enum (SqL.of h4) h3) h1⟩
  · subst e
    cases r2 with
    | fro h2 h3 => exact ⟨_, _, rfl, R1.m.sub.seq h2, k F1 H1 μ1 _ _ s1 R1 (iters_enum h2 h3) h1⟩
end
end DL

/-! DL16: sorted of data (lists, tuples), dicts with tuple keys. -/
namespace DL
open PySem PySem.Spec PyProof.Rows L2
section
open PySem.W PySem.Calls
variable {prog : Program} {w : World} {A : Around} {E : Value → Shared → Prop} {s : Shared} {κ : Heap → PyProof.Rows.KeyKind}
/-- sorted of a list or a tuple -/
theorem sorted_seq {l : Addr} {T : String} {o : Obj} {items : Array Value} {n : Nat} {Q : Value → Shared → Prop} (hT : T = "list" ∨ T = "tuple") (ho : s.heap.get? l = some o) (hc : o.cls = .type T) (hd : o.data = .seq items n) (hL : items.size ≤ sizeLine)
    (S : ∀ h' : Heap, (∀ b o', s.heap.get? b = some o' → h'.get? b = some o') → SortsAt prog w A.in1.in1 { s with heap := sortingHeap (h'.push (seqObj "list" items 0)) h'.objs.size items.toList } (κ h') items.toList)
    (h : ∀ h' : Heap, (∀ b o', s.heap.get? b = some o' → h'.get? b = some o') → Q (.ref h'.objs.size) { s with heap := sortedHeap (h'.push (seqObj "list" items 0)) h'.objs.size items.toList (sortVals (κ h') false items.toList items.toList).toArray }) :
    wpAny (model prog w) A (call (.builtin "sorted") [.ref l]) Q E s := by
  refine call_function_entry_kw kind_sorted plain_sorted entry_sorted (args_sorted1 _) ?_
  unfold Builtin.«sorted»
  refine wpAny_bind (m := checkCount "sorted" 1 1 _) (wpAny_pure ?_)
  refine wpAny_bind (wpAny_collect_seq l hT ho hc hd (fun h' kp => ?_) hL)
  refine wpAny_bind (wpAny_newList ?_ (by rw [Array.length_toList]; exact hL))
  have ea : items.toList.toArray = items := by simp
  show wpAny _ _ _ _ _ { s with heap := h'.push (seqObj "list" items.toList.toArray 0) }
  rw [ea]
  have at_ : (h'.push (seqObj "list" items 0)).get? h'.objs.size = some (seqObj "list" items.toList.toArray 0) := by rw [ea]; exact Heap.get?_push_size _ rfl
  refine wpAny_bind (wpAny_holding (wpAny_call_entry_kw slot_list_sort ⟨_, at_, rfl⟩ entry_list_sort ?body (args_list_sort _)))
  case body =>
    show wpAny (model prog w) A.in1.in1 (Builtin.«list.sort» ⟨[.ref h'.objs.size], []⟩) _ _ _
    refine list_sort_vals (s := { s with heap := h'.push (seqObj "list" items 0) }) at_ (S h' kp) (by rw [Array.length_toList]; exact hL) ?_
    exact ⟨_, rfl, wpAny_pure ⟨_, rfl, h h' kp⟩⟩
end
section
variable {K : PySem.W.Frag} {F : Hp}
theorem each_rp {β : Type} (enc : β → D) : ∀ {vs : List V} {us : List Value} {bs : List β}, Vals vs us → RpL K F vs (bs.map enc) → PySem.W.EachIs (fun u b => ∃ v, RelV v u ∧ Rp K F v (enc b)) us bs
  | _, _, [], h, r => by cases r; cases h; exact .nil
  | _, _, b :: bs, h, r => by
    cases r with
    | cons r t =>
      cases h with
      | cons q q2 => exact .cons ⟨_, q, r⟩ (each_rp enc q2 t)
theorem rp_each {β : Type} (enc : β → D) : ∀ {us : List Value} {bs : List β}, PySem.W.EachIs (fun u b => ∃ v, RelV v u ∧ Rp K F v (enc b)) us bs → ∃ vs, Vals vs us ∧ RpL K F vs (bs.map enc)
  | _, _, .nil => ⟨[], .nil, .nil⟩
  | _, _, .cons ⟨v, a, b⟩ t => by
    obtain ⟨vs, q1, q2⟩ := rp_each enc t
    exact ⟨v :: vs, .cons a q1, .cons b q2⟩
/-- sorted(..) of data: the sorted list -/
def rSortD (K : PySem.W.Frag) : List V → Hp → VK → Prop := fun vs H Q => ∃ (β : Type) (a : Addr) (xs : List V) (F : Hp) (bs : List β) (enc : β → D) (py : β → PyData), vs = [V.ref a] ∧ (SqL K H a xs ∨ SqT K H a xs) ∧ Same F H ∧ RpL K F xs (bs.map enc) ∧
  (∀ b, toPy (enc b) = some (py b)) ∧ PySem.W.AllAlike (bs.map py) ∧ PySem.W.Sortable (bs.map py) ∧ (∀ b ∈ bs, (py b).depth ≤ 60) ∧
  ∀ ys p, RpL K F ys ((bs.mergeSort (PySem.W.dataLe false py)).map enc) → H p = none → Q (.ref p) (upd H p (.lst ys))
end
section
variable {X : Cx}
theorem cr_sortD (hu : X.A.units + 64 < cLine) : CallR X (.builtin "sorted") (rSortD X.K) := by
  intro pins s σ H vs us Q I r h
  obtain ⟨β, a, xs, F, bs, enc, py, rfl, hs, sF, rp, hpy, hal, hk, hdep, q⟩ := h
  rw [Vals.ref1 r]
  obtain ⟨T, o, items, n, hT, ho, hc, hd, rv, hz⟩ : ∃ (T : String) (o : Obj) (items : Array Value) (n : Nat), (T = "list" ∨ T = "tuple") ∧ s.heap.get? a = some o ∧ o.cls = .type T ∧ o.data = .seq items n ∧ Vals xs items.toList ∧ xs.length ≤ sizeLine := by
    rcases hs with hs | hs
    · obtain ⟨its, rv, hl, hz⟩ := I.list hs
      obtain ⟨o, ho, hc, n, hd⟩ := hl.isList
      exact ⟨"list", o, its.toArray, n, .inl rfl, ho, hc, hd, by simpa using rv, hz⟩
    · obtain ⟨its, rv, hl, hz⟩ := I.tuple hs
      obtain ⟨o, ho, hc, n, hd⟩ := hl
      exact ⟨"tuple", o, its.toArray, n, .inr rfl, ho, hc, hd, by simpa using rv, hz⟩
  have e := each_rp (K := X.K) (F := F) enc rv rp
  have er : PySem.W.EachIs (fun v b => ∃ as, Reads s.heap v (py b) as) items.toList bs := e.mono fun u b ⟨v, r1, r2⟩ => Dp.reads I (py b) v u (r2.dp sF (enc b) (hpy b)) r1
  have old : ∀ (h' : Heap) (b : Addr) (o' : Obj), (∀ b o', s.heap.get? b = some o' → h'.get? b = some o') → s.heap.get? b = some o' → (PySem.W.sortingHeap (h'.push (seqObj "list" items 0)) h'.objs.size items.toList).get? b = some o' := fun h' b o' kp e =>
    PySem.W.sortingHeap_old (Nat.ne_of_lt (Heap.lt_size (kp b o' e))) (Heap.get?_push_of_some _ (kp b o' e))
  have er' : ∀ h' : Heap, (∀ b o', s.heap.get? b = some o' → h'.get? b = some o') → PySem.W.EachIs (fun v b => ∃ as, Reads (PySem.W.sortingHeap (h'.push (seqObj "list" items 0)) h'.objs.size items.toList) v (py b) as) items.toList bs := fun h' kp =>
    er.mono fun _ _ ⟨as, q⟩ => ⟨as, PyProof.Rows.Reads.keeps (fun b o' e => old h' b o' kp e) q⟩
  refine sorted_seq (κ := fun h' => PySem.W.dataKind (PySem.W.sortingHeap (h'.push (seqObj "list" items 0)) h'.objs.size items.toList) (bs.map py)) hT ho hc hd (by rw [← Array.length_toList, ← rv.length]; exact hz) (fun h' kp => ?_) fun h' kp => ?_
  · refine PySem.W.SortsAt.data (s := { s with heap := PySem.W.sortingHeap (h'.push (seqObj "list" items 0)) h'.objs.size items.toList }) (PySem.W.each_map (R := fun v d => ∃ as, Reads (PySem.W.sortingHeap (h'.push (seqObj "list" items 0)) h'.objs.size items.toList) v d as) py (er' h' kp)) hal hk fun d hd => ?_
    obtain ⟨b, hb, rfl⟩ := List.mem_map.mp hd
    have := hdep b hb
    show X.A.units + 1 + 1 + (py b).depth < cLine
    omega
  · have e2 := PySem.W.sortVals_data (enc := py) false e (er' h' kp) hal
    obtain ⟨ys, v1, r1⟩ := rp_each (K := X.K) (F := F) enc e2
    have I2 : Inv X pins σ H { s with heap := h' } := I.kept (t' := s.toks) kp
    have hlen : ys.length ≤ sizeLine := by
      rw [r1.length, List.length_map, List.length_mergeSort, ← List.length_map (f := enc), ← rp.length]
      exact hz
    obtain ⟨ep, he'⟩ := PyProof.Rows.sortedHeap_at (h := h'.push (seqObj "list" items 0)) (a := h'.objs.size) (vs := items.toList) (n := 0) (out := (PySem.W.sortVals (PySem.W.dataKind (PySem.W.sortingHeap (h'.push (seqObj "list" items 0)) h'.objs.size items.toList) (bs.map py)) false items.toList items.toList).toArray) (by rw [show items.toList.toArray = items by simp]; exact Heap.get?_push_size _ rfl)
    refine ⟨.ref h'.objs.size, upd H h'.objs.size (.lst ys), I2.laid (t' := s.toks) (fun b o' e => ?_) (Nat.le_refl _) ⟨hlen, _, ep, v1, he'⟩, rfl, q ys _ r1 (I2.hok.fresh (Nat.le_refl _))⟩
    show (sortedHeap _ _ _ _).get? b = some o'
    rw [PyProof.Rows.sortedHeap_old (Nat.ne_of_lt (Heap.lt_size e)) (by rw [size_push']; exact Nat.lt_succ_of_lt (Heap.lt_size e))]
    exact Heap.get?_push_of_some _ e
/-- sorted(..), data told by an encoding -/
def fSortD : DF := fun xs μ Q => ∃ (β : Type) (x : D) (bs : List β) (enc : β → D) (py : β → PyData), xs = [x] ∧ itemsOf μ x = some (bs.map enc) ∧ (∀ b, toPy (enc b) = some (py b)) ∧ PySem.W.AllAlike (bs.map py) ∧ PySem.W.Sortable (bs.map py) ∧ (∀ b ∈ bs, (py b).depth ≤ 60) ∧
  Q (.lst ((bs.mergeSort (PySem.W.dataLe false py)).map enc)) μ
theorem rpSeqF {K : PySem.W.Frag} {F H : Hp} {μ : Mo} {v : V} {x : D} {ds : List D} (R : RelM K F H μ) (r : Rp K F v x) (e : itemsOf μ x = some ds) :
    ∃ a vs, v = .ref a ∧ (SqL K H a vs ∨ SqT K H a vs) ∧ RpL K F vs ds := rpSeq R r e
theorem xc_sortD (hu : X.A.units + 64 < cLine) : XC X (.builtin "sorted") fSortD := ⟨_, cr_sortD hu, fun F H μ vs xs Q' Q R r ⟨β, x, bs, enc, py, e, hi, hpy, hal, hk, hdep, q⟩ k => by
  subst e
  obtain ⟨v, rfl, r1⟩ := rpl1 r
  obtain ⟨a, ws, rfl, h1, h2⟩ := rpSeq R r1 hi
  refine ⟨β, a, ws, F, bs, enc, py, rfl, h1, R.sub, h2, hpy, hal, hk, hdep, fun ys p hr hp => ?_⟩
  have s := same_upd (o := .lst ys) (R.freeF hp)
  exact k _ _ μ _ _ s (R.laid hp _) (.lst upd_same (hr.mono s)) q⟩
/-- sorted(..) of fewer than two items: the same items -/
def ltF (_ _ : Value) : Bool := false
theorem swoF : SrtO.Swo ltF := ⟨fun _ _ h => (by cases h), fun _ _ _ _ _ => rfl⟩
theorem short_perm {α : Type} : ∀ {l m : List α}, l.Perm m → m.length < 2 → l = m
  | _, [], h, _ => List.Perm.eq_nil h
  | _, [_], h, _ => List.perm_singleton.mp h
  | _, _ :: _ :: m, _, h => absurd h (by rw [List.length_cons, List.length_cons]; omega)
def rSort1 (K : PySem.W.Frag) : List V → Hp → VK → Prop := fun vs H Q => ∃ (a : Addr) (xs : List V), vs = [V.ref a] ∧ SqL K H a xs ∧ xs.length < 2 ∧ ∀ p, H p = none → Q (.ref p) (upd H p (.lst xs))
theorem cr_sort1 : CallR X (.builtin "sorted") (rSort1 X.K) := by
  intro pins s σ H vs us Q I r h
  obtain ⟨a, xs, rfl, hs, hl2, q⟩ := h
  rw [Vals.ref1 r]
  obtain ⟨its, rv, hl, hz⟩ := I.list hs
  refine SrtO.sorted_ord (ltv := ltF) swoF hl.isList (by rw [← rv.length]; exact hz) (fun h2 => by rw [← rv.length] at h2; omega) fun out h1 h2 => ?_
  have hle : its.length < 2 := by rw [← rv.length]; exact hl2
  have e : out = its := short_perm h2.perm hle
  clear h1 h2
  subst e
  obtain ⟨ep, he'⟩ := PyProof.Rows.sortedAll_at s.heap out out.toArray
  exact ⟨.ref (s.heap.objs.size + 1), upd H (s.heap.objs.size + 1) (.lst xs), I.laid (t' := s.toks) (fun _ _ => PyProof.Rows.sortedAll_old) (Nat.le_succ _) ⟨hz, out, ep, rv, he'⟩, rfl, q _ (I.hok.fresh (Nat.le_succ _))⟩
def fSort1 : DF := fun xs μ Q => ∃ x ds, xs = [x] ∧ x ≠ .tup ds ∧ itemsOf μ x = some ds ∧ ds.length < 2 ∧ Q (.lst ds) μ
theorem xc_sort1 : XC X (.builtin "sorted") fSort1 := ⟨_, cr_sort1, fun F H μ vs xs Q' Q R r ⟨x, ds, e, ne, e2, hl, q⟩ k => by
  subst e
  obtain ⟨v, rfl, r1⟩ := rpl1 r
  obtain ⟨a, ws, rfl, h1, h2⟩ := rpLs R r1 e2 ne
  refine ⟨a, ws, rfl, h1, by rw [h2.length]; exact hl, fun p hp => ?_⟩
  have s := same_upd (o := .lst ws) (R.freeF hp)
  exact k _ _ μ _ _ s (R.laid hp _) (.lst upd_same (h2.mono s)) q⟩
/-- both -/
def fSort : DF := fun xs μ Q => fSortD xs μ Q ∨ fSort1 xs μ Q
theorem xc_or {fv : Value} {f g : DF} (h1 : XC X fv f) (h2 : XC X fv g) : XC X fv (fun xs μ Q => f xs μ Q ∨ g xs μ Q) := by
  obtain ⟨r, c, s⟩ := h1
  obtain ⟨r', c', s'⟩ := h2
  exact ⟨_, CallR.or c c', fun F H μ vs xs Q' Q R r h k => h.elim (fun h => .inl (s F H μ vs xs Q' Q R r h k)) fun h => .inr (s' F H μ vs xs Q' Q R r h k)⟩
theorem xc_sort (hu : X.A.units + 64 < cLine) : XC X (.builtin "sorted") fSort := xc_or (xc_sortD hu) xc_sort1

/-! ### dicts with tuple keys -/
def keyD : Key → D
  | .inl i => .int i
  | .inr x => .str x
theorem rp_keyD {K : PySem.W.Frag} {F : Hp} {v : V} {k : Key} (r : Rp K F v (keyD k)) : v = kV k := by
  cases k <;> cases r <;> rfl
theorem rp_keysD {K : PySem.W.Frag} {F : Hp} : ∀ {ks : List Key} {vs : List V}, RpL K F vs (ks.map keyD) → vs = ks.map kV
  | [], _, h => by cases h; rfl
  | k :: ks, _, h => by
    cases h with
    | cons r t => rw [rp_keyD r, rp_keysD t] <;> rfl
def getD (kvs : List (List Key × D)) (k : List Key) : Option D := (kvs.find? fun kv => decide (kv.1 = k)).map (·.2)
def putT (kvs : List (List Key × D)) (k : List Key) (v : D) : List (List Key × D) :=
  if (kvs.any fun kv => decide (kv.1 = k)) = true then kvs.map (fun kv => if kv.1 = k then (kv.1, v) else kv) else kvs ++ [(k, v)]
abbrev PrK (K : PySem.W.Frag) (F : Hp) := Paired (fun (p : List Key × V) (q : List Key × D) => p.1 = q.1 ∧ Rp K F p.2 q.2)
theorem get_rp {K : PySem.W.Frag} {F : Hp} {k : List Key} : ∀ {vks : List (List Key × V)} {kvs : List (List Key × D)}, PrK K F vks kvs → (∀ d, getD kvs k = some d → ∃ v, valV vks k = some v ∧ Rp K F v d) ∧ (getD kvs k = none → valV vks k = none)
  | _, _, .nil => ⟨fun d h => (by cases h), fun _ => rfl⟩
  | p :: vks, q :: kvs, .cons r t => by
    obtain ⟨ih1, ih2⟩ := get_rp (k := k) t
    obtain ⟨e, rv⟩ := r
    by_cases h : q.1 = k
    · have h1 : getD (q :: kvs) k = some q.2 := by unfold getD; rw [List.find?_cons_of_pos (by simpa using h)] <;> rfl
      have h2 : valV (p :: vks) k = some p.2 := valV_pos (e.trans h)
      rw [h1, h2]
      exact ⟨fun d hd => by cases hd; exact ⟨_, rfl, rv⟩, fun z => by cases z⟩
    · have h1 : getD (q :: kvs) k = getD kvs k := by unfold getD; rw [List.find?_cons_of_neg (by simpa using h)]
      have h2 : valV (p :: vks) k = valV vks k := valV_neg (by rw [e]; exact h)
      rw [h1, h2]
      exact ⟨ih1, ih2⟩
theorem any_rp {K : PySem.W.Frag} {F : Hp} {k : List Key} : ∀ {vks : List (List Key × V)} {kvs : List (List Key × D)}, PrK K F vks kvs → (vks.any fun kv => decide (kv.1 = k)) = (kvs.any fun kv => decide (kv.1 = k))
  | _, _, .nil => rfl
  | p :: vks, q :: kvs, .cons r t => by rw [List.any_cons, List.any_cons, any_rp t, r.1]
theorem repl_rp {K : PySem.W.Frag} {F : Hp} {k : List Key} {v : V} {d : D} (rv : Rp K F v d) : ∀ {vks : List (List Key × V)} {kvs : List (List Key × D)}, PrK K F vks kvs → PrK K F (vks.map fun kv => if kv.1 = k then (kv.1, v) else kv) (kvs.map fun kv => if kv.1 = k then (kv.1, d) else kv)
  | _, _, .nil => .nil
  | p :: vks, q :: kvs, .cons r t => by
    refine .cons ?_ (repl_rp rv t)
    show (if p.1 = k then (p.1, v) else p).1 = (if q.1 = k then (q.1, d) else q).1 ∧ Rp K F (if p.1 = k then (p.1, v) else p).2 (if q.1 = k then (q.1, d) else q).2
    by_cases h : q.1 = k
    · rw [if_pos h, if_pos (r.1.trans h)]; exact ⟨r.1, rv⟩
    · rw [if_neg h, if_neg (by rw [r.1]; exact h)]; exact r
theorem put_rpT {K : PySem.W.Frag} {F : Hp} {k : List Key} {v : V} {d : D} (rv : Rp K F v d) {vks : List (List Key × V)} {kvs : List (List Key × D)} (h : PrK K F vks kvs) : PrK K F (putK vks k v) (putT kvs k d) := by
  unfold putK putT
  rw [any_rp h]
  split
  · exact repl_rp rv h
  · exact Paired.snoc h ⟨rfl, rv⟩
theorem prK_len {K : PySem.W.Frag} {F : Hp} {vks : List (List Key × V)} {kvs : List (List Key × D)} (h : PrK K F vks kvs) : vks.length = kvs.length := paired_len h
variable {G : Gx X.K} {o i e : Expr} {td ty tv : DE} {pos pos' : Pos}
/-- the dict at x, the key y -/
def DctAt (μ : Mo) (x y : D) (kvs : List (List Key × D)) (k : List Key) : Prop := (∃ p, x = .ref p ∧ μ p = some (.dct kvs)) ∧ y = .tup (k.map keyD)
theorem dctAt {K : PySem.W.Frag} {F H : Hp} {μ : Mo} {v w : V} {x y : D} {kvs : List (List Key × D)} {k : List Key} (R : RelM K F H μ) (rx : Rp K F v x) (ry : Rp K F w y) (h : DctAt μ x y kvs k) : ∃ a b vks, v = .ref a ∧ w = .ref b ∧ x = .ref a ∧ μ a = some (.dct kvs) ∧ H a = some (.dT vks) ∧ F a = none ∧ PrK K F vks kvs ∧ H b = some (.tup (k.map kV)) := by
  obtain ⟨⟨p, e, hm⟩, e2⟩ := h
  subst e e2
  cases rx
  obtain ⟨f, vks, h1, h2⟩ := R.mu p _ hm
  obtain ⟨b, vs, rfl, h3, h4, _⟩ := rpT R ry
  rw [rp_keysD h4] at h3
  exact ⟨p, b, vks, rfl, rfl, rfl, hm, h1, f, h2, h3⟩
def dGetT (td ty : DE) : DE := fun δ μ Q => td δ μ fun x μ1 => ty δ μ1 fun y μ2 => ∃ kvs k d, DctAt μ2 x y kvs k ∧ getD kvs k = some d ∧ Q d μ2
theorem xe_dget (hu : X.A.units + 64 < cLine) (ho : XE X G o td) (hi : XE X G i ty) (hs : NoSl i := by exact fun _ _ => rfl) : XE X G (.Subscript o i pos) (dGetT td ty) := by
  obtain ⟨t, p, s⟩ := ho
  obtain ⟨u, q, z⟩ := hi
  refine ⟨_, pe_dget (by omega) p q hs, fun F H σ δ μ Q' Q R h k => s F H σ δ μ _ _ R h fun F1 H1 μ1 v x s1 R1 r1 h1 => z F1 H1 σ δ μ1 _ _ R1 h1 fun F2 H2 μ2 w y s2 R2 r2 ⟨kvs, kk, d, hat, hg, h2⟩ => ?_⟩
  obtain ⟨a, b, vks, rfl, rfl, rfl, hm, ha, f, hp, hb⟩ := dctAt R2.m (r1.mono s2) r2 hat
  obtain ⟨v, hv, rv⟩ := (get_rp hp).1 d hg
  exact ⟨a, v, rfl, by rw [← hv]; exact DGet.t ha hb, k F2 H2 μ2 v d (s1.trans s2) R2 rv h2⟩
def dNotInT (ty td : DE) : DT := fun δ μ Q => ty δ μ fun y μ1 => td δ μ1 fun x μ2 => ∃ kvs k, DctAt μ2 x y kvs k ∧ Q (getD kvs k).isNone μ2
def dInT (ty td : DE) : DT := fun δ μ Q => ty δ μ fun y μ1 => td δ μ1 fun x μ2 => ∃ kvs k, DctAt μ2 x y kvs k ∧ Q (getD kvs k).isSome μ2
theorem get_isSome {K : PySem.W.Frag} {F : Hp} {k : List Key} {vks : List (List Key × V)} {kvs : List (List Key × D)} (h : PrK K F vks kvs) : (valV vks k).isSome = (getD kvs k).isSome := by
  obtain ⟨a, b⟩ := get_rp (k := k) h
  cases e : getD kvs k with
  | none => rw [b e] <;> rfl
  | some d => obtain ⟨v, hv, _⟩ := a d e; rw [hv] <;> rfl
theorem xt_dnotin (hu : X.A.units + 64 < cLine) (hi : XE X G i ty) (ho : XE X G o td) (hm : behindInMarks .NotIn o = false := by rfl) : XT X G (.Compare i [.NotIn] [o] pos) (dNotInT ty td) := by
  obtain ⟨t, p, s⟩ := ho
  obtain ⟨u, q, z⟩ := hi
  refine ⟨_, pt_cmp (pc_dnotin (by omega) q p) hm, fun F H σ δ μ Q' Q R h k => z F H σ δ μ _ _ R h fun F1 H1 μ1 w y s1 R1 r1 h1 => s F1 H1 σ δ μ1 _ _ R1 h1 fun F2 H2 μ2 v x s2 R2 r2 ⟨kvs, kk, hat, h2⟩ => ?_⟩
  obtain ⟨a, b, vks, rfl, rfl, rfl, hm, ha, f, hp, hb⟩ := dctAt R2.m r2 (r1.mono s2) hat
  refine ⟨a, _, rfl, DGet.t ha hb, _, rfl, k F2 H2 μ2 _ (s1.trans s2) R2 ?_⟩
  rw [get_isSome hp, Option.not_isSome]
  exact h2
theorem xt_din (hu : X.A.units + 64 < cLine) (hi : XE X G i ty) (ho : XE X G o td) (hm : behindInMarks .In o = false := by rfl) : XT X G (.Compare i [.In] [o] pos) (dInT ty td) := by
  obtain ⟨t, p, s⟩ := ho
  obtain ⟨u, q, z⟩ := hi
  refine ⟨_, pt_cmp (pc_din (by omega) q p) hm, fun F H σ δ μ Q' Q R h k => z F H σ δ μ _ _ R h fun F1 H1 μ1 w y s1 R1 r1 h1 => s F1 H1 σ δ μ1 _ _ R1 h1 fun F2 H2 μ2 v x s2 R2 r2 ⟨kvs, kk, hat, h2⟩ => ?_⟩
  obtain ⟨a, b, vks, rfl, rfl, rfl, hm, ha, f, hp, hb⟩ := dctAt R2.m r2 (r1.mono s2) hat
  refine ⟨a, _, rfl, DGet.t ha hb, _, rfl, k F2 H2 μ2 _ (s1.trans s2) R2 ?_⟩
  rw [get_isSome hp]
  exact h2
def dPutT (td ty tv : DE) : DS := fun D δ μ => tv δ μ fun v μ1 => td δ μ1 fun x μ2 => ty δ μ2 fun y μ3 => ∃ p kvs k, x = .ref p ∧ DctAt μ3 x y kvs k ∧ kvs.length < sizeLine ∧ D.nx δ (updM μ3 p (some (.dct (putT kvs k v))))
theorem xs_dput {value : Expr} (hu : X.A.units + 64 < cLine) (ho : XE X G o td) (hi : XE X G i ty) (hv : XE X G value tv) (hs : swapsWith value (some (.Subscript o i pos')) pos.line X.env = pure false := by rfl) :
    XS X G (.Assign [.Subscript o i pos'] value pos) (dPutT td ty tv) := by
  obtain ⟨t, p, s⟩ := ho
  obtain ⟨u, q, z⟩ := hi
  obtain ⟨t3, p3, s3⟩ := hv
  refine ⟨_, ps_dput (by omega) p q p3 hs, fun F H σ δ μ D' D R h k => s3 F H σ δ μ _ _ R h fun F1 H1 μ1 v v' sa R1 r1 h1 => s F1 H1 σ δ μ1 _ _ R1 h1 fun F2 H2 μ2 x x' sb R2 r2 h2 => z F2 H2 σ δ μ2 _ _ R2 h2 fun F3 H3 μ3 y y' sc R3 r3 ⟨p, kvs, kk, ex, hat, hl, h3⟩ => ?_⟩
  obtain ⟨a, b, vks, rfl, rfl, ex2, hm, ha, f, hp, hb⟩ := dctAt R3.m (r2.mono sc) r3 hat
  rw [ex] at ex2
  cases ex2
  refine ⟨p, _, rfl, DPut.t ha hb (by rw [prK_len hp]; exact hl), ?_⟩
  exact k.nx F3 _ σ δ _ ((sa.trans sb).trans sc) (R3.to (Same.refl _) (R3.m.put f (show MuAt X.K F3 (upd H3 p (.dT (putK vks kk v))) p (.dct (putT kvs kk v')) from ⟨_, upd_same, put_rpT ((r1.mono sb).mono sc) hp⟩))) h3
/-- {} -/
def dDctNew : DE := fun _ μ Q => ∀ p, μ p = none → Q (.ref p) (updM μ p (some (.dct [])))
theorem xe_dnew : XE X G (.Dict [] [] pos) dDctNew := ⟨_, pe_dnewT, fun F H σ δ μ Q' Q R h k => fun p hp => k F _ _ _ _ (Same.refl _) (R.to (Same.refl _) (R.m.put (R.m.freeF hp) (show MuAt X.K F (upd H p (.dT [])) p (.dct []) from ⟨[], upd_same, .nil⟩))) .ref (h p (R.m.freeM hp))⟩
end
end DL

/-! DL17: list(range(..)), tuple(range(..)), a promise that is never asked, the class Search. -/
namespace DL
open PySem PySem.Spec PyProof.Rows L2
section
variable {X : Cx} {G : Gx X.K} {p pos p2 pos2 : Pos} {a b c e : Expr} {da : DA}
/-- the step range's ints -/
def rngC (lo c : Int) (n : Nat) : List D := (List.range n).map fun (i : Nat) => D.int (lo + (i : Int) * c)
def rgVC (lo c : Int) (n : Nat) : List V := (List.range n).map fun (i : Nat) => V.int (lo + (i : Int) * c)
theorem rp_rgVC {K : PySem.W.Frag} {F : Hp} {lo c : Int} : ∀ (l : List Nat), RpL K F (l.map fun (i : Nat) => V.int (lo + (i : Int) * c)) (l.map fun (i : Nat) => D.int (lo + (i : Int) * c))
  | [] => .nil
  | _ :: l => .cons .int (rp_rgVC l)
theorem vals_rgC {lo c : Int} {n : Nat} {acc : Array Value} (h : ItemsOf (fun i v => ∃ t, v = .int (lo + i * c) t) acc n) : Vals (rgVC lo c n) acc.toList := by
  have e : acc.toList.length = n := by rw [Array.length_toList]; exact h.1
  unfold rgVC
  rw [← e]
  refine vals_of_get acc.toList _ fun j u hj => ?_
  obtain ⟨t, rfl⟩ := h.2 j u (by rw [← hj, Array.getElem?_toList])
  exact ⟨t, rfl⟩
/-- range(..) as an argument: an expression that makes a range object -/
def PRn (X : Cx) (e : Expr) (t : L2.St → Hp → (Int → Int → Nat → Hp → Prop) → Prop) : Prop :=
  ∀ (pins : List (Addr × Obj)) (s : Shared) (σ : L2.St) (H : Hp) (Q : Int → Int → Nat → Hp → Prop), Inv X pins σ H s → t σ H Q →
    wpAny (model X.prog X.w) X.A (eval e X.env) (fun x s' => ∃ (r : Addr) (lo hi c : Int) (n : Nat) (t u v : Tok) (H' : Hp), x = .ref r ∧ IsRange s'.heap r lo hi c t u v ∧ Builtin.Range.small lo hi c = true ∧ Builtin.Range.rangeSize lo hi c = (n : Int) ∧ Inv X pins σ H' s' ∧ Q lo c n H') X.xe s
def tRn3 (ta : TA) : L2.St → Hp → (Int → Int → Nat → Hp → Prop) → Prop := fun σ H Q => ta σ H fun vs H1 => ∃ (i j c : Int) (n : Nat), vs = [.int i, .int j, .int c] ∧ RgC i j c n ∧ Q i c n H1
theorem prn_3 {ta : TA} (hg : Gl X "range") (hm : X.mg "range" = none) (ha : PA X [a, b, c] ta)
    (hs : starEach [a, b, c] X.env = (false, eval a X.env) :: starEach [b, c] X.env := by rfl) (hpl : (backTo pos (starEach [b, c] X.env)).any (·.1) = false := by rfl) : PRn X (.Call (.Name "range" p) [a, b, c] [] pos) (tRn3 ta) := by
  intro pins s σ H Q I h
  refine Call_ (ld_blt I hg hm boot_range (PyProof.Rows.callWith_type1 (thn (ha.run pos pins s σ H _ I h) fun us s1 ⟨vs, H1, I1, r1, q1⟩ => ?_) hs hpl))
  obtain ⟨i, j, k, n, e, ⟨c0, c1, c2, c3⟩, q⟩ := q1
  subst e
  cases r1 with
  | cons r rr =>
    cases rr with
    | cons r' rr =>
      cases rr with
      | cons r'' rr =>
        cases rr
        obtain ⟨t, rfl⟩ := r
        obtain ⟨t', rfl⟩ := r'
        obtain ⟨t'', rfl⟩ := r''
        exact call_range_3 c0 ⟨_, i, j, k, n, _, _, _, H1, rfl, IsRange.new .., c2, c3, I1.kept (t' := s1.toks) fun b o e => Heap.get?_push_of_some _ e, q⟩ (.inl (PyProof.noPylong_small c1))
def tLstRn (te : L2.St → Hp → (Int → Int → Nat → Hp → Prop) → Prop) : TE := fun σ H Q => te σ H fun lo c n H1 => n ≤ 2 ^ 24 ∧ ∀ q, H1 q = none → Q (.ref q) (upd H1 q (.lst (rgVC lo c n)))
theorem pe_listRn {te : L2.St → Hp → (Int → Int → Nat → Hp → Prop) → Prop} (hc : X.calm = true) (hg : Gl X "list") (hm : X.mg "list" = none) (he : PRn X e te) (na : starEach [e] X.env = (false, eval e X.env) :: starEach [] X.env := by rfl) : PE X (.Call (.Name "list" p) [e] [] pos) (tLstRn te) := by
  refine ⟨fun pins s σ H Q I h => ?_⟩
  refine Call_ (ld_blt I hg hm boot_list (PyProof.Rows.callWith_type1 (args_cons (thn (he pins s σ H _ I h) fun x s1 ⟨r, lo, hi, c, n, t, u, v, H1, ex, hr, sm, sz, I1, hn, q⟩ => args_nil ?_) na) na))
  subst ex
  refine call_list_range (n := n) (I1.ok.hd hc) hr sm sz hn fun h' tk acc c' hk e' hi => ?_
  refine ⟨.ref s1.heap.objs.size, upd H1 s1.heap.objs.size (.lst (rgVC lo c n)), I1.laid hk (Nat.le_refl _) (show ObjOk X.prog X.w _ _ _ (.lst (rgVC lo c n)) from ⟨?_, acc.toList, c', vals_rgC hi, ?_⟩), rfl, q _ (I1.hok.fresh (Nat.le_refl _))⟩
  · unfold rgVC; rw [List.length_map, List.length_range, sizeLine_eq]; omega
  · rw [Array.toArray_toList]; exact e'
def fRg (xs : List D) : Option (Int × Int) := match xs with
  | [.int j] => some (0, j)
  | [.int i, .int j] => some (i, j)
  | _ => none
def dLstRg (da : DA) : DE := fun δ μ Q => da δ μ fun xs μ1 => ∃ i j, fRg xs = some (i, j) ∧ RgOk i j ∧ Q (.lst (rng i (j - i).toNat)) μ1
def dTupRg (da : DA) : DE := fun δ μ Q => da δ μ fun xs μ1 => ∃ i j, fRg xs = some (i, j) ∧ RgOk i j ∧ Q (.tup (rng i (j - i).toNat)) μ1
theorem rp_rgV {K : PySem.W.Frag} {F : Hp} {i j : Int} : RpL K F (rgV i j) (rng i (j - i).toNat) := by
  unfold rgV rng
  generalize (j - i).toNat = n
  have : ∀ l : List Nat, RpL K F (l.map fun (k : Nat) => V.int (i + (k : Int))) (l.map fun (k : Nat) => D.int (i + (k : Int))) := fun l => by
    induction l with
    | nil => exact .nil
    | cons _ l ih => exact .cons .int ih
  exact this _
theorem fRg1 {xs : List D} {i j : Int} {K : PySem.W.Frag} {F : Hp} {vs : List V} (r : RpL K F vs xs) (h : fRg xs = some (i, j)) : (vs = [.int j] ∧ i = 0) ∨ vs = [.int i, .int j] := by
  unfold fRg at h
  split at h
  · cases h
    obtain ⟨v, rfl, r1⟩ := rpl1 r
    cases r1
    exact .inl ⟨rfl, rfl⟩
  · cases h
    obtain ⟨v, w, rfl, r1, r2⟩ := rpl2 r
    cases r1; cases r2
    exact .inr rfl
  · cases h
theorem one_of {ta : TE} {e1 : Expr} {q : Value → Prop} : True := trivial
theorem xe_lstRg1 (hm : X.mg "list" = none) (hm2 : X.mg "range" = none) {d : DE} (ha : XE X G a d) (hc : X.calm = true := by rfl) (hg : Gl X "list" := by rfl) (hg2 : Gl X "range" := by rfl)
    (na : starEach [a] X.env = (false, eval a X.env) :: starEach [] X.env := by rfl) (nb : starEach [(.Call (.Name "range" p2) [a] [] pos2)] X.env = (false, eval (.Call (.Name "range" p2) [a] [] pos2) X.env) :: starEach [] X.env := by rfl) :
    XE X G (.Call (.Name "list" p) [.Call (.Name "range" p2) [a] [] pos2] [] pos) (dLstRg (dCons d dNil)) := by
  obtain ⟨t, q, s⟩ := ha
  refine ⟨_, pe_listRg hc hg hm (prg_1 hg2 hm2 q na) nb, fun F H σ δ μ Q' Q R h k => s F H σ δ μ _ _ R h fun F1 H1 μ1 v x s1 R1 r1 ⟨i, j, e, ok, h1⟩ => ?_⟩
  obtain ⟨e2, e3⟩ | e := fRg1 (.cons r1 .nil) e
  · cases e2
    subst e3
    refine ⟨j, rfl, ok, fun q hq => ?_⟩
    have s4 := same_upd (o := .lst (rgV 0 j)) (R1.m.freeF hq)
    exact k _ _ μ1 _ _ (s1.trans s4) (R1.to s4 (R1.m.laid hq _)) (.lst upd_same (rp_rgV.mono s4)) h1
  · cases e
theorem xe_tupRg1 (hm : X.mg "tuple" = none) (hm2 : X.mg "range" = none) {d : DE} (ha : XE X G a d) (hc : X.calm = true := by rfl) (hg : Gl X "tuple" := by rfl) (hg2 : Gl X "range" := by rfl)
    (na : starEach [a] X.env = (false, eval a X.env) :: starEach [] X.env := by rfl) (nb : starEach [(.Call (.Name "range" p2) [a] [] pos2)] X.env = (false, eval (.Call (.Name "range" p2) [a] [] pos2) X.env) :: starEach [] X.env := by rfl) :
    XE X G (.Call (.Name "tuple" p) [.Call (.Name "range" p2) [a] [] pos2] [] pos) (dTupRg (dCons d dNil)) := by
  obtain ⟨t, q, s⟩ := ha
  refine ⟨_, pe_tupRg hc hg hm (prg_1 hg2 hm2 q na) nb, fun F H σ δ μ Q' Q R h k => s F H σ δ μ _ _ R h fun F1 H1 μ1 v x s1 R1 r1 ⟨i, j, e, ok, h1⟩ => ?_⟩
  obtain ⟨e2, e3⟩ | e := fRg1 (.cons r1 .nil) e
  · cases e2
    subst e3
    refine ⟨j, rfl, ok, fun q hq => ?_⟩
    have s4 := same_upd (o := .tup (rgV 0 j)) (R1.m.freeF hq)
    exact k _ _ μ1 _ _ (s1.trans s4) (R1.to s4 (R1.m.laid hq _)) (.tup upd_same (rp_rgV.mono s4)) h1
  · cases e
theorem xe_lstRg2 (hm : X.mg "list" = none) (hm2 : X.mg "range" = none) {d d' : DE} (ha : XE X G a d) (hb : XE X G b d') (hc : X.calm = true := by rfl) (hg : Gl X "list" := by rfl) (hg2 : Gl X "range" := by rfl)
    (na : starEach [a, b] X.env = (false, eval a X.env) :: starEach [b] X.env := by rfl) (nb' : starEach [b] X.env = (false, eval b X.env) :: starEach [] X.env := by rfl) (hp : (backTo pos2 (starEach [b] X.env)).any (·.1) = false := by rfl)
    (nb : starEach [(.Call (.Name "range" p2) [a, b] [] pos2)] X.env = (false, eval (.Call (.Name "range" p2) [a, b] [] pos2) X.env) :: starEach [] X.env := by rfl) :
    XE X G (.Call (.Name "list" p) [.Call (.Name "range" p2) [a, b] [] pos2] [] pos) (dLstRg (dCons d (dCons d' dNil))) := by
  obtain ⟨t, q, s⟩ := ha
  obtain ⟨t', q', s'⟩ := hb
  refine ⟨_, pe_listRg hc hg hm (prg_2 hg2 hm2 q q' na nb' hp) nb, fun F H σ δ μ Q' Q R h k => s F H σ δ μ _ _ R h fun F1 H1 μ1 v x s1 R1 r1 h1 => s' F1 H1 σ δ μ1 _ _ R1 h1 fun F2 H2 μ2 w y s2 R2 r2 ⟨i, j, e, ok, h2⟩ => ?_⟩
  obtain ⟨e, _⟩ | e := fRg1 (.cons (r1.mono s2) (.cons r2 .nil)) e
  · cases e
  · cases e
    refine ⟨i, j, rfl, rfl, ok, fun q hq => ?_⟩
    have s4 := same_upd (o := .lst (rgV i j)) (R2.m.freeF hq)
    exact k _ _ μ2 _ _ ((s1.trans s2).trans s4) (R2.to s4 (R2.m.laid hq _)) (.lst upd_same (rp_rgV.mono s4)) h2
theorem xe_tupRg2 (hm : X.mg "tuple" = none) (hm2 : X.mg "range" = none) {d d' : DE} (ha : XE X G a d) (hb : XE X G b d') (hc : X.calm = true := by rfl) (hg : Gl X "tuple" := by rfl) (hg2 : Gl X "range" := by rfl)
    (na : starEach [a, b] X.env = (false, eval a X.env) :: starEach [b] X.env := by rfl) (nb' : starEach [b] X.env = (false, eval b X.env) :: starEach [] X.env := by rfl) (hp : (backTo pos2 (starEach [b] X.env)).any (·.1) = false := by rfl)
    (nb : starEach [(.Call (.Name "range" p2) [a, b] [] pos2)] X.env = (false, eval (.Call (.Name "range" p2) [a, b] [] pos2) X.env) :: starEach [] X.env := by rfl) :
    XE X G (.Call (.Name "tuple" p) [.Call (.Name "range" p2) [a, b] [] pos2] [] pos) (dTupRg (dCons d (dCons d' dNil))) := by
  obtain ⟨t, q, s⟩ := ha
  obtain ⟨t', q', s'⟩ := hb
  refine ⟨_, pe_tupRg hc hg hm (prg_2 hg2 hm2 q q' na nb' hp) nb, fun F H σ δ μ Q' Q R h k => s F H σ δ μ _ _ R h fun F1 H1 μ1 v x s1 R1 r1 h1 => s' F1 H1 σ δ μ1 _ _ R1 h1 fun F2 H2 μ2 w y s2 R2 r2 ⟨i, j, e, ok, h2⟩ => ?_⟩
  obtain ⟨e, _⟩ | e := fRg1 (.cons (r1.mono s2) (.cons r2 .nil)) e
  · cases e
  · cases e
    refine ⟨i, j, rfl, rfl, ok, fun q hq => ?_⟩
    have s4 := same_upd (o := .tup (rgV i j)) (R2.m.freeF hq)
    exact k _ _ μ2 _ _ ((s1.trans s2).trans s4) (R2.to s4 (R2.m.laid hq _)) (.tup upd_same (rp_rgV.mono s4)) h2
def dLstRn (da : DA) : DE := fun δ μ Q => da δ μ fun xs μ1 => ∃ (i j c : Int) (n : Nat), xs = [.int i, .int j, .int c] ∧ RgC i j c n ∧ n ≤ 2 ^ 24 ∧ Q (.lst (rngC i c n)) μ1
theorem xe_lstRg3 (hm : X.mg "list" = none) (hm2 : X.mg "range" = none) (ha : XA X G [a, b, c] da) (hc : X.calm = true := by rfl) (hg : Gl X "list" := by rfl) (hg2 : Gl X "range" := by rfl)
    (hs : starEach [a, b, c] X.env = (false, eval a X.env) :: starEach [b, c] X.env := by rfl) (hpl : (backTo pos2 (starEach [b, c] X.env)).any (·.1) = false := by rfl)
    (nb : starEach [(.Call (.Name "range" p2) [a, b, c] [] pos2)] X.env = (false, eval (.Call (.Name "range" p2) [a, b, c] [] pos2) X.env) :: starEach [] X.env := by rfl) :
    XE X G (.Call (.Name "list" p) [.Call (.Name "range" p2) [a, b, c] [] pos2] [] pos) (dLstRn da) := by
  obtain ⟨t, q, s⟩ := ha
  refine ⟨_, pe_listRn hc hg hm (prn_3 hg2 hm2 q hs hpl) nb, fun F H σ δ μ Q' Q R h k => s F H σ δ μ _ _ R h fun F1 H1 μ1 vs xs s1 R1 r1 ⟨i, j, cc, n, e, ok, hn, h1⟩ => ?_⟩
  subst e
  have ev : vs = [.int i, .int j, .int cc] := by
    have e0 : [D.int i, D.int j, D.int cc] = [i, j, cc].map D.int := rfl
    rw [e0] at r1
    exact r1.ints
  refine ⟨i, j, cc, n, ev, ok, hn, fun q hq => ?_⟩
  have s4 := same_upd (o := .lst (rgVC i cc n)) (R1.m.freeF hq)
  exact k _ _ μ1 _ _ (s1.trans s4) (R1.to s4 (R1.m.laid hq _)) (.lst upd_same ((rp_rgVC _).mono s4)) h1
theorem rgC_up {i j c : Int} (h1 : -(2 ^ 60) ≤ i) (h2 : i < 2 ^ 60) (h3 : -(2 ^ 60) ≤ j) (h4 : j < 2 ^ 60) (hc : 0 < c) (hc2 : c < 1000) : RgC i j c (if i < j then ((j - i - 1) / c + 1).toNat else 0) := by
  have hr : Builtin.Range.rangeSize i j c = ((if i < j then ((j - i - 1) / c + 1).toNat else 0 : Nat) : Int) := by
    unfold Builtin.Range.rangeSize
    have hc' : c > 0 := hc
    simp only [hc', if_true]
    split
    · have : 0 ≤ (j - i - 1) / c := Int.ediv_nonneg (by omega) (by omega)
      first | omega | (simp; omega)
    · first | rfl | simp
  refine ⟨by omega, by omega, ?_, hr⟩
  unfold Builtin.Range.small
  rw [hr]
  simp only [Builtin.Range.rangeFitsLong, Bool.and_eq_true, Bool.or_eq_true, decide_eq_true_eq, beq_iff_eq, show c > 0 from hc, if_true]
  have : 0 ≤ (j - i - 1) / c ∨ ¬ i < j := by
    by_cases h : i < j
    · exact .inl (Int.ediv_nonneg (by omega) (by omega))
    · exact .inr h
  have h6 : i < j → (j - i - 1) / c ≤ j - i - 1 := fun h => Int.ediv_le_self _ (by omega)
  split <;> omega
end
/-! ### a promise that is never asked -/
theorem fnD_false {P : Program} {w : World} {K : PySem.W.Frag} {mg : Str → Option Value} {base : Heap} {k : Nat} {f : Addr} {sp : SpD} (h : ∀ ds μ Q ξ, ¬ sp ds μ Q ξ) : FnD P w K mg base k f sp :=
  fun A outer s H us vs Q E hr e0 r ⟨F0, μ, ds, Q', ξ, R, rr, hs, _⟩ => (h _ _ _ _ hs).elim
/-! ### the class Search -/
abbrev SC (K : PySem.W.Frag) : Addr := He.ga K "Search"
def searchB (K : PySem.W.Frag) : Bool := (He.Fa.cls "Search").ok K && ((He.Fa.noat "Search" "rule_here").ok K && ((He.Fa.noat "Search" "basket_here").ok K && ((He.Fa.noat "Search" "known").ok K && ((He.Fa.mkr "Search").ok K &&
  ((He.Fa.meth "Search" "receipt").ok K && ((He.Fa.meth "Search" "bounds").ok K && (He.Fa.meth "Search" "best").ok K))))))
structure SearchT (K : PySem.W.Frag) : Prop where
  cl : Cls K (SC K)
  nR : NoAttr K (SC K) "rule_here"
  nB : NoAttr K (SC K) "basket_here"
  nK : NoAttr K (SC K) "known"
  mkr : Mk K (SC K) (He.ma K (SC K) "__init__")
  mReceipt : Meth K (SC K) "receipt" (He.ma K (SC K) "receipt")
  mBounds : Meth K (SC K) "bounds" (He.ma K (SC K) "bounds")
  mBest : Meth K (SC K) "best" (He.ma K (SC K) "best")
theorem searchB_ok {K : PySem.W.Frag} (h : searchB K = true) : SearchT K := by
  obtain ⟨h1, h⟩ := He.ba h
  obtain ⟨h2, h⟩ := He.ba h
  obtain ⟨h3, h⟩ := He.ba h
  obtain ⟨h4, h⟩ := He.ba h
  obtain ⟨h5, h⟩ := He.ba h
  obtain ⟨h6, h⟩ := He.ba h
  obtain ⟨h7, h8⟩ := He.ba h
  exact ⟨He.cls_ok h1, He.noat_ok h2, He.noat_ok h3, He.noat_ok h4, He.mkr_ok h5, He.meth_ok h6, He.meth_ok h7, He.meth_ok h8⟩
end DL

/-! DL18: small lemmas of tests. -/
namespace DL
open PySem PySem.Spec PyProof.Rows L2
theorem fNe_str {x : Str} {μ : Mo} {Q : DK} (hx : SeqAt.shaped (.str x) = true) (h : Q (.bl false) μ) : fNe (.str x) (.str x) μ Q :=
  ⟨_, _, rfl, rfl, hx, hx, by rw [show PyData.eqv (.str x) (.str x) = true by simp [PyData.eqv]]; exact h⟩
theorem fNe_bl {x y : Bool} {μ : Mo} {Q : DK} : fNe (.bl x) (.bl y) μ Q ↔ Q (.bl (x != y)) μ := by
  have e : PyData.eqv (.bool x) (.bool y) = (x == y) := by cases x <;> cases y <;> rfl
  constructor
  · rintro ⟨p, q, e1, e2, _, _, h⟩
    cases e1; cases e2
    rw [e] at h
    exact h
  · exact fun h => ⟨_, _, rfl, rfl, rfl, rfl, by rw [e]; exact h⟩
theorem fEq_bl {x y : Bool} {μ : Mo} {Q : DK} : fEq (.bl x) (.bl y) μ Q ↔ Q (.bl (x == y)) μ := by
  have e : PyData.eqv (.bool x) (.bool y) = (x == y) := by cases x <;> cases y <;> rfl
  constructor
  · rintro ⟨p, q, e1, e2, _, _, h⟩
    cases e1; cases e2
    rw [e] at h
    exact h
  · exact fun h => ⟨_, _, rfl, rfl, rfl, rfl, by rw [e]; exact h⟩
theorem shB (a : Bool) : SeqAt.shaped (.str (if a = true then Str.ofString "True" else Str.ofString "False")) = true := by
  show (PyData.canLay0 _ && decide (PyData.depth _ ≤ 64)) = true
  simp only [PyData.canLay0, PyData.depth]
  cases a <;> decide +kernel
theorem fNe_strB {a b : Bool} {μ : Mo} {Q : DK} : fNe (.str (if a = true then Str.ofString "True" else Str.ofString "False")) (.str (if b = true then Str.ofString "True" else Str.ofString "False")) μ Q ↔ Q (.bl (a != b)) μ := by
  constructor
  · rintro ⟨p, q, e1, e2, _, _, h⟩
    cases e1; cases e2
    have e : PyData.eqv (.str (if a = true then Str.ofString "True" else Str.ofString "False")) (.str (if b = true then Str.ofString "True" else Str.ofString "False")) = (a == b) := by cases a <;> cases b <;> (simp only [PyData.eqv]; decide +kernel)
    rw [e] at h
    exact h
  · intro h
    refine ⟨_, _, rfl, rfl, shB a, shB b, ?_⟩
    have e : PyData.eqv (.str (if a = true then Str.ofString "True" else Str.ofString "False")) (.str (if b = true then Str.ofString "True" else Str.ofString "False")) = (a == b) := by cases a <;> cases b <;> (simp only [PyData.eqv]; decide +kernel)
    rw [e]
    exact h
/-- a test that is known -/
theorem ifF {A B : Prop} (h : B) : ∃ c, D.bl false = D.bl c ∧ if c = true then A else B := ⟨false, rfl, by rw [if_neg (by decide)]; exact h⟩
theorem ifT {A B : Prop} (h : A) : ∃ c, D.bl true = D.bl c ∧ if c = true then A else B := ⟨true, rfl, by rw [if_pos rfl]; exact h⟩
theorem ifD {A B : Prop} {x : Bool} (h1 : x = true → A) (h2 : x = false → B) : ∃ c, D.bl x = D.bl c ∧ if c = true then A else B := ⟨x, rfl, by cases x <;> simp_all⟩
theorem atI_3 {α : Type} {x y z u : α} {xs : List α} : atI (x :: y :: z :: u :: xs) 3 = some u := by
  unfold atI ixN
  simp only [List.length_cons]
  rw [if_pos (by decide), if_pos (by omega)]
  rfl
theorem lc_filterL {α : Type} {g : DG} {dtt : DT} {dte : DE} {vs : List Nat} {δ : Slots} {μ : Mo} {Q : DK} {l : List α} {enc : α → D} (P : α → Bool) (f : α → D) (hz : l.length ≤ 16777215)
    (hs : ∀ a ∈ l, ∀ (μ' : Mo) (Qe : Mo → Prop) (Qy : D → Mo → Prop), Less μ μ' → (P a = false → Qe μ') → (P a = true → Qy (f a) μ') → g (enc a) (wipeD δ vs) μ' fun δ2 μ2 => dtt δ2 μ2 fun b μ3 => if b = true then dte δ2 μ3 Qy else Qe μ3)
    (hQ : ∀ μ', Less μ μ' → Q (.lst ((l.filter P).map f)) μ') : LcIn g dtt dte vs Q (l.map enc) δ μ := by
  intro L hL
  have h0 : ∀ {x : Option Mu}, Less μ (updM μ L x) := Less.new hL
  refine ⟨fun i μ' => μ' L = some (.lst (((l.take i).filter P).map f)) ∧ Less μ μ', ⟨updM_same, h0⟩, ?_, ?_⟩
  · rintro i x μ' hx ⟨h1, h2⟩
    rw [List.getElem?_map] at hx
    cases q : l[i]? with
    | none => rw [q] at hx; cases hx
    | some a =>
      rw [q] at hx
      cases hx
      have hi := (List.getElem?_eq_some_iff.mp q).1
      have e := take_snoc q
      refine hs a (List.mem_of_getElem? q) μ' _ _ h2 (fun hp => ⟨?_, h2⟩) fun hp => ⟨_, h1, ?_, ?_, h2.put hL⟩
      · rw [e, List.filter_append, List.filter_cons, hp, h1]; simp
      · have l1 := List.length_filter_le P (l.take i)
        rw [List.length_take] at l1
        rw [List.length_map, sizeLine_eq]
        omega
      · rw [updM_same, e, List.filter_append, List.filter_cons, hp]; simp
  · rintro μ' ⟨h1, h2⟩
    rw [List.length_map, List.take_length] at h1
    exact ⟨_, h1, hQ _ (h2.put hL)⟩
theorem lc_mapL {α : Type} {g : DG} {dte : DE} {vs : List Nat} {δ : Slots} {μ : Mo} {Q : DK} {l : List α} {enc : α → D} (f : α → D) (hz : l.length ≤ 16777215)
    (hs : ∀ a ∈ l, ∀ (μ' : Mo) (Qy : D → Mo → Prop), Less μ μ' → Qy (f a) μ' → g (enc a) (wipeD δ vs) μ' fun δ2 μ2 => dte δ2 μ2 Qy)
    (hQ : ∀ μ', Less μ μ' → Q (.lst (l.map f)) μ') : LcIn g dYes dte vs Q (l.map enc) δ μ :=
  lc_filterL (fun _ => true) f hz (fun a ha μ' Qe Qy hl _ h => hs a ha μ' Qy hl (h rfl)) fun μ' h => by
    rw [show l.filter (fun _ => true) = l by simp]
    exact hQ μ' h
theorem cutD_tail {x : D} {xs : List D} : cutD (x :: xs) (some 1) none = xs := by
  have h : cutD (x :: xs) (some 1) none = (x :: xs).drop 1 := cutD_drop (by decide) (by rw [List.length_cons]; omega)
  rw [h]
  rfl
end DL

/-! DL19: a def with one default. -/
namespace DL
open PySem PySem.Spec PyProof.Rows L2
section
variable {P : Program} {w : World} {K : PySem.W.Frag} {mg : Str → Option Value} {base : Heap} {j k : Nat} {f : Addr} {sp sp' : SpD}
/-- THE RULE for a def with one default: ds are the values of those that are not given -/
theorem fnDef {x qual : Str} {params : Arguments} {body : List Stmt} {scope : Scope} {fd : FuncData} {N ps : List Str} {dvs : List V} {kws : List (Str × V)} {gvs : List V} {gds : List D} (F : FunD K x qual params body scope dvs kws f fd) (S : FnScope N ps scope)
    (hb : ∃ us, Vals gvs us ∧ Binds K fd ps us) (rg : ∀ F, RpL K F gvs gds)
    (hl : ∀ ds μ Q ξ, sp ds μ Q ξ → ds.length = ps.length)
    (hbody : ∀ (cdv : Value) (hcd : cdv = .ref (codeA K f)) (A : Around) (outer : List Env) (s : Shared) (H : Hp) (E : XK) (Φ : Hp) (ξ : Addr → Mo → Prop) (ok : ∀ F H μ c, Same Φ F → RelM K F H μ → ξ c μ → E (.ref c) none H) (ds : List D) (μ : Mo) (Q : DK),
      Room k (A.deeper (envOfC qual scope s.heap.objs.size f cdv)) → sp ds μ Q ξ →
      ∃ d, XSs (cxD P w K mg base N qual scope f cdv A outer s H E) ⟨Φ, E, ξ, ok⟩ body d ∧ d { nx := fun _ μ' => DropQ Q .non μ', rt := DropQ Q } (startD N ds) μ) : FnD P w K mg base (k + 1) f (fun ds => sp (ds ++ gds)) := by
  have hlV : ∀ vs H Q E, spV K sp vs H Q E → vs.length = ps.length := fun vs H Q E ⟨F0, μ, ds, Q', ξ, a, b, c, d⟩ => by rw [b.length]; exact hl _ _ _ _ c
  obtain ⟨us, rv, hb⟩ := hb
  obtain ⟨oc, od, dV, kV, doc, pm, an, cdv, ct, osl, rfl, lk, hcd, _, _⟩ := F.ex
  have F1 : FnOk P w K mg base (L2N.CX P w) (k + 1) f _ ps (spV K sp) := fn_of lk hcd S hlV fun A outer s H vs Q E hr ⟨F0, μ, ds, Q', ξ, R, r, h, kq, kx⟩ => by
    obtain ⟨d, ⟨t, p, z⟩, hd⟩ := hbody cdv (codeA_eq lk rfl hcd) A outer s H E F0 ξ kx ds μ Q' hr h
    refine ⟨t, p, z F0 H _ _ μ _ _ ⟨Same.refl _, R, relS_start r⟩ hd ⟨fun F' H' σ' δ' μ' s1 R1 ⟨μ2, l, q⟩ => ?_, fun F' H' μ' v x s1 R1 r1 ⟨μ2, l, q⟩ => ?_, fun _ _ _ _ _ _ _ q => q, fun _ _ _ _ _ _ _ q => q⟩⟩
    · exact kq F' H' μ2 .non .non s1 (R1.m.drop l) .non q
    · exact kq F' H' μ2 v x s1 (R1.drop l) r1 q
  refine FnR.imp (F1.raw hb rv) fun vs H Q E ⟨F0, μ, ds, Q', ξ, R, r, h, kq, kx⟩ => ?_
  exact ⟨F0, μ, ds ++ gds, Q', ξ, R, r.append (rg F0), h, kq, kx⟩
end
end DL

/-! DL20: a tuple so many times, from none on. -/
namespace L2
open PySem PySem.Spec PyProof.Rows
theorem tuple_mul1 (l : Addr) (items : Array Value) (n : Nat) (dd : Option Addr) (sl : Array (Option Value)) (x : Int) (u : Tok) (c0 : (decide (x < -(2 ^ 63)) || decide (x ≥ 2 ^ 63)) = false) (c1 : (items.isEmpty || x == 1) = true) :
    Meets (Builtin.«tuple.__mul__» ⟨[.ref l, .int x u], []⟩) (fun _ R s => s.heap.get? l = some { cls := .type "tuple", dict := dd, data := .seq items n, slots := sl } ∧
      R (.ok (.ret (Value.ref l))) s) :=
  .of_wp fun prog w A R s h => by
    obtain ⟨hp, g, d, tk, os⟩ := s
    obtain ⟨hl, h⟩ := h
    have f1 := AutoSeq1.idx_int
    wp_walk using wpAny_loadPart' hl
    repeat (first
      | (refine wpAny_ite_false (decide_eq_false (by rw [c0]; exact Bool.false_ne_true)) ?_; wp_walk using wpAny_loadPart' hl)
      | (refine wpAny_ite_true (decide_eq_true c1) ?_; wp_walk using wpAny_loadPart' hl))
    exact ⟨_, rfl, h⟩
theorem tuple_mul0 (l : Addr) (items : Array Value) (n : Nat) (dd : Option Addr) (sl : Array (Option Value)) (x : Int) (u : Tok) (c0 : (decide (x < -(2 ^ 63)) || decide (x ≥ 2 ^ 63)) = false) (c1 : (items.isEmpty || x == 1) = false) (c2 : (decide (x ≤ 0) || items.isEmpty) = true) :
    Meets (Builtin.«tuple.__mul__» ⟨[.ref l, .int x u], []⟩) (fun _ R s => s.heap.get? l = some { cls := .type "tuple", dict := dd, data := .seq items n, slots := sl } ∧
      R (.ok (.ret (Value.ref s.heap.objs.size))) { s with heap := s.heap.push { cls := Value.type "tuple", data := Data.seq #[] }, toks := s.toks }) :=
  .of_wp fun prog w A R s h => by
    obtain ⟨hp, g, d, tk, os⟩ := s
    obtain ⟨hl, h⟩ := h
    have f1 := AutoSeq1.idx_int
    wp_walk using wpAny_loadPart' hl
    repeat (first
      | (refine wpAny_ite_false (decide_eq_false (by rw [c0]; exact Bool.false_ne_true)) ?_; wp_walk using wpAny_loadPart' hl)
      | (refine wpAny_ite_false (decide_eq_false (by rw [c1]; exact Bool.false_ne_true)) ?_; wp_walk using wpAny_loadPart' hl)
      | (refine wpAny_ite_true (decide_eq_true c2) ?_; wp_walk using wpAny_loadPart' hl))
    exact ⟨_, rfl, h⟩
def rRepA (K : PySem.W.Frag) : R2 := fun x y H Q => ∃ l k xs, x = .ref l ∧ y = .int k ∧ SqT K H l xs ∧ xs ≠ [] ∧ 0 ≤ k ∧ k ≤ 1000 ∧ xs.length ≤ 1000 ∧ (k = 1 → Q (.ref l) H) ∧ (k ≠ 1 → ∀ p, H p = none → Q (.ref p) (upd H p (.tup (List.replicate k.toNat xs).flatten)))
section
variable {X : Cx}
theorem op_repA : OpR X (binaryOp .Mult) (rRepA X.K) := by
  intro pins s σ H x y v u Q I rx ry h
  obtain ⟨l, k, xs, rfl, rfl, hT, hne, h0, h2, hz, q1, q2⟩ := h
  by_cases hk : 2 ≤ k
  · exact op_repT pins s σ H _ _ v u Q I rx ry ⟨l, k, xs, rfl, rfl, hT, hne, hk, h2, hz, q2 (by omega)⟩
  cases rx
  obtain ⟨t, rfl⟩ := ry
  obtain ⟨its, r, ⟨⟨cls, dd, data, sl⟩, ho, hc, n, hd⟩, hs⟩ := I.tuple hT
  simp only at hc hd
  subst hc hd
  have hle : its.length = xs.length := r.length.symm
  have hn : its ≠ [] := fun e => hne (by
    rw [e] at hle
    exact List.eq_nil_of_length_eq_zero hle.symm)
  have hi : its.toArray.isEmpty = false := by
    cases its with
    | nil => exact absurd rfl hn
    | cons a b => rfl
  have c0 : (decide (k < -(2 ^ 63)) || decide (k ≥ 2 ^ 63)) = false := by
    rw [decide_eq_false (by omega), decide_eq_false (by omega)] <;> rfl
  by_cases h1 : k = 1
  · subst h1
    refine wpAny_binaryOp_repeat_ref (T := "tuple") (U := "int") (by decide) ⟨_, ho, rfl⟩ (fun s' => typeIs_int s' 1 t) noFill_tuple_mul F.fills_int_mul F.slot_int_rmul repeat_tuple F.slot_int_index.lookup
      (call_meets F.slot_int_rmul (typeIs_int s 1 t) F.entry_int_rmul (F.args_int_rmul_2 _ _) (int_rmul_tuple 1 t l its.toArray n dd sl)
        ⟨ho, rfl, ⟨_, ho, rfl⟩, call_meets F.slot_tuple_mul ⟨_, ho, rfl⟩ F.entry_tuple_mul (F.args_tuple_mul_2 _ _) (tuple_mul1 l its.toArray n dd sl 1 t c0 (by rw [hi] <;> rfl)) ⟨ho, ?_⟩⟩)
    exact ⟨.ref l, H, I, rfl, q1 rfl⟩
  · have h00 : k = 0 := by omega
    subst h00
    refine wpAny_binaryOp_repeat_ref (T := "tuple") (U := "int") (by decide) ⟨_, ho, rfl⟩ (fun s' => typeIs_int s' 0 t) noFill_tuple_mul F.fills_int_mul F.slot_int_rmul repeat_tuple F.slot_int_index.lookup
      (call_meets F.slot_int_rmul (typeIs_int s 0 t) F.entry_int_rmul (F.args_int_rmul_2 _ _) (int_rmul_tuple 0 t l its.toArray n dd sl)
        ⟨ho, rfl, ⟨_, ho, rfl⟩, call_meets F.slot_tuple_mul ⟨_, ho, rfl⟩ F.entry_tuple_mul (F.args_tuple_mul_2 _ _) (tuple_mul0 l its.toArray n dd sl 0 t c0 (by rw [hi] <;> rfl) (by rw [hi] <;> rfl)) ⟨ho, ?_⟩⟩)
    refine ⟨.ref s.heap.objs.size, _, I.laid (t' := s.toks) (o := .tup []) (fun b ob q => Heap.get?_push_of_some _ q) (Nat.le_refl _) ?_, rfl, q2 h1 _ (I.hok.fresh (Nat.le_refl _))⟩
    exact ⟨by decide, _, .nil, IsTup.new _ _⟩
end
/-- four in a row -/
def tChain3 (r r' r'' : R2) (ta tb tc td : TE) : TE := fun σ H Q => ta σ H fun x H1 => tb σ H1 fun y H2 => r x y H2 fun z H3 => ∃ k, z = .bl k ∧
  (if k = true then tc σ H3 fun w' H4 => r' y w' H4 fun z' H5 => ∃ k', z' = .bl k' ∧ (if k' = true then td σ H5 fun u' H6 => r'' w' u' H6 Q else Q (.bl false) H5) else Q (.bl false) H3)
section
variable {X : Cx} {a b c d : Expr} {ta tb tc td : TE}
theorem pt_chain3 {op op' op'' : CmpOp} {r r' r'' : R2} (ho : OpR X (compareOp op) r) (ho' : OpR X (compareOp op') r') (ho'' : OpR X (compareOp op'') r'') (ha : PE X a ta) (hb : PE X b tb) (hc : PE X c tc) (hd : PE X d td)
    (hm : lastMarks [op, op', op''] [b, c, d] = false := by with_unfolding_all rfl) : PT X (.Compare a [op, op', op''] [b, c, d] pos) (tTest (tChain3 r r' r'' ta tb tc td)) := by
  refine ⟨fun pins s σ H Q I h => ?_⟩
  refine isTrue_chain (thn (ha.run pins s σ H _ I h) fun v s1 ⟨x, H1, I1, r1, q1⟩ => test_link (thn (hb.run pins s1 σ H1 _ I1 q1) fun u s2 ⟨y, H2, I2, r2, q2⟩ =>
    thn (ho pins s2 σ H2 x y v u _ I2 r1 r2 q2) fun d s3 ⟨z, H3, I3, r3, k, e, q3⟩ => ?_)) hm
  subst e
  cases r3
  refine wpAny_truthy_bool ?_
  cases k with
  | false =>
    obtain ⟨k', e', q'⟩ := q3
    cases e'
    exact ite_ff ⟨H3, I3, q'⟩
  | true =>
    refine ite_tt (test_link (thn (hc.run pins s3 σ H3 _ I3 q3) fun w' s4 ⟨z', H4, I4, r4, q4⟩ => thn (ho' pins s4 σ H4 y z' u w' _ I4 r2 r4 q4) fun d' s5 ⟨z2, H5, I5, r5, k2, e2, q5⟩ => ?_))
    subst e2
    cases r5
    refine wpAny_truthy_bool ?_
    cases k2 with
    | false =>
      obtain ⟨k', e', q'⟩ := q5
      cases e'
      exact ite_ff ⟨H5, I5, q'⟩
    | true =>
      refine ite_tt (test_last (thn (hd.run pins s5 σ H5 _ I5 q5) fun w6 s6 ⟨z6, H6, I6, r6, q6⟩ => thn (ho'' pins s6 σ H6 z' z6 w' w6 _ I6 r4 r6 q6) fun d7 s7 ⟨z7, H7, I7, r7, k7, e7, q7⟩ => ?_))
      subst e7
      cases r7
      exact wpAny_truthy_bool ⟨H7, I7, q7⟩
end
end L2
namespace DL
open PySem PySem.Spec PyProof.Rows L2
section
variable {X : Cx}
/-- a tuple so many times -/
def fRepA : DO := fun x y μ Q => ∃ xs k, x = .tup xs ∧ y = .int k ∧ xs ≠ [] ∧ 0 ≤ k ∧ k ≤ 1000 ∧ xs.length ≤ 1000 ∧ Q (.tup (List.replicate k.toNat xs).flatten) μ
theorem xo_repA : XO X (binaryOp .Mult) fRepA := by
  refine ⟨_, op_repA, fun F H μ v w x y Q' Q R r1 r2 ⟨xs, n, e1, e2, hne, h1, h2, h3, q⟩ k => ?_⟩
  subst e1 e2
  have r1' := r1
  obtain ⟨a, vs, rfl, ha, ta, _⟩ := rpT R r1
  cases r2
  refine ⟨a, n, vs, rfl, rfl, SqT.of ha, fun e => hne ?_, h1, h2, by rw [ta.length]; exact h3, fun e => ?_, fun _ p hp => ?_⟩
  · subst e; cases ta; rfl
  · subst e
    have e2 : (List.replicate (1 : Int).toNat xs).flatten = xs := by simp
    rw [e2] at q
    exact k F H μ _ _ (Same.refl _) R r1' q
  · have s := same_upd (o := .tup (List.replicate n.toNat vs).flatten) (R.freeF hp)
    exact k _ _ μ _ _ s (R.laid hp _) (.tup upd_same ((rpl_rep ta _).mono s)) q
end
def dChain3 (f f' f'' : DO) (da db dc dd : DE) : DE := fun δ μ Q => da δ μ fun x μ1 => db δ μ1 fun y μ2 => f x y μ2 fun z μ3 => ∃ k, z = .bl k ∧
  (if k = true then dc δ μ3 fun w μ4 => f' y w μ4 fun z' μ5 => ∃ k', z' = .bl k' ∧ (if k' = true then dd δ μ5 fun u μ6 => f'' w u μ6 Q else Q (.bl false) μ5) else Q (.bl false) μ3)
section
variable {X : Cx} {G : Gx X.K} {a b c d : Expr} {da db dc dd : DE} {f f' f'' : DO}
theorem xt_chain3 {op op' op'' : CmpOp} (ho : XO X (compareOp op) f) (ho' : XO X (compareOp op') f') (ho'' : XO X (compareOp op'') f'') (ha : XE X G a da) (hb : XE X G b db) (hc : XE X G c dc) (hd : XE X G d dd)
    (hm : lastMarks [op, op', op''] [b, c, d] = false := by with_unfolding_all rfl) : XT X G (.Compare a [op, op', op''] [b, c, d] pos) (dB (dChain3 f f' f'' da db dc dd)) := by
  obtain ⟨r, hr, sr⟩ := ho
  obtain ⟨r', hr', sr'⟩ := ho'
  obtain ⟨r'', hr'', sr''⟩ := ho''
  obtain ⟨ta, pa, sa⟩ := ha
  obtain ⟨tb, pb, sb⟩ := hb
  obtain ⟨tc, pc, sc⟩ := hc
  obtain ⟨td, pd, sd⟩ := hd
  refine ⟨_, pt_chain3 hr hr' hr'' pa pb pc pd hm, simTest ?_⟩
  intro F H σ δ μ Q' Q R h k
  refine sa F H σ δ μ _ _ R h fun F1 H1 μ1 v x s1 R1 r1 q1 => ?_
  refine sb F1 H1 σ δ μ1 _ _ R1 q1 fun F2 H2 μ2 w y s2 R2 r2 q2 => ?_
  refine sr F2 H2 μ2 v w x y _ _ R2.m (r1.mono s2) r2 q2 fun F3 H3 μ3 u z s3 R3 r3 q3 => ?_
  obtain ⟨kk, e, q3⟩ := q3
  subst e
  cases r3
  refine ⟨kk, rfl, ?_⟩
  have R3' := R2.to s3 R3
  cases kk with
  | false => exact k F3 H3 μ3 _ _ ((s1.trans s2).trans s3) R3' .bl q3
  | true =>
    refine sc F3 H3 σ δ μ3 _ _ R3' q3 fun F4 H4 μ4 w' y' s4 R4 r4 q4 => ?_
    refine sr' F4 H4 μ4 _ _ _ _ _ _ R4.m ((r2.mono s3).mono s4) r4 q4 fun F5 H5 μ5 u5 z5 s5 R5 r5 q5 => ?_
    obtain ⟨k5, e5, q5⟩ := q5
    subst e5
    cases r5
    refine ⟨k5, rfl, ?_⟩
    have R5' := R4.to s5 R5
    cases k5 with
    | false => exact k F5 H5 μ5 _ _ ((((s1.trans s2).trans s3).trans s4).trans s5) R5' .bl q5
    | true =>
      refine sd F5 H5 σ δ μ5 _ _ R5' q5 fun F6 H6 μ6 w6 y6 s6 R6 r6 q6 => ?_
      refine sr'' F6 H6 μ6 _ _ _ _ _ _ R6.m ((r4.mono s5).mono s6) r6 q6 fun F7 H7 μ7 u7 z7 s7 R7 r7 q7 => ?_
      exact k F7 H7 μ7 u7 z7 ((((((s1.trans s2).trans s3).trans s4).trans s5).trans s6).trans s7) (R6.to s7 R7) r7 q7
end
end DL

/-! DL21: xs[::-1] of a tuple, of a list. -/
namespace L2
open PySem PySem.Spec PyProof.Rows HT
section
variable {prog : Program} {w : World} {A : Around} {E : Value → Shared → Prop} {s : Shared}
theorem adjust_rev (n : Nat) : Builtin.Slice.sliceAdjust none none (-1) (n : Int) = ((n : Int) - 1, -1) := by
  unfold Builtin.Slice.sliceAdjust
  simp
theorem places_rev (n : Nat) : Builtin.Slice.slicePlaces ((n : Int) - 1) (-1) (-1) = n := by
  unfold Builtin.Slice.slicePlaces
  have h1 : ¬ ((-1 : Int) > 0) := by omega
  simp only [h1, if_false, Int.neg_neg, Int.ediv_one]
  split <;> omega
theorem sliceApplied_rev {sl : Addr} {vs : Value} {n : Nat} {Q : Int × Int × Nat → Shared → Prop} (hs : s.heap.IsSliceOf sl .none .none vs) (ps : IsPart vs (some (-1)))
    (h : Q ((n : Int) - 1, -1, n) s) : wpAny (model prog w) A (Builtin.Slice.sliceApplied (.ref sl) (pure (n : Int))) Q E s := by
  obtain ⟨os, hos, hcs, hds⟩ := id hs
  unfold Builtin.Slice.sliceApplied Builtin.Slice.sliceFields
  refine wpAny_bind (wpAny_bind (wpAny_field hos hds (x := .none) rfl (wpAny_bind (wpAny_field hos hds (x := .none) rfl (wpAny_bind (wpAny_field hos hds (x := vs) rfl (wpAny_pure ?_)))))))
  refine wpAny_bind (slicePart_ ps ?_)
  show wpAny _ _ (if ((-1 : Int) == 0) = true then _ else _) _ _ s
  rw [if_neg (by decide)]
  refine wpAny_bind (slicePart_none (wpAny_bind (slicePart_none (wpAny_bind (wpAny_pure ?_)))))
  show wpAny _ _ (match Builtin.Slice.sliceAdjust none none (-1) (n : Int) with | (lo, hi) => pure (lo, (-1 : Int), Builtin.Slice.slicePlaces lo hi (-1))) _ _ s
  rw [adjust_rev n]
  show wpAny _ _ (pure ((n : Int) - 1, (-1 : Int), Builtin.Slice.slicePlaces ((n : Int) - 1) (-1) (-1))) _ _ s
  rw [places_rev]
  exact wpAny_pure h
theorem pick_rev (xs : Array Value) : ((List.range xs.size).filterMap fun (m : Nat) => xs[(((xs.size : Nat) : Int) - 1 + (m : Int) * -1).toNat]?).toArray = xs.toList.reverse.toArray := by
  congr 1
  apply List.ext_getElem?
  intro k
  have e : ∀ m ∈ List.range xs.size, xs[(((xs.size : Nat) : Int) - 1 + (m : Int) * -1).toNat]? = some (xs.toList.reverse.getD m .none) := fun m hm => by
    have hm := List.mem_range.mp hm
    have e1 : (((xs.size : Nat) : Int) - 1 + (m : Int) * -1).toNat = xs.size - 1 - m := by omega
    rw [e1, List.getD_eq_getElem?_getD, List.getElem?_reverse (by rw [Array.length_toList]; exact hm), Array.length_toList, Array.getElem?_toList, Array.getElem?_eq_getElem (by omega)]
    rfl
  have e2 : ((List.range xs.size).filterMap fun (m : Nat) => xs[(((xs.size : Nat) : Int) - 1 + (m : Int) * -1).toNat]?) = (List.range xs.size).map fun m => xs.toList.reverse.getD m .none := by
    rw [← List.filterMap_eq_map]
    have key : ∀ L : List Nat, (∀ m ∈ L, m ∈ List.range xs.size) → (L.filterMap fun (m : Nat) => xs[(((xs.size : Nat) : Int) - 1 + (m : Int) * -1).toNat]?) = L.filterMap (some ∘ fun m => xs.toList.reverse.getD m .none) := fun L => by
      induction L with
      | nil => intro _; rfl
      | cons m L ih =>
        intro h
        rw [List.filterMap_cons, List.filterMap_cons, e m (h m (List.mem_cons_self ..)), ih fun i hi => h i (List.mem_cons_of_mem _ hi)]
        rfl
    exact key _ fun m hm => hm
  rw [e2, List.getElem?_map]
  by_cases hk : k < xs.size
  · rw [List.getElem?_range hk, List.getElem?_eq_getElem (by rw [List.length_reverse, Array.length_toList]; exact hk)]
    simp only [Option.map_some, List.getD_eq_getElem?_getD]
    rw [List.getElem?_eq_getElem (by rw [List.length_reverse, Array.length_toList]; exact hk)]
    rfl
  · rw [List.getElem?_eq_none (by simpa using hk), List.getElem?_eq_none (by simpa using hk)]
    rfl
theorem getItem_tuple_rev {t sl : Addr} {items : Array Value} {vs : Value} {Q : Value → Shared → Prop} (ht : IsTup s.heap t items) (hs : s.heap.IsSliceOf sl .none .none vs) (ps : IsPart vs (some (-1)))
    (h : Q (.ref s.heap.objs.size) { s with heap := s.heap.push { cls := .type "tuple", data := .seq items.toList.reverse.toArray } })
    (hsz : items.size ≤ sizeLine) : wpAny (model prog w) A (getItem (.ref t) (.ref sl)) Q E s := by
  have htake : sizeOk (.seq items.toList.reverse.toArray) := by
    show items.toList.reverse.toArray.size ≤ sizeLine
    rw [List.size_toArray, List.length_reverse, Array.length_toList]
    exact hsz
  obtain ⟨os, hos, hcs, hds⟩ := id hs
  have hTs : s.TypeIs (.ref sl) "slice" := ⟨os, hos, hcs⟩
  unfold getItem
  try with_reducible refine wpAny_holding ?_
  first | refine wpAny_bind (wpAny_pure ?_) | skip
  refine wpAny_bind (wpAny_sequenceKey ht.typeIs (by decide) ?_)
  refine wpAny_bind (wpAny_callSpecial?_slot (name := Str.ofString "__getitem__") ht.typeIs PyProof.Rows.slot_tuple_getitem
    (wpAny_call_entry PyProof.Rows.slot_tuple_getitem ht.typeIs entry_tuple_getitem ?_ (args_tuple_getitem _ _)))
  show wpAny _ _ (Builtin.Tuple.tupleItemsOf (.ref t) >>= _) _ _ s
  refine wpAny_bind (tupleItemsOf_ ht ?_)
  refine wpAny_bind (wpAny_typeOf hTs ?_)
  rw [if_pos (by decide)]
  refine wpAny_bind (sliceApplied_rev hs ps ?_)
  have hno : ¬ ((((items.size : Nat) : Int) - 1 == 0 && (-1 : Int) == 1 && items.size == items.size) = true) := by
    intro q
    rw [Bool.and_eq_true, Bool.and_eq_true] at q
    exact absurd q.1.2 (by decide)
  show wpAny _ _ (if (((items.size : Nat) : Int) - 1 == 0 && (-1 : Int) == 1 && items.size == items.size) = true then _ else _) _ _ s
  rw [if_neg hno, pick_rev]
  first
    | exact wpAny_bind (m := Builtin.Tuple.tupleExact _) (wpAny_newObj_type (wpAny_pure ⟨_, rfl, wpAny_pure h⟩) htake)
    | exact wpAny_bind (m := Builtin.Tuple.tupleExact _) (wpAny_newObj_type (wpAny_bind (wpAny_pure (wpAny_pure ⟨_, rfl, wpAny_pure h⟩))) htake)
    | exact wpAny_bind (wpAny_bind (m := Builtin.Tuple.tupleExact _) (wpAny_newObj_type (wpAny_pure (wpAny_pure ⟨_, rfl, wpAny_pure h⟩)) htake))
    | exact wpAny_bind (wpAny_bind (m := Builtin.Tuple.tupleExact _) (wpAny_newObj_type (wpAny_pure ⟨_, rfl, wpAny_pure h⟩) htake))
end
section
variable {X : Cx}
def tRevT (K : PySem.W.Frag) (te : TE) : TE := fun σ H Q => te σ H fun x H1 => ∃ a xs, x = .ref a ∧ SqT K H1 a xs ∧ ∀ p, H1 p = none → Q (.ref p) (upd H1 p (.tup xs.reverse))
theorem pe_revT {e : Expr} {te : TE} {k : Nat} {p1 p2 p3 pos : Pos} (he : PE X e te) : PE X (.Subscript e (.Slice none none (some (.UnaryOp .USub (.Constant (.int 1) k p1) p2)) p3) pos) (tRevT X.K te) := by
  refine ⟨fun pins s σ H Q I h => ?_⟩
  refine Subscript_ (thn (he.run pins s σ H _ I h) fun v s1 ⟨x, H1, I1, r1, q1⟩ => ?_)
  obtain ⟨a, xs, ex, hx, q⟩ := q1
  subst ex
  cases r1
  have hst : PO X (some (.UnaryOp .USub (.Constant (.int 1) k p1) p2)) (tPart (tUn (rU fun i => .int (-i)) (tC (.int 1)))) := po_some (pe_un un_neg pe_int)
  refine wpAny_Slice (thn (po_none.run pins s1 σ H1 (fun o H2 => o = none ∧ H2 = H1) I1 ⟨rfl, rfl⟩) fun vl s2 ⟨l, H2, I2, pl, el, e2⟩ => ?_)
  subst el e2
  refine thn (po_none.run pins s2 σ H2 (fun o H3 => o = none ∧ H3 = H2) I2 ⟨rfl, rfl⟩) fun vu s3 ⟨u, H3, I3, pu, eu, e3⟩ => ?_
  subst eu e3
  refine thn (hst.run pins s3 σ H3 (fun o H4 => o = some (-1) ∧ H4 = H3) I3 ⟨1, rfl, -1, rfl, rfl, rfl⟩) fun vs s4 ⟨o, H4, I4, ps, eo, e4⟩ => ?_
  subst eo e4
  have evl : vl = .none := by cases pl; rfl
  have evu : vu = .none := by cases pu; rfl
  subst evl evu
  have I5 : Inv X pins σ H4 { s4 with heap := s4.heap.push { cls := .type "slice", data := .fields #[.none, .none, vs] } } := I4.kept (t' := s4.toks) fun b ob q => Heap.get?_push_of_some _ q
  obtain ⟨its, r, ht, hz⟩ := I5.tuple hx
  have hlen := r.length
  show wpAny (model X.prog X.w) X.A (subscriptTail e (.Slice none none (some (.UnaryOp .USub (.Constant (.int 1) k p1) p2)) p3) (.ref a) (.ref s4.heap.objs.size)) (EP X pins σ Q) X.xe { s4 with heap := s4.heap.push { cls := .type "slice", data := .fields #[.none, .none, vs] } }
  refine tail_any (ops := [.ref a, .ref s4.heap.objs.size]) ht.typeIs (PyProof.Rows.slot_tuple_getitem.lookup) ?_ (by with_unfolding_all rfl)
  refine getItem_tuple_rev ht (Heap.IsSliceOf.new _ .none .none vs) ps ?_ (by rw [List.size_toArray]; omega)
  refine ⟨.ref _, _, I5.laid (t' := s4.toks) (o := .tup xs.reverse) (fun b ob q => Heap.get?_push_of_some _ q) (Nat.le_refl _) ?_, rfl, q _ (I5.hok.fresh (Nat.le_refl _))⟩
  exact ⟨by rw [List.length_reverse]; exact hz, _, r.reverse, IsTup.new _ _⟩
end
end L2
namespace DL
open PySem PySem.Spec PyProof.Rows L2
def dRevT (d : DE) : DE := fun δ μ Q => d δ μ fun x μ1 => ∃ ds, x = .tup ds ∧ Q (.tup ds.reverse) μ1
def dRevL (d : DE) : DE := fun δ μ Q => d δ μ fun x μ1 => ∃ ds, x = .lst ds ∧ Q (.lst ds.reverse) μ1
theorem rpl_rev {K : PySem.W.Frag} {F : Hp} : ∀ {vs : List V} {ds : List D}, RpL K F vs ds → RpL K F vs.reverse ds.reverse
  | _, _, .nil => .nil
  | _, _, .cons r t => by rw [List.reverse_cons, List.reverse_cons]; exact (rpl_rev t).append (.cons r .nil)
section
variable {X : Cx} {G : Gx X.K} {e : Expr} {de : DE} {k : Nat} {p1 p2 p3 pos : Pos}
theorem xe_revT (he : XE X G e de) : XE X G (.Subscript e (.Slice none none (some (.UnaryOp .USub (.Constant (.int 1) k p1) p2)) p3) pos) (dRevT de) := by
  obtain ⟨t, p, s⟩ := he
  refine ⟨_, pe_revT p, fun F H σ δ μ Q' Q R h kk => s F H σ δ μ _ _ R h fun F1 H1 μ1 v x s1 R1 r1 q1 => ?_⟩
  obtain ⟨ds, e, q⟩ := q1
  subst e
  obtain ⟨b, vs, rfl, hb, tb, _⟩ := rpT R1.m r1
  refine ⟨b, vs, rfl, SqT.of hb, fun p hp => ?_⟩
  have s2 := same_upd (o := .tup vs.reverse) (R1.m.freeF hp)
  exact kk _ _ μ1 _ _ (s1.trans s2) (R1.to s2 (R1.m.laid hp _)) (.tup upd_same ((rpl_rev tb).mono s2)) q
theorem xe_revL (he : XE X G e de) : XE X G (.Subscript e (.Slice none none (some (.UnaryOp .USub (.Constant (.int 1) k p1) p2)) p3) pos) (dRevL de) := by
  obtain ⟨t, p, s⟩ := he
  refine ⟨_, pe_revL p, fun F H σ δ μ Q' Q R h kk => s F H σ δ μ _ _ R h fun F1 H1 μ1 v x s1 R1 r1 q1 => ?_⟩
  obtain ⟨ds, e, q⟩ := q1
  subst e
  obtain ⟨b, vs, rfl, hb, tb, _⟩ := rpLst R1.m r1
  refine ⟨b, vs, rfl, SqL.of hb, fun p hp => ?_⟩
  have s2 := same_upd (o := .lst vs.reverse) (R1.m.freeF hp)
  exact kk _ _ μ1 _ _ (s1.trans s2) (R1.to s2 (R1.m.laid hp _)) (.lst upd_same ((rpl_rev tb).mono s2)) q
end
end DL
namespace DL
open PySem PySem.Spec PyProof.Rows L2
theorem iters_rngC {K : PySem.W.Frag} {F : Hp} {lo c : Int} {n : Nat} : Iters K (Itc lo c n) F (rngC lo c n) := fun i F1 H1 μ1 s1 R1 => by
  have hlen : (rngC lo c n).length = n := by unfold rngC; rw [List.length_map, List.length_range]
  refine ⟨fun hi => by rw [hlen] at hi; exact hi, fun x hx => ?_⟩
  have hl : i < n := by have := (List.getElem?_eq_some_iff.mp hx).1; rwa [hlen] at this
  unfold rngC at hx
  rw [List.getElem?_map, List.getElem?_range hl] at hx
  cases hx
  refine ⟨hl, fun w H2 ⟨e2, y⟩ => ?_⟩
  subst e2 y
  exact ⟨F1, Same.refl _, R1, .int⟩
def diRng3 (da : DA) : DI := fun δ μ R => da δ μ fun xs μ1 => ∃ (i j c : Int) (n : Nat), xs = [.int i, .int j, .int c] ∧ RgC i j c n ∧ R (rngC i c n) μ1
section
variable {X : Cx} {G : Gx X.K}
theorem xi_rng3 {tg a b c : Expr} {da : DA} {p pos : Pos} (hm : X.mg "range" = none) (ha : XA X G [a, b, c] da) (hg : Gl X "range" := by rfl) (hs : starEach [a, b, c] X.env = (false, eval a X.env) :: starEach [b, c] X.env := by rfl) (hpl : (backTo pos (starEach [b, c] X.env)).any (·.1) = false := by rfl) : XI X G tg (.Call (.Name "range" p) [a, b, c] [] pos) (diRng3 da) := by
  obtain ⟨t, p, s⟩ := ha
  refine ⟨_, pi_range3 hg hm p hs hpl, fun F H σ δ μ R' R I h k => s F H σ δ μ _ _ I h fun F1 H1 μ1 vs xs s1 R1 r1 ⟨i, j, c, n, e, q1, h1⟩ => ?_⟩
  subst e
  cases r1 with
  | cons r2 r1 =>
    obtain ⟨v, w, rfl, r3, r4⟩ := rpl2 r1
    cases r2; cases r3; cases r4
    exact ⟨i, j, c, n, rfl, q1, k F1 H1 μ1 _ _ s1 R1 iters_rngC h1⟩
end
theorem rngC_get {lo c : Int} {n i : Nat} {x : D} (hx : (rngC lo c n)[i]? = some x) : i < n ∧ x = .int (lo + (i : Nat) * c) := by
  have hlen : (rngC lo c n).length = n := by unfold rngC; rw [List.length_map, List.length_range]
  have hl : i < n := by have := (List.getElem?_eq_some_iff.mp hx).1; rwa [hlen] at this
  unfold rngC at hx
  rw [List.getElem?_map, List.getElem?_range hl] at hx
  cases hx
  exact ⟨hl, rfl⟩
theorem for_rngC {g : DG} {b : DS} {De : DEnds} {δ : Slots} {μ : Mo} {lo c : Int} {n : Nat} (W : Nat → Slots → Mo → Prop) (h0 : W 0 δ μ)
    (hs : ∀ (i : Nat) δ μ, i < n → W i δ μ → g (.int (lo + (i : Nat) * c)) δ μ fun δ2 μ2 => b { De with nx := W (i + 1), ct := W (i + 1), bk := De.nx } δ2 μ2) (he : ∀ δ μ, W n δ μ → De.nx δ μ) : ForIn g b De (rngC lo c n) δ μ :=
  ⟨W, h0, fun i x δ μ hx w => by
    obtain ⟨hl, rfl⟩ := rngC_get hx
    exact hs i δ μ hl w, fun δ μ w => he δ μ (by have e : (rngC lo c n).length = n := by unfold rngC; rw [List.length_map, List.length_range]
                                                 rw [e] at w; exact w)⟩
end DL

/-! DL22: [.. for .. in .. for .. in ..], zip of two tuples. -/
namespace DL
open PySem PySem.Spec PyProof.Rows L2
section
variable {X : Cx} {G : Gx X.K}
def dLc2 (di : DI) (g : DG) (tt : DT) (di1 : DI) (g1 : DG) (tt1 : DT) (te : DE) (vs vs1 : List Nat) : DE := fun δ μ Q => di δ μ fun items μ1 => ∀ L, μ1 L = none → ∃ W : Nat → Mo → Prop, W 0 (updM μ1 L (some (.lst []))) ∧
  (∀ i x μ, items[i]? = some x → W i μ → g x (wipeD δ vs) μ fun δ2 μ2 => tt δ2 μ2 fun b μ3 =>
    if b = true then di1 δ2 μ3 fun items1 μ4 => ∃ W1 : Nat → Mo → Prop, W1 0 μ4 ∧
      (∀ j y μ, items1[j]? = some y → W1 j μ → g1 y (wipeD δ2 vs1) μ fun δ3 μ5 => tt1 δ3 μ5 fun b μ6 =>
        if b = true then te δ3 μ6 fun y μ7 => ∃ acc, μ7 L = some (.lst acc) ∧ acc.length < sizeLine ∧ W1 (j + 1) (updM μ7 L (some (.lst (acc ++ [y])))) else W1 (j + 1) μ6) ∧
      ∀ μ, W1 items1.length μ → W (i + 1) μ
    else W (i + 1) μ3) ∧
  ∀ μ, W items.length μ → ∃ ds, μ L = some (.lst ds) ∧ Q (.lst ds) (updM μ L none)
theorem sim_lc2 {wi wi1 : TI} {tg tg1 : TG} {tt tt1 : TT} {te : TE} {di di1 : DI} {g g1 : DG} {dtt dtt1 : DT} {dte : DE} {is is1 vs vs1 : List Nat} (hv : ∀ i ∈ is, i ∈ vs) (hv1 : ∀ i ∈ is1, i ∈ vs1) (s : SimI X.K G wi di) (z : SimG X.K G.blk is tg g) (zt : SimT X.K G.blk tt dtt)
    (s1' : SimI X.K G.blk wi1 di1) (z1 : SimG X.K G.blk is1 tg1 g1) (zt1 : SimT X.K G.blk tt1 dtt1) (ze : SimE X.K G.blk te dte) :
    SimE X.K G (tLc2 wi tg tt wi1 tg1 tt1 te vs vs1) (dLc2 di g dtt di1 g1 dtt1 dte vs vs1) := by
  intro F H σ δ μ Q' Q R h k
  refine s F H σ δ μ _ _ R h fun F1 H1 μ1 J items s1 R1 it h1 => fun L hL => ?_
  obtain ⟨W, w0, turn, done⟩ := h1 L (R1.m.freeM hL)
  have fL := R1.m.freeF hL
  refine ⟨fun i m H' => ∃ F' μ', m = items.length - i ∧ i ≤ items.length ∧ Same F1 F' ∧ RelM X.K F' H' μ' ∧ W i μ', ⟨items.length, F1, _, rfl, Nat.zero_le _, Same.refl _, R1.m.putL fL .nil, w0⟩, ?_⟩
  rintro i m H2 ⟨F2, μ2, rfl, hi, s2, R2, w2⟩
  obtain ⟨stop, step⟩ := it i F2 H2 μ2 s2 R2
  by_cases hlt : i < items.length
  · obtain ⟨go, yld⟩ := step items[i] (List.getElem?_eq_getElem hlt)
    refine .inr ⟨go, fun H' => ∃ F' μ', Same F1 F' ∧ RelM X.K F' H' μ' ∧ W (i + 1) μ', fun H' ⟨F', μ', a1, a2, a3⟩ => ⟨items.length - (i + 1), by omega, F', μ', rfl, hlt, a1, a2, a3⟩, fun v H3 y => ?_⟩
    obtain ⟨F3, s3, R3, r3⟩ := yld v H3 y
    have s13 := s2.trans s3
    have Rb : Rel X.K G.blk F3 H3 (wipe σ vs) (wipeD δ vs) μ2 := ⟨(R1.fl.trans s13), R3, (relS_wipe (R1.s.mono s13) vs)⟩
    refine z F3 H3 _ _ μ2 v _ _ _ Rb r3 (turn i _ μ2 (List.getElem?_eq_getElem hlt) w2) fun F4 H4 σ4 δ4 μ4 s4 R4 we h4 => ⟨(we vs hv).trans (wipe_wipe vs vs σ fun _ q => q), ?_⟩
    refine zt F4 H4 σ4 δ4 μ4 _ _ R4 h4 fun F5 H5 μ5 b s5 R5 h5 => ?_
    have s15 := (s13.trans s4).trans s5
    cases b with
    | false => exact ⟨F5, μ5, s15, R5.m, h5⟩
    | true =>
      refine s1' F5 H5 σ4 δ4 μ5 _ _ R5 h5 fun F6 H6 μ6 J1 items1 s6 R6 it1 ⟨W1, v0, turn1, done1⟩ => ?_
      have s16 := s15.trans s6
      refine ⟨fun j m H' => ∃ F' μ', m = items1.length - j ∧ j ≤ items1.length ∧ Same F6 F' ∧ RelM X.K F' H' μ' ∧ W1 j μ', ⟨items1.length, F6, μ6, rfl, Nat.zero_le _, Same.refl _, R6.m, v0⟩, ?_⟩
      rintro j m H7 ⟨F7, μ7, rfl, hj, s7, R7, w7⟩
      obtain ⟨stop1, step1⟩ := it1 j F7 H7 μ7 s7 R7
      by_cases hlt1 : j < items1.length
      · obtain ⟨go1, yld1⟩ := step1 items1[j] (List.getElem?_eq_getElem hlt1)
        refine .inr ⟨go1, fun H' => ∃ F' μ', Same F6 F' ∧ RelM X.K F' H' μ' ∧ W1 (j + 1) μ', fun H' ⟨F', μ', a1, a2, a3⟩ => ⟨items1.length - (j + 1), by omega, F', μ', rfl, hlt1, a1, a2, a3⟩, fun v8 H8 y8 => ?_⟩
        obtain ⟨F8, s8, R8, r8⟩ := yld1 v8 H8 y8
        have s68 := s7.trans s8
        have Rb1 : Rel X.K G.blk F8 H8 (wipe σ4 vs1) (wipeD δ4 vs1) μ7 := ⟨(R6.fl.trans s68), R8, (relS_wipe (R6.s.mono s68) vs1)⟩
        refine z1 F8 H8 _ _ μ7 v8 _ _ _ Rb1 r8 (turn1 j _ μ7 (List.getElem?_eq_getElem hlt1) w7) fun F9 H9 σ9 δ9 μ9 s9 R9 we9 h9 => ⟨(we9 vs1 hv1).trans (wipe_wipe vs1 vs1 σ4 fun _ q => q), ?_⟩
        refine zt1 F9 H9 σ9 δ9 μ9 _ _ R9 h9 fun F10 H10 μ10 b10 s10 R10 h10 => ?_
        have s610 := (s68.trans s9).trans s10
        cases b10 with
        | false => exact ⟨F10, μ10, s610, R10.m, h10⟩
        | true =>
          refine ze F10 H10 σ9 δ9 μ10 _ _ R10 h10 fun F11 H11 μ11 v11 x11 s11 R11 r11 ⟨acc, ha, hl, h11⟩ => ?_
          obtain ⟨f6, ws, e6, t6⟩ := R11.m.mu L _ ha
          exact ⟨ws, e6, by rw [t6.length]; exact hl, F11, _, s610.trans s11, R11.m.putL f6 (t6.snoc r11), h11⟩
      · have e : j = items1.length := by omega
        subst e
        exact .inl ⟨stop1 (Nat.le_refl _), F7, μ7, s16.trans s7, R7, done1 μ7 w7⟩
  · have e : i = items.length := by omega
    subst e
    refine .inl ⟨stop (Nat.le_refl _), ?_⟩
    obtain ⟨ds, hd, q⟩ := done μ2 w2
    obtain ⟨F3, s3, R3, r3⟩ := R2.freeze hd
    exact k F3 H2 _ _ _ ((s1.trans s2).trans s3) (R1.to (s2.trans s3) R3) r3 q
variable {scope : Scope}
theorem blkI {tg iter : Expr} {d : DI} (h : ∀ (s : Shared) (H : Hp) (C : Addr) (cl : List (Str × Addr)) (fp : List Addr), XI (BX X scope s H C cl fp) G.blk tg iter d) :
    ∃ te, (∀ (s : Shared) (H : Hp) (C : Addr) (cl : List (Str × Addr)) (fp : List Addr), PI (BX X scope s H C cl fp) tg iter te) ∧ SimI X.K G.blk te d := by
  refine ⟨fun σ H R => ∀ (s0 : Shared) (H0 : Hp) (C : Addr) (cl : List (Str × Addr)) (fp : List Addr) (pins : List (Addr × Obj)) (s : Shared), Inv (BX X scope s0 H0 C cl fp) pins σ H s →
    wpAny (model X.prog X.w) X.A (eval iter (compEnvC scope cl C X.env)) (fun v s1 => wpAny (model X.prog X.w) X.A (pyIter v) (PIE (BX X scope s0 H0 C cl fp) pins σ tg R) (BX X scope s0 H0 C cl fp).xe s1) (BX X scope s0 H0 C cl fp).xe s, fun s0 H0 C cl fp => ⟨fun pins s σ H R I h => h s0 H0 C cl fp pins s I⟩, ?_⟩
  intro F H σ δ μ R' R Rl q k s0 H0 C cl fp pins s I
  obtain ⟨t, p, z⟩ := h s0 H0 C cl fp
  exact p.run pins s σ H R I (z F H σ δ μ R' R Rl q k)
theorem xe_lc2 {pos : Pos} {elt tg iter tg1 iter1 : Expr} {ifs ifs1 : List Expr} (own : List (Str × Nat)) (vs1 : List Nat) {di di1 : DI} {g g1 : DG} {dtt dtt1 : DT} {dte : DE} {is is1 : List Nat} (hN : X.N.Nodup) (ok : BlkOk X.N X.env.scope scope own) (hi : XI X G tg iter di)
    (hg : ∀ (s : Shared) (H : Hp) (C : Addr) (cl : List (Str × Addr)) (fp : List Addr), XG (BX X scope s H C cl fp) G.blk tg is g) (ht : ∀ (s : Shared) (H : Hp) (C : Addr) (cl : List (Str × Addr)) (fp : List Addr), XTs (BX X scope s H C cl fp) G.blk ifs dtt)
    (hi1 : ∀ (s : Shared) (H : Hp) (C : Addr) (cl : List (Str × Addr)) (fp : List Addr), XI (BX X scope s H C cl fp) G.blk tg1 iter1 di1)
    (hg1 : ∀ (s : Shared) (H : Hp) (C : Addr) (cl : List (Str × Addr)) (fp : List Addr), XG (BX X scope s H C cl fp) G.blk tg1 is1 g1) (ht1 : ∀ (s : Shared) (H : Hp) (C : Addr) (cl : List (Str × Addr)) (fp : List Addr), XTs (BX X scope s H C cl fp) G.blk ifs1 dtt1)
    (he : ∀ (s : Shared) (H : Hp) (C : Addr) (cl : List (Str × Addr)) (fp : List Addr), XE (BX X scope s H C cl fp) G.blk elt dte)
    (hv : ∀ i ∈ is, i ∈ own.map (·.2) := by decide) (hv1 : ∀ i ∈ is1, i ∈ vs1 := by decide) (hv2 : ∀ i ∈ vs1, i ∈ own.map (·.2) := by decide) (hc : X.calm = true := by rfl) (hs : ∀ x, foldedSetIterable iter X.env x = pure x := by intro _; rfl) (hs1 : ∀ env x, foldedSetIterable iter1 env x = pure x := by intro _ _; rfl) :
    XE X G (.ListComp elt [⟨tg, iter, ifs, 0⟩, ⟨tg1, iter1, ifs1, 0⟩] scope pos) (dLc2 di g dtt di1 g1 dtt1 dte (own.map (·.2)) vs1) := by
  obtain ⟨wi, p, s⟩ := hi
  obtain ⟨tg', pg, z⟩ := blkG hg
  obtain ⟨tt, pt, zt⟩ := blkT ht
  obtain ⟨wi1, p1, z1⟩ := blkI hi1
  obtain ⟨tg1', pg1, y1⟩ := blkG hg1
  obtain ⟨tt1, pt1, yt1⟩ := blkT ht1
  obtain ⟨te, pe, ze⟩ := blkE he
  exact ⟨_, pe_lc2 hc hN p ok hv2 pg pt p1 pg1 pt1 pe hs hs1, sim_lc2 hv hv1 s z zt z1 y1 yt1 ze⟩
/-- pairs of two tuples -/
def zipD : List D → List D → List D
  | d :: ds, e :: es => .tup [d, e] :: zipD ds es
  | _, _ => []
theorem zipD_get : ∀ (ds es : List D) (i : Nat) (x : D), (zipD ds es)[i]? = some x → ∃ d e, ds[i]? = some d ∧ es[i]? = some e ∧ x = .tup [d, e]
  | [], es, i, x, h => by simp [zipD] at h
  | d :: ds, [], i, x, h => by simp [zipD] at h
  | d :: ds, e :: es, 0, x, h => by
    have e0 : some (D.tup [d, e]) = some x := h
    cases e0
    exact ⟨d, e, rfl, rfl, rfl⟩
  | d :: ds, e :: es, i + 1, x, h => zipD_get ds es i x h
theorem zipD_len : ∀ (ds es : List D), (zipD ds es).length = min ds.length es.length
  | [], es => by simp [zipD]
  | d :: ds, [] => by simp [zipD]
  | d :: ds, e :: es => by unfold zipD; rw [List.length_cons, zipD_len ds es, List.length_cons, List.length_cons]; omega
theorem iters_zipT {K : PySem.W.Frag} {F : Hp} {a b : Addr} {vs ws : List V} {ds es : List D} (h : F a = some (.tup vs)) (r : RpL K F vs ds) (h' : F b = some (.tup ws)) (r' : RpL K F ws es) : Iters K (RZ.ItzT K a b) F (zipD ds es) := fun i F1 H1 μ1 s1 R1 => by
  have e := SqT.of (K := K) (R1.sub _ _ (s1 _ _ h))
  have e' := SqT.of (K := K) (R1.sub _ _ (s1 _ _ h'))
  refine ⟨fun hi => ⟨vs, ws, e, e', ?_⟩, fun x hx => ?_⟩
  · rw [zipD_len, ← r.length, ← r'.length] at hi
    omega
  · obtain ⟨d, d', hd, hd', rfl⟩ := zipD_get ds es i x hx
    obtain ⟨v, hv, rv⟩ := r.get hd
    obtain ⟨v', hv', rv'⟩ := r'.get hd'
    refine ⟨⟨vs, ws, v, v', e, e', hv, hv'⟩, fun u H2 ⟨T, x1, y1, e1, nT, e2, hx1, hy1⟩ => ?_⟩
    subst e1 e2
    have q1 := hx1 vs e
    have q2 := hy1 ws e'
    rw [hv] at q1
    rw [hv'] at q2
    cases q1; cases q2
    have s2 := same_upd (o := .tup [v, v']) (R1.freeF nT)
    exact ⟨_, s2, R1.laid nT _, .tup upd_same (.cons ((rv.mono s1).mono s2) (.cons ((rv'.mono s1).mono s2) .nil))⟩
def diZip (da : DA) : DI := fun δ μ R => da δ μ fun xs μ1 => ∃ ds es, xs = [.tup ds, .tup es] ∧ R (zipD ds es) μ1
theorem xi_zip {elts : List Expr} {kk : Nat} {e e2 : Expr} {da : DA} {p pos tpos : Pos} (hm : X.mg "zip" = none) (ha : XA X G [e, e2] da) (hg : Gl X "zip" := by rfl) (hs : starEach [e, e2] X.env = (false, eval e X.env) :: starEach [e2] X.env := by rfl) (hpl : (backTo pos (starEach [e2] X.env)).any (·.1) = false := by rfl) : XI X G (.Tuple elts kk tpos) (.Call (.Name "zip" p) [e, e2] [] pos) (diZip da) := by
  obtain ⟨t, q, s⟩ := ha
  refine ⟨_, RZ.pi_zipA hg hm q hs hpl, fun F H σ δ μ R' R I h k => s F H σ δ μ _ _ I h fun F1 H1 μ1 vs xs s1 R1 r1 ⟨ds, es, e1, h1⟩ => ?_⟩
  subst e1
  obtain ⟨v, w, rfl, r2, r3⟩ := rpl2 r1
  obtain ⟨a, us, rfl, ha, hu, fa⟩ := rpT R1.m r2
  obtain ⟨b, ws, rfl, hb, hw, fb⟩ := rpT R1.m r3
  exact ⟨a, b, us, ws, rfl, .inr ⟨SqT.of ha, SqT.of hb, k F1 H1 μ1 _ _ s1 R1 (iters_zipT fa hu fb hw) h1⟩⟩
end
end DL
namespace DL
open PySem PySem.Spec PyProof.Rows L2
section
variable {X : Cx} {G : Gx X.K} {scope : Scope}
theorem xe_lc2B {pos : Pos} {elt tg iter tg1 iter1 : Expr} {ifs ifs1 : List Expr} (own : List (Str × Nat)) (vs1 : List Nat) {di di1 : DI} {g g1 : DG} {dtt dtt1 : DT} {dte : DE} {g' g1' : Shared → Hp → Addr → List (Str × Addr) → List Addr → DG} {di1' : Shared → Hp → Addr → List (Str × Addr) → List Addr → DI} {dtt' dtt1' : Shared → Hp → Addr → List (Str × Addr) → List Addr → DT} {dte' : Shared → Hp → Addr → List (Str × Addr) → List Addr → DE} {is is1 : List Nat} (hN : X.N.Nodup) (ok : BlkOk X.N X.env.scope scope own) (hi : XI X G tg iter di)
    (hg : ∀ (s : Shared) (H : Hp) (C : Addr) (cl : List (Str × Addr)) (fp : List Addr), XG (BX X scope s H C cl fp) G.blk tg is (g' s H C cl fp)) (ht : ∀ (s : Shared) (H : Hp) (C : Addr) (cl : List (Str × Addr)) (fp : List Addr), XTs (BX X scope s H C cl fp) G.blk ifs (dtt' s H C cl fp))
    (hi1 : ∀ (s : Shared) (H : Hp) (C : Addr) (cl : List (Str × Addr)) (fp : List Addr), XI (BX X scope s H C cl fp) G.blk tg1 iter1 (di1' s H C cl fp))
    (hg1 : ∀ (s : Shared) (H : Hp) (C : Addr) (cl : List (Str × Addr)) (fp : List Addr), XG (BX X scope s H C cl fp) G.blk tg1 is1 (g1' s H C cl fp)) (ht1 : ∀ (s : Shared) (H : Hp) (C : Addr) (cl : List (Str × Addr)) (fp : List Addr), XTs (BX X scope s H C cl fp) G.blk ifs1 (dtt1' s H C cl fp))
    (he : ∀ (s : Shared) (H : Hp) (C : Addr) (cl : List (Str × Addr)) (fp : List Addr), XE (BX X scope s H C cl fp) G.blk elt (dte' s H C cl fp))
    (eg : ∀ s H C cl fp, g' s H C cl fp = g := by intros; first | rfl | (dsimp only [Cx.blk, Gx.blk]; done) | (dsimp only [Cx.blk, Gx.blk]; rfl)) (et : ∀ s H C cl fp, dtt' s H C cl fp = dtt := by intros; first | rfl | (dsimp only [Cx.blk, Gx.blk]; done) | (dsimp only [Cx.blk, Gx.blk]; rfl)) (ei1 : ∀ s H C cl fp, di1' s H C cl fp = di1 := by intros; first | rfl | (dsimp only [Cx.blk, Gx.blk]; done) | (dsimp only [Cx.blk, Gx.blk]; rfl))
    (eg1 : ∀ s H C cl fp, g1' s H C cl fp = g1 := by intros; first | rfl | (dsimp only [Cx.blk, Gx.blk]; done) | (dsimp only [Cx.blk, Gx.blk]; rfl)) (et1 : ∀ s H C cl fp, dtt1' s H C cl fp = dtt1 := by intros; first | rfl | (dsimp only [Cx.blk, Gx.blk]; done) | (dsimp only [Cx.blk, Gx.blk]; rfl)) (ee : ∀ s H C cl fp, dte' s H C cl fp = dte := by intros; first | rfl | (dsimp only [Cx.blk, Gx.blk]; done) | (dsimp only [Cx.blk, Gx.blk]; rfl))
    (hv : ∀ i ∈ is, i ∈ own.map (·.2) := by decide) (hv1 : ∀ i ∈ is1, i ∈ vs1 := by decide) (hv2 : ∀ i ∈ vs1, i ∈ own.map (·.2) := by decide) (hc : X.calm = true := by rfl) (hs : ∀ x, foldedSetIterable iter X.env x = pure x := by intro _; rfl) (hs1 : ∀ env x, foldedSetIterable iter1 env x = pure x := by intro _ _; rfl) :
    XE X G (.ListComp elt [⟨tg, iter, ifs, 0⟩, ⟨tg1, iter1, ifs1, 0⟩] scope pos) (dLc2 di g dtt di1 g1 dtt1 dte (own.map (·.2)) vs1) :=
  xe_lc2 own vs1 hN ok hi (fun s H C cl fp => by rw [← eg s H C cl fp]; exact hg s H C cl fp) (fun s H C cl fp => by rw [← et s H C cl fp]; exact ht s H C cl fp) (fun s H C cl fp => by rw [← ei1 s H C cl fp]; exact hi1 s H C cl fp)
    (fun s H C cl fp => by rw [← eg1 s H C cl fp]; exact hg1 s H C cl fp) (fun s H C cl fp => by rw [← et1 s H C cl fp]; exact ht1 s H C cl fp) (fun s H C cl fp => by rw [← ee s H C cl fp]; exact he s H C cl fp) hv hv1 hv2 hc hs hs1
theorem xs_setLc2B {i : Nat} {y : Str} {py pos spos : Pos} {elt tg iter tg1 iter1 : Expr} {ifs ifs1 : List Expr} (own : List (Str × Nat)) (vs1 : List Nat) {di di1 : DI} {g g1 : DG} {dtt dtt1 : DT} {dte : DE} {g' g1' : Shared → Hp → Addr → List (Str × Addr) → List Addr → DG} {di1' : Shared → Hp → Addr → List (Str × Addr) → List Addr → DI} {dtt' dtt1' : Shared → Hp → Addr → List (Str × Addr) → List Addr → DT} {dte' : Shared → Hp → Addr → List (Str × Addr) → List Addr → DE} {is is1 : List Nat} (hN : X.N.Nodup)
    (hsw : swapsWith (.ListComp elt [⟨tg, iter, ifs, 0⟩, ⟨tg1, iter1, ifs1, 0⟩] scope pos) (some (.Name y py)) spos.line X.env = pure true) (ok : BlkOk X.N X.env.scope scope own) (hi : XI X G tg iter di)
    (hg : ∀ (s : Shared) (H : Hp) (C : Addr) (cl : List (Str × Addr)) (fp : List Addr), XG (BX X scope s H C cl fp) G.blk tg is (g' s H C cl fp)) (ht : ∀ (s : Shared) (H : Hp) (C : Addr) (cl : List (Str × Addr)) (fp : List Addr), XTs (BX X scope s H C cl fp) G.blk ifs (dtt' s H C cl fp))
    (hi1 : ∀ (s : Shared) (H : Hp) (C : Addr) (cl : List (Str × Addr)) (fp : List Addr), XI (BX X scope s H C cl fp) G.blk tg1 iter1 (di1' s H C cl fp))
    (hg1 : ∀ (s : Shared) (H : Hp) (C : Addr) (cl : List (Str × Addr)) (fp : List Addr), XG (BX X scope s H C cl fp) G.blk tg1 is1 (g1' s H C cl fp)) (ht1 : ∀ (s : Shared) (H : Hp) (C : Addr) (cl : List (Str × Addr)) (fp : List Addr), XTs (BX X scope s H C cl fp) G.blk ifs1 (dtt1' s H C cl fp))
    (he : ∀ (s : Shared) (H : Hp) (C : Addr) (cl : List (Str × Addr)) (fp : List Addr), XE (BX X scope s H C cl fp) G.blk elt (dte' s H C cl fp))
    (hy : X.N[i]? = some y := by rfl) (hyl : X.env.scope.names.lookup y = some .local := by rfl)
    (eg : ∀ s H C cl fp, g' s H C cl fp = g := by intros; first | rfl | (dsimp only [Cx.blk, Gx.blk]; done) | (dsimp only [Cx.blk, Gx.blk]; rfl)) (et : ∀ s H C cl fp, dtt' s H C cl fp = dtt := by intros; first | rfl | (dsimp only [Cx.blk, Gx.blk]; done) | (dsimp only [Cx.blk, Gx.blk]; rfl)) (ei1 : ∀ s H C cl fp, di1' s H C cl fp = di1 := by intros; first | rfl | (dsimp only [Cx.blk, Gx.blk]; done) | (dsimp only [Cx.blk, Gx.blk]; rfl)) (eg1 : ∀ s H C cl fp, g1' s H C cl fp = g1 := by intros; first | rfl | (dsimp only [Cx.blk, Gx.blk]; done) | (dsimp only [Cx.blk, Gx.blk]; rfl)) (et1 : ∀ s H C cl fp, dtt1' s H C cl fp = dtt1 := by intros; first | rfl | (dsimp only [Cx.blk, Gx.blk]; done) | (dsimp only [Cx.blk, Gx.blk]; rfl)) (ee : ∀ s H C cl fp, dte' s H C cl fp = dte := by intros; first | rfl | (dsimp only [Cx.blk, Gx.blk]; done) | (dsimp only [Cx.blk, Gx.blk]; rfl))
    (hv : ∀ i ∈ is, i ∈ own.map (·.2) := by decide) (hv1 : ∀ i ∈ is1, i ∈ vs1 := by decide) (hv2 : ∀ i ∈ vs1, i ∈ own.map (·.2) := by decide) (hc : X.calm = true := by rfl) (hs : ∀ x, foldedSetIterable iter X.env x = pure x := by intro _; rfl) (hs1 : ∀ env x, foldedSetIterable iter1 env x = pure x := by intro _ _; rfl) :
    XS X G (.Assign [.Name y py] (.ListComp elt [⟨tg, iter, ifs, 0⟩, ⟨tg1, iter1, ifs1, 0⟩] scope pos) spos) (dAsg (dLc2 di g dtt di1 g1 dtt1 dte (own.map (·.2)) vs1) (dgName i)) := by
  obtain ⟨wi, p, s⟩ := hi
  obtain ⟨tg', pg, z⟩ := blkG (d := g) fun s H C cl fp => by rw [← eg s H C cl fp]; exact hg s H C cl fp
  obtain ⟨tt, pt, zt⟩ := blkT (d := dtt) fun s H C cl fp => by rw [← et s H C cl fp]; exact ht s H C cl fp
  obtain ⟨wi1, p1, z1⟩ := blkI (d := di1) fun s H C cl fp => by rw [← ei1 s H C cl fp]; exact hi1 s H C cl fp
  obtain ⟨tg1', pg1, y1⟩ := blkG (d := g1) fun s H C cl fp => by rw [← eg1 s H C cl fp]; exact hg1 s H C cl fp
  obtain ⟨tt1, pt1, yt1⟩ := blkT (d := dtt1) fun s H C cl fp => by rw [← et1 s H C cl fp]; exact ht1 s H C cl fp
  obtain ⟨te, pe, ze⟩ := blkE (d := dte) fun s H C cl fp => by rw [← ee s H C cl fp]; exact he s H C cl fp
  refine ⟨_, ps_setLc2 hc hN hy hyl hsw p ok hv2 pg pt p1 pg1 pt1 pe hs hs1, sim_asg (is := [i]) (sim_lc2 hv hv1 s z zt z1 y1 yt1 ze) fun F H σ δ μ v x Q' Q R r h k => k F H _ _ μ (Same.refl _) (R.set i r) WipeEq.set h⟩
/-- a two-for comprehension, once what it walks is known -/
def LcIn2 (g : DG) (tt : DT) (di1 : DI) (g1 : DG) (tt1 : DT) (te : DE) (vs vs1 : List Nat) (Q : DK) (items : List D) (δ : Slots) (μ1 : Mo) : Prop := ∀ L, μ1 L = none → ∃ W : Nat → Mo → Prop, W 0 (updM μ1 L (some (.lst []))) ∧
  (∀ i x μ, items[i]? = some x → W i μ → g x (wipeD δ vs) μ fun δ2 μ2 => tt δ2 μ2 fun b μ3 =>
    if b = true then di1 δ2 μ3 fun items1 μ4 => ∃ W1 : Nat → Mo → Prop, W1 0 μ4 ∧
      (∀ j y μ, items1[j]? = some y → W1 j μ → g1 y (wipeD δ2 vs1) μ fun δ3 μ5 => tt1 δ3 μ5 fun b μ6 =>
        if b = true then te δ3 μ6 fun y μ7 => ∃ acc, μ7 L = some (.lst acc) ∧ acc.length < sizeLine ∧ W1 (j + 1) (updM μ7 L (some (.lst (acc ++ [y])))) else W1 (j + 1) μ6) ∧
      ∀ μ, W1 items1.length μ → W (i + 1) μ
    else W (i + 1) μ3) ∧
  ∀ μ, W items.length μ → ∃ ds, μ L = some (.lst ds) ∧ Q (.lst ds) (updM μ L none)
theorem dLc2_eq {di : DI} {g : DG} {tt : DT} {di1 : DI} {g1 : DG} {tt1 : DT} {te : DE} {vs vs1 : List Nat} {δ : Slots} {μ : Mo} {Q : DK} : dLc2 di g tt di1 g1 tt1 te vs vs1 δ μ Q = di δ μ fun items μ1 => LcIn2 g tt di1 g1 tt1 te vs vs1 Q items δ μ1 := rfl
theorem lc2_flat {α : Type} {g g1 : DG} {di1 : DI} {dte : DE} {vs vs1 : List Nat} {δ : Slots} {μ : Mo} {Q : DK} {l : List (List α)} {encO : List α → D} {enc : α → D} (f : α → D) (hz : l.flatten.length ≤ 16777215)
    (hs : ∀ a ∈ l, ∀ μ' : Mo, Less μ μ' → g (encO a) (wipeD δ vs) μ' fun δ2 μ2 => di1 δ2 μ2 fun items μ4 => μ4 = μ' ∧ items = a.map enc ∧ ∀ b ∈ a, ∀ (μ5 : Mo) (Qy : D → Mo → Prop), Less μ μ5 → Qy (f b) μ5 → g1 (enc b) (wipeD δ2 vs1) μ5 fun δ3 μ6 => dte δ3 μ6 Qy)
    (hmono : ∀ (x : D) (δ : Slots) (μ : Mo) (A B : Slots → Mo → Prop), (∀ δ μ, A δ μ → B δ μ) → g x δ μ A → g x δ μ B) (hmonoI : ∀ (δ : Slots) (μ : Mo) (A B : List D → Mo → Prop), (∀ x μ, A x μ → B x μ) → di1 δ μ A → di1 δ μ B)
    (hQ : ∀ μ', Less μ μ' → Q (.lst (l.flatten.map f)) μ') : LcIn2 g dYes di1 g1 dYes dte vs vs1 Q (l.map encO) δ μ := by
  intro L hL
  have h0 : ∀ {x : Option Mu}, Less μ (updM μ L x) := Less.new hL
  refine ⟨fun i μ' => μ' L = some (.lst ((l.take i).flatten.map f)) ∧ Less μ μ', ⟨updM_same, h0⟩, ?_, ?_⟩
  · rintro i x μ' hx ⟨h1, h2⟩
    rw [List.getElem?_map] at hx
    cases q : l[i]? with
    | none => rw [q] at hx; cases hx
    | some a =>
      rw [q] at hx
      cases hx
      have e := take_snoc q
      have hle : (l.take (i + 1)).flatten.length ≤ 16777215 := by
        refine Nat.le_trans ?_ hz
        have : l.flatten = (l.take (i + 1)).flatten ++ (l.drop (i + 1)).flatten := by rw [← List.flatten_append, List.take_append_drop]
        rw [this, List.length_append]
        omega
      rw [e, List.flatten_append, List.length_append] at hle
      have e1 : ([a] : List (List α)).flatten = a := by simp
      rw [e1] at hle
      refine hmono _ _ _ _ _ (fun δ2 μ2 hb => ?_) (hs a (List.mem_of_getElem? q) μ' h2)
      show dYes δ2 μ2 _
      refine hmonoI _ _ _ _ (fun items μ4 hi => ?_) hb
      obtain ⟨rfl, rfl, hb2⟩ := hi
      refine ⟨fun j μ5 => μ5 L = some (.lst (((l.take i).flatten ++ a.take j).map f)) ∧ Less μ μ5, ⟨by rw [List.take_zero, List.append_nil]; exact h1, h2⟩, ?_, fun μ5 ⟨k1, k2⟩ => ?_⟩
      · rintro j y μ5 hy ⟨k1, k2⟩
        rw [List.getElem?_map] at hy
        cases q2 : a[j]? with
        | none => rw [q2] at hy; cases hy
        | some b =>
          rw [q2] at hy
          cases hy
          have e2 := take_snoc q2
          have hjl := (List.getElem?_eq_some_iff.mp q2).1
          refine hb2 b (List.mem_of_getElem? q2) μ5 _ k2 ⟨_, k1, ?_, ?_, k2.put hL⟩
          · rw [List.length_map, List.length_append, List.length_take, sizeLine_eq]
            omega
          · rw [updM_same, e2]; simp
      · rw [List.length_map, List.take_length] at k1
        exact ⟨by rw [k1, e, List.flatten_append, e1], k2⟩
  · rintro μ' ⟨h1, h2⟩
    rw [List.length_map, List.take_length] at h1
    exact ⟨_, h1, hQ _ (h2.put hL)⟩
end
end DL

/-! DL23: != of instances of a class with the text's own ==. -/
namespace L2
open PySem PySem.Spec PyProof.Rows PySem.SeqAt
section
variable {M : Model} {prog : Program} {w : World} {A : Around} {E : Value → Shared → Prop} {s : Shared} {K : PySem.W.Frag} {x y C f : Addr} {ox oy : Obj} {od od' : Option Obj}
theorem entry_neOwn (hu : A.units < cLine) (X : K.In s.heap) (I : PySem.W.InstAt s.heap x ox C od) (hs : PySem.W.findIn K (.ref C) "__eq__" = some (some (.ref f))) (hf : PySem.W.isFn K (.ref f) = true) {Q : Fin → Shared → Prop}
    (h : wpAny (model prog w) A (call (.ref f) [.ref x, .ref y]) (fun v s' => ∃ b, v = .bool b ∧ Q (.done (.ret (.bool (!b)))) s') E s) :
    wpAny (model prog w) A (Builtin.«object.__ne__» ⟨[.ref x, .ref y], []⟩) Q E s := by
  unfold Builtin.«object.__ne__»
  repeat (first
    | with_reducible refine wpAny_cRoomFor hu ?_
    | (refine wpAny_bind (m := callSpecialIfBound? (.ref x) (Str.ofString "__eq__") [.ref y]) (PySem.W.ifBound_K X I hs hf (wpAny_mono h (fun r s' hr => by
          obtain ⟨b, rfl, hq⟩ := hr
          repeat (first | exact hq | exact wpAny_pure hq | exact wpAny_truthy_bool hq | (refine wpAny_bind (m := truthy (.bool _)) (wpAny_truthy_bool ?_)) | wp_step)) fun _ _ e => e)))
    | wp_step)
theorem call_neOwn (hu : A.in1.units < cLine) (X : K.In s.heap) (I : PySem.W.InstAt s.heap x ox C od) (hm : PySem.W.mroIn K C (.type "object") = some true) (hs : PySem.W.findIn K (.ref C) "__eq__" = some (some (.ref f))) (hf : PySem.W.isFn K (.ref f) = true) {Q : Value → Shared → Prop}
    (h : wpAny (model prog w) A.in1 (call (.ref f) [.ref x, .ref y]) (fun v s' => ∃ b, v = .bool b ∧ Q (.bool (!b)) s') E s) :
    wpAny (model prog w) A (call (.builtin "object.__ne__") [.ref x, .ref y]) Q E s :=
  wpAny_call (codeAny_call_builtin F.cmp_object.ne.plain F.cmpEntry_ne (PySem.W.check_slot F.cmpKind_ne F.cmpSplit_ne (I.type.andThen (PySem.W.looks_mroIn X hm)) (F.cmpArgs_ne _ _) (entry_neOwn hu X I hs hf h)))
theorem ifBound_objNe {args : List Value} {Q : Option Value → Shared → Prop} (X : K.In s.heap) (I : PySem.W.InstAt s.heap x ox C od) (hs : PySem.W.findIn K (.ref C) "__ne__" = some (some (.builtin "object.__ne__")))
    (h : wpAny M A (call (.builtin "object.__ne__") (.ref x :: args)) (fun v => Q (some v)) E s) : wpAny M A (callSpecialIfBound? (.ref x) "__ne__" args) Q E s := by
  simp only [callSpecialIfBound?, bindSpecialIfBound?]
  refine wpAny_holding (wpAny_bind (wpAny_bind (wpAny_bind (I.type.here ((PySem.W.looks_findIn X hs).here ?_)))))
  refine wpAny_bind (wpAny_askSetting (wpAny_ite ?_))
  have fin : wpAny M A (call (.builtin "object.__ne__") ([.ref x] ++ args) >>= fun v => pure (some v)) Q E s := wpAny_bind (wpAny_mono h (fun v s' h' => wpAny_pure h') fun _ _ h' => h')
  split
  · exact wpAny_bind (wpAny_of_eq (F.cmp_object.ne.bind _) (wpAny_pure (by exact fin)))
  · exact wpAny_tryCatch (wpAny_bind (wpAny_of_eq (F.cmp_object.ne.bind _) (wpAny_pure (by exact fin))))
theorem rc_neOwn {Q : Value → Shared → Prop} (hu0 : A.units < cLine) (hu : A.in1.units < cLine) (X : K.In s.heap) (I : PySem.W.InstAt s.heap x ox C od) (J : PySem.W.InstAt s.heap y oy C od') (hm : PySem.W.mroIn K C (.type "object") = some true) (hn : PySem.W.findIn K (.ref C) "__ne__" = some (some (.builtin "object.__ne__")))
    (hs : PySem.W.findIn K (.ref C) "__eq__" = some (some (.ref f))) (hf : PySem.W.isFn K (.ref f) = true)
    (h : wpAny (model prog w) A.in1 (call (.ref f) [.ref x, .ref y]) (fun v s' => ∃ b, v = .bool b ∧ Q (.bool (!b)) s') E s) : wpAny (model prog w) A (richCompare .NotEq (.ref x) (.ref y)) Q E s := by
  have one : wpAny (model prog w) A (tryCompare (.ref x) (cmpInfo .NotEq).2.1 (.ref y)) (fun r s' => ∃ v, r = some v ∧ Q v s') E s := by
    unfold tryCompare
    refine wpAny_bind (ifBound_objNe X I hn (call_neOwn hu X I hm hs hf (wpAny_mono h (fun v s' hv => ?_) fun _ _ e => e)))
    obtain ⟨b, rfl, hq⟩ := hv
    exact ⟨b, rfl, wpAny_pure ⟨_, rfl, hq⟩⟩
  unfold richCompare
  simp only [oneThing_ref]
  refine wpAny_holding (wpAny_bind (wpAny_cRoomFor hu0 ?_))
  refine wpAny_bind (I.type.here (wpAny_bind (J.type.here ?_)))
  split
  · rename_i q
    simp at q
  · refine wpAny_bind (wpAny_pure ?_)
    simp only [Bool.false_eq_true, if_false]
    refine wpAny_bind (wpAny_mono one (fun r s' z => ?_) fun _ _ e => e)
    obtain ⟨v, rfl, hq⟩ := z
    exact wpAny_pure hq
end
end L2
namespace L2
open PySem PySem.Spec PyProof.Rows
section
variable {X : Cx} {n : Nat} {C f : Addr}
def rNeOwn (C : Addr) (sv : Sp) (E : XK) : R2 := fun x y H Q => ∃ a b dx dy fs gs, x = .ref a ∧ y = .ref b ∧ H a = some (.ins C dx fs) ∧ H b = some (.ins C dy gs) ∧ sv [.ref a, .ref b] H (fun v H' => ∃ k, v = .bl k ∧ Q (.bl (!k)) H') E
theorem op_neOwn {CX : CXT} {sv : Sp} {E : XK} (Fn : FnR X.prog X.w X.K X.mg X.base CX n f sv) (hr : Room (n + 1) X.A) (hx : Passes CX X E) (hm : PySem.W.mroIn X.K C (.type "object") = some true) (hn : PySem.W.findIn X.K (.ref C) "__ne__" = some (some (.builtin "object.__ne__")))
    (hs : PySem.W.findIn X.K (.ref C) "__eq__" = some (some (.ref f))) (hf : PySem.W.isFn X.K (.ref f) = true) : OpR X (compareOp .NotEq) (rNeOwn C sv E) := by
  intro pins s σ H x y v u Q I rx ry h
  obtain ⟨a, b, dx, dy, fs, gs, rfl, rfl, ha, hb, q⟩ := h
  cases rx
  cases ry
  obtain ⟨mA, J, _⟩ := ins_get I.hok ha
  obtain ⟨mB, J', _⟩ := ins_get I.hok hb
  obtain ⟨od, J, _⟩ := J.look
  obtain ⟨od', J', _⟩ := J'.look
  show wpAny (model X.prog X.w) X.A (richCompare .NotEq (.ref a) (.ref b)) (EP X pins σ Q) X.xe s
  have e0 : Env0 X.prog X.w X.K X.mg X.base X.A.in1 X.stack s H := by
    have e := I.env0
    exact ⟨e.frames, e.mod, e.bs, e.bsz, e.funs, e.frf, e.hok, e.bare⟩
  have r2 : Vals [V.ref a, V.ref b] [Value.ref a, Value.ref b] := .cons rfl (.cons rfl .nil)
  refine rc_neOwn hr.units0 hr.in1.units0 I.kIn J J' hm hn hs hf (wpAny_call (codeAny_mono (Fn X.A.in1 X.stack s H [.ref a, .ref b] [.ref a, .ref b] _ E hr.in1 e0 r2 q) fun r s' hq => ?_))
  cases r with
  | error e => exact hx pins σ H s e s' I hq
  | ok fl =>
    cases fl with
    | ret w =>
      obtain ⟨z, H', I', rz, k, ez, qz⟩ := I.after hq
      subst ez
      cases rz
      exact ⟨k, rfl, .bl (!k), H', I', rfl, qz⟩
    | next => exact False.elim hq
    | brk => exact False.elim hq
    | cont => exact False.elim hq
end
end L2
namespace DL
open PySem PySem.Spec PyProof.Rows L2
section
variable {X : Cx} {n : Nat} {f : Addr} {sp : SpD}
/-- != of two rules, by their own == -/
def fNeRule (sp : SpD) : DO := fun x y μ Q => (∃ c b c' b', x = .rule c b ∧ y = .rule c' b') ∧ sp [x, y] μ (fun z μ' => ∃ k, z = .bl k ∧ Q (.bl (!k)) μ') fun _ _ => False
theorem xo_neRule {E : XK} (Fn : FnD X.prog X.w X.K X.mg X.base n f sp) (hr : Room (n + 1) X.A) (hm : PySem.W.mroIn X.K (He.ga X.K "Rule") (.type "object") = some true) (hn : PySem.W.findIn X.K (.ref (He.ga X.K "Rule")) "__ne__" = some (some (.builtin "object.__ne__")))
    (hs : PySem.W.findIn X.K (.ref (He.ga X.K "Rule")) "__eq__" = some (some (.ref f))) (hf : PySem.W.isFn X.K (.ref f) = true) (hx : Passes (L2N.CX X.prog X.w) X E := by first | exact passD | exact passLN) : XO X (compareOp .NotEq) (fNeRule sp) := by
  refine ⟨_, op_neOwn Fn hr hx hm hn hs hf, fun F H μ v w x y Q' Q R r1 r2 ⟨⟨c, b, c', b', e1, e2⟩, h⟩ k => ?_⟩
  subst e1 e2
  have r1' := r1
  have r2' := r2
  cases r1 with
  | rule q1 =>
    cases r2 with
    | rule q2 =>
      refine ⟨_, _, _, _, _, _, rfl, rfl, R.sub _ _ q1, R.sub _ _ q2, F, μ, [.rule c b, .rule c' b'], _, _, R, .cons r1' (.cons r2' .nil), h, fun F3 H3 μ3 v z s3 R3 r3 q3 => ?_, fun F3 H3 μ3 c s3 R3 q3 => q3.elim⟩
      obtain ⟨k', e, q⟩ := q3
      subst e
      cases r3
      exact ⟨k', rfl, k F3 H3 μ3 _ _ s3 R3 .bl q⟩
end
end DL
namespace DL
open PySem PySem.Spec PyProof.Rows L2
def neqB1 (o : Option (Option Value)) : Bool := match o with | some (some (.builtin n)) => n == "object.__ne__" | _ => false
def neqB2 (o : Option (Option Value)) (f : Addr) : Bool := match o with | some (some (.ref g)) => g == f | _ => false
def neqB (K : PySem.W.Frag) : Bool := decide (PySem.W.mroIn K (He.ga K "Rule") (.type "object") = some true) && (neqB1 (PySem.W.findIn K (.ref (He.ga K "Rule")) "__ne__") && (neqB2 (PySem.W.findIn K (.ref (He.ga K "Rule")) "__eq__") (He.ma K (He.ga K "Rule") "__eq__") && PySem.W.isFn K (.ref (He.ma K (He.ga K "Rule") "__eq__"))))
structure NeqT (K : PySem.W.Frag) : Prop where
  m : PySem.W.mroIn K (He.ga K "Rule") (.type "object") = some true
  n : PySem.W.findIn K (.ref (He.ga K "Rule")) "__ne__" = some (some (.builtin "object.__ne__"))
  e : PySem.W.findIn K (.ref (He.ga K "Rule")) "__eq__" = some (some (.ref (He.ma K (He.ga K "Rule") "__eq__")))
  f : PySem.W.isFn K (.ref (He.ma K (He.ga K "Rule") "__eq__")) = true
theorem neqB_ok {K : PySem.W.Frag} (h : neqB K = true) : NeqT K := by
  obtain ⟨h1, h⟩ := He.ba h
  obtain ⟨h2, h⟩ := He.ba h
  obtain ⟨h3, h4⟩ := He.ba h
  refine ⟨of_decide_eq_true h1, ?_, ?_, h4⟩
  · revert h2
    unfold neqB1
    split
    · rename_i n e
      intro h
      rw [e, eq_of_beq h]
    · intro h; cases h
  · revert h3
    unfold neqB2
    split
    · rename_i g e
      intro h
      rw [e, eq_of_beq h]
    · intro h; cases h
end DL

/-! DL24: == by the text's own ==, whatever stands right; a property whose getter is any def. -/
namespace L2
open PySem PySem.Spec PyProof.Rows PySem.SeqAt
section
variable {M : Model} {prog : Program} {w : World} {A : Around} {E : Value → Shared → Prop} {s : Shared} {K : PySem.W.Frag} {x C f : Addr} {y tb : Value} {ox : Obj} {od : Option Obj}
theorem rc_eqOwn {Q : Value → Shared → Prop} (hu0 : A.units < cLine) (X : K.In s.heap) (I : PySem.W.InstAt s.heap x ox C od) (hT : ∀ Q' : Value → Shared → Prop, Q' tb s → wpAny (model prog w) A (typeOf y) Q' E s)
    (hsub : tb = .ref C ∨ PySem.W.subIn K tb (.ref C) = some false) (hs : PySem.W.findIn K (.ref C) "__eq__" = some (some (.ref f))) (hf : PySem.W.isFn K (.ref f) = true)
    (h : wpAny (model prog w) A (call (.ref f) [.ref x, y]) (fun v s' => ∃ b, v = .bool b ∧ Q (.bool b) s') E s) : wpAny (model prog w) A (richCompare .Eq (.ref x) y) Q E s := by
  have one : wpAny (model prog w) A (tryCompare (.ref x) (cmpInfo .Eq).2.1 y) (fun r s' => ∃ v, r = some v ∧ Q v s') E s := by
    unfold tryCompare
    refine wpAny_bind (PySem.W.ifBound_K X I hs hf (wpAny_mono h (fun v s' hv => ?_) fun _ _ e => e))
    obtain ⟨b, rfl, hq⟩ := hv
    exact wpAny_pure ⟨_, rfl, hq⟩
  unfold richCompare
  simp only [oneThing_ref]
  refine wpAny_holding (wpAny_bind (wpAny_cRoomFor hu0 ?_))
  refine wpAny_bind (I.type.here (wpAny_bind (hT _ ?_)))
  split
  · rename_i q
    rcases hsub with hsub | hsub
    · subst hsub
      simp at q
    · refine wpAny_bind ((PySem.W.looks_subIn X hsub).here ?_)
      simp only [Bool.false_eq_true, if_false]
      refine wpAny_bind (wpAny_mono one (fun r s' z => ?_) fun _ _ e => e)
      obtain ⟨v, rfl, hq⟩ := z
      exact wpAny_pure hq
  · refine wpAny_bind (wpAny_pure ?_)
    simp only [Bool.false_eq_true, if_false]
    refine wpAny_bind (wpAny_mono one (fun r s' z => ?_) fun _ _ e => e)
    obtain ⟨v, rfl, hq⟩ := z
    exact wpAny_pure hq
end
section
variable {X : Cx} {n : Nat} {C f : Addr}
/-- what stands right of an own ==: an instance of the same class, or a tuple -/
def EqRt (C : Addr) (y : V) (H : Hp) : Prop := (∃ b dy gs, y = .ref b ∧ H b = some (.ins C dy gs)) ∨ ∃ b vs, y = .ref b ∧ H b = some (.tup vs)
def rEqOwn (C : Addr) (sv : Sp) (E : XK) : R2 := fun x y H Q => ∃ a dx fs, x = .ref a ∧ H a = some (.ins C dx fs) ∧ EqRt C y H ∧ sv [x, y] H (fun v H' => ∃ k, v = .bl k ∧ Q (.bl k) H') E
theorem op_eqOwn {CX : CXT} {sv : Sp} {E : XK} (Fn : FnR X.prog X.w X.K X.mg X.base CX n f sv) (hr : Room n X.A) (hx : Passes CX X E)
    (hs : PySem.W.findIn X.K (.ref C) "__eq__" = some (some (.ref f))) (hf : PySem.W.isFn X.K (.ref f) = true) : OpR X (compareOp .Eq) (rEqOwn C sv E) := by
  intro pins s σ H x y v u Q I rx ry h
  obtain ⟨a, dx, fs, rfl, ha, hy, q⟩ := h
  cases rx
  obtain ⟨mA, J, _⟩ := ins_get I.hok ha
  obtain ⟨od, J, _⟩ := J.look
  have run : wpAny (model X.prog X.w) X.A (call (.ref f) [.ref a, u]) (fun v s' => ∃ b, v = .bool b ∧ EP X pins σ Q (.bool b) s') X.xe s := by
    refine wpAny_mono (Q := EP X pins σ fun v H' => ∃ k, v = V.bl k ∧ Q (V.bl k) H') (wpAny_call (run_fnR (us := [.ref a, u]) (vs := [.ref a, y]) Fn hr hx I (.cons rfl (.cons ry .nil)) q)) (fun v s' hq => ?_) fun _ _ e => e
    obtain ⟨z, H', I', rz, k, ez, qz⟩ := hq
    subst ez
    cases rz
    exact ⟨k, rfl, .bl k, H', I', rfl, qz⟩
  show wpAny (model X.prog X.w) X.A (richCompare .Eq (.ref a) u) (EP X pins σ Q) X.xe s
  rcases hy with ⟨b, dy, gs, rfl, hb⟩ | ⟨b, vs, rfl, hb⟩
  · cases ry
    obtain ⟨mB, J', _⟩ := ins_get I.hok hb
    obtain ⟨od', J', _⟩ := J'.look
    exact rc_eqOwn (tb := .ref C) hr.units0 I.kIn J (fun Q' hq => J'.type.here hq) (.inl rfl) hs hf run
  · cases ry
    obtain ⟨its, rv, hl, _⟩ := I.tuple (SqT.of hb)
    obtain ⟨o, ho, hc, _⟩ := hl
    refine rc_eqOwn (tb := .type "tuple") hr.units0 I.kIn J (fun Q' hq => wpAny_typeOf ⟨o, ho, hc⟩ hq) (.inr ?_) hs hf run
    show (fastBuiltinMro "tuple").map (·.contains (.ref C)) = some false
    rfl
/-! ### a property -/
theorem pe_propR {CX : CXT} {k : Nat} {C p g : Addr} {fl : Str} {sv : Sp} {E : XK} {e : Expr} {pos : Pos} {ta : TE} (he : PE X e ta) (c : Cls X.K C) (hp : PropOf X.K C fl p g) (F : FnR X.prog X.w X.K X.mg X.base CX k g sv) (hr : Room (k + 1) X.A) (hx : Passes CX X.nox E)
    (hab : attributeBase e fl X.env (eval e X.env) = eval e X.env) : PE X (.Attribute e fl pos) (fun σ H Q => ta σ H fun x H1 => ∃ a dx fs, x = .ref a ∧ H1 a = some (.ins C dx fs) ∧ sv [.ref a] H1 Q E) := by
  refine ⟨fun pins s σ H Q I h => ?_⟩
  refine attr_of hab (thn (he.run pins s σ H _ I h) fun u s1 ⟨x, H1, I1, rx, a, dx, fs, ex, ea, q⟩ => ?_)
  subst ex
  obtain rfl : u = Value.ref a := rx
  obtain ⟨mA, O, _, _, _, _⟩ := ins_get I1.hok ea
  obtain ⟨od, J, _⟩ := O.look
  obtain ⟨rest, hrec⟩ := hp.rec_
  have I2 := I1.tok (s1.toks + 1)
  have hc : (PySem.W.clsIn X.K C).isSome = true := by
    obtain ⟨cd, hc, _⟩ := PySem.W.any_some c.hd
    rw [hc]
    rfl
  refine PySem.W.get_bind I1.kIn J (PySem.W.plainGet_of (c.get fl)).1 (PySem.W.findObj_data hc hp.at_ hp.get hp.tak) (PySem.W.plainGet_of (c.get fl)).2 (wpAny_call (PySem.W.prop_get (s := { s1 with toks := s1.toks + 1 }) I1.kIn hrec ?_))
  refine codeAny_mono (F X.A.in1 X.stack { s1 with toks := s1.toks + 1 } H1 [.ref a] [.ref a] Q E hr.in1 I2.env0.in1 (.cons rfl .nil) q) fun r s' hq => ?_
  cases r with
  | error er => exact False.elim (hx pins σ H1 { s1 with toks := s1.toks + 1 } er s' (I2.wish _) hq)
  | ok fl =>
    cases fl with
    | ret u =>
      obtain ⟨v, H', I3, rv, q3⟩ := I2.after hq
      show wpAny _ _ (handedOut u) _ _ _
      rw [PySem.W.handedOut_of (handed_of rv)]
      exact wpAny_pure ⟨v, H', I3, rv, q3⟩
    | next => exact False.elim hq
    | brk => exact False.elim hq
    | cont => exact False.elim hq
end
end L2
namespace DL
open PySem PySem.Spec PyProof.Rows L2
section
variable {X : Cx} {G : Gx X.K} {n k : Nat} {f p g : Addr} {sp : SpD} {e : Expr} {pos : Pos} {de : DE}
def fEqRule (sp : SpD) : DO := fun x y μ Q => (∃ c b, x = .rule c b) ∧ ((∃ c b, y = .rule c b) ∨ ∃ ds, y = .tup ds) ∧ sp [x, y] μ (fun z μ' => ∃ k, z = .bl k ∧ Q (.bl k) μ') fun _ _ => False
theorem xo_eqRule {E : XK} (Fn : FnD X.prog X.w X.K X.mg X.base n f sp) (hr : Room n X.A) (hs : PySem.W.findIn X.K (.ref (He.ga X.K "Rule")) "__eq__" = some (some (.ref f))) (hf : PySem.W.isFn X.K (.ref f) = true)
    (hx : Passes (L2N.CX X.prog X.w) X E := by first | exact passD | exact passLN) : XO X (compareOp .Eq) (fEqRule sp) := by
  refine ⟨_, op_eqOwn Fn hr hx hs hf, fun F H μ v w x y Q' Q R r1 r2 ⟨⟨c, b, e1⟩, hy, h⟩ k => ?_⟩
  subst e1
  have r1' := r1
  cases r1 with
  | rule q1 =>
    refine ⟨_, _, _, rfl, R.sub _ _ q1, ?_, F, μ, [.rule c b, y], _, _, R, .cons r1' (.cons r2 .nil), h, fun F3 H3 μ3 v z s3 R3 r3 q3 => ?_, fun F3 H3 μ3 c s3 R3 q3 => q3.elim⟩
    · rcases hy with ⟨c', b', rfl⟩ | ⟨ds, rfl⟩
      · cases r2 with
        | rule q2 => exact .inl ⟨_, _, _, rfl, R.sub _ _ q2⟩
      · obtain ⟨a, vs, rfl, ha, _, _⟩ := rpT R r2
        exact .inr ⟨_, _, rfl, ha⟩
    · obtain ⟨k', e, q⟩ := q3
      subst e
      cases r3
      exact ⟨k', rfl, k F3 H3 μ3 _ _ s3 R3 .bl q⟩
/-- e.f, a property of Rule -/
def dPropF (sp : SpD) (de : DE) : DE := fun δ μ Q => de δ μ fun x μ1 => (∃ c b, x = .rule c b) ∧ sp [x] μ1 Q fun _ _ => False
theorem xe_propF {fl : Str} (he : XE X G e de) (c : Cls X.K (RC X.K)) (hp : PropOf X.K (RC X.K) fl p g) (F : FnD X.prog X.w X.K X.mg X.base k g sp) (hr : Room (k + 1) X.A) (hab : attributeBase e fl X.env (eval e X.env) = eval e X.env := by rfl) : XE X G (.Attribute e fl pos) (dPropF sp de) := by
  obtain ⟨t, p, s⟩ := he
  refine ⟨_, pe_propR (E := E0) p c hp F hr passLN hab, fun F H σ δ μ Q' Q R h k => s F H σ δ μ _ _ R h fun F1 H1 μ1 v x s1 R1 r1 ⟨⟨cc, b, e⟩, h1⟩ => ?_⟩
  subst e
  have r1' := r1
  cases r1 with
  | rule q =>
    refine ⟨_, _, _, rfl, R1.m.sub _ _ q, F1, μ1, [.rule cc b], _, _, R1.m, .cons r1' .nil, h1, fun F3 H3 μ3 v z s3 R3 r3 q3 => k F3 H3 μ3 v z (s1.trans s3) (R1.to s3 R3) r3 q3, fun F3 H3 μ3 c s3 R3 q3 => q3.elim⟩
end
end DL

/-! DL25: list.count of ints, list.index of data. -/
namespace DL
open PySem PySem.Spec PyProof.Rows L2
section
variable {X : Cx} {G : Gx X.K} {o e : Expr} {pos apos : Pos} {de dv : DE}
def dCount (de dv : DE) : DE := fun δ μ Q => de δ μ fun x μ1 => (∃ ds, x = .lst ds) ∧ dv δ μ1 fun y μ2 => ∃ (ns : List Int) (k : Int), x = .lst (ns.map .int) ∧ y = .int k ∧ Q (.int (ns.count k : Nat)) μ2
theorem xe_count (ho : XE X G o de) (hv : XE X G e dv) (hbase : attributeBase o "count" X.env (eval o X.env) = eval o X.env := by rfl)
    (hfew : ((backTo pos (starEach [e] X.env)).all (fun x => !x.1) && (backToKw pos (keywordEach [] X.env)).all (fun x => x.1.isSome)
      && decide ([e].length + ([] : List Keyword).length + (if ([] : List Keyword).isEmpty then 0 else 1) < 30)) = true := by rfl)
    (hline : (apos.endLine == pos.line) = true := by rfl) (hs : starEach [e] X.env = (false, eval e X.env) :: starEach [] X.env := by rfl) (hplain : (backTo pos (starEach [] X.env)).any (·.1) = false := by rfl) :
    XE X G (.Call (.Attribute o "count" apos) [e] [] pos) (dCount de dv) := by
  obtain ⟨t, p, s⟩ := ho
  obtain ⟨u, q, z⟩ := hv
  refine ⟨_, pe_bm PySem.F.plainAttrs_list PySem.F.slot_list_count PySem.F.type_list_count mt_lcount p (pa_cons q pa_nil hs) hbase hfew hline hs hplain, fun F H σ δ μ Q' Q R h k => s F H σ δ μ _ _ R h fun F1 H1 μ1 v x s1 R1 r1 ⟨⟨ds, e⟩, h1⟩ => ?_⟩
  subst e
  obtain ⟨a, vs, rfl, h3, h4, h5⟩ := rpLst R1.m r1
  refine ⟨.inl ⟨rfl, vs, SqL.of h3⟩, z F1 H1 σ δ μ1 _ _ R1 h1 fun F2 H2 μ2 w y s2 R2 r2 ⟨ns, kk, e, e2, h2⟩ => ?_⟩
  cases e
  subst e2
  have e3 := h4.ints
  subst e3
  cases r2
  exact ⟨a, ns, kk, rfl, rfl, SqL.of (R2.m.sub _ _ (s2 _ _ h5)), k F2 H2 μ2 _ _ (s1.trans s2) R2 .int h2⟩
/-- the place of the first that is equal -/
def dIndex (de dv : DE) : DE := fun δ μ Q => de δ μ fun x μ1 => (∃ ds, x = .lst ds) ∧ dv δ μ1 fun y μ2 => ∃ (ds : List D) (qs : List PyData) (p : PyData) (j : Nat) (z : PyData), x = .lst ds ∧ toPyL ds = some qs ∧ toPy y = some p ∧ SeqAt.shaped (.list qs) = true ∧ SeqAt.shaped p = true ∧
  qs[j]? = some z ∧ PyData.eqv z p = true ∧ (∀ (m : Nat) (z' : PyData), m < j → qs[m]? = some z' → PyData.eqv z' p = false) ∧ Q (.int (j : Nat)) μ2
theorem xe_index (ho : XE X G o de) (hv : XE X G e dv) (hu : X.A.units + 65 < cLine) (hbase : attributeBase o "index" X.env (eval o X.env) = eval o X.env := by rfl)
    (hfew : ((backTo pos (starEach [e] X.env)).all (fun x => !x.1) && (backToKw pos (keywordEach [] X.env)).all (fun x => x.1.isSome)
      && decide ([e].length + ([] : List Keyword).length + (if ([] : List Keyword).isEmpty then 0 else 1) < 30)) = true := by rfl)
    (hline : (apos.endLine == pos.line) = true := by rfl) (hs : starEach [e] X.env = (false, eval e X.env) :: starEach [] X.env := by rfl) (hplain : (backTo pos (starEach [] X.env)).any (·.1) = false := by rfl) :
    XE X G (.Call (.Attribute o "index" apos) [e] [] pos) (dIndex de dv) := by
  obtain ⟨t, p, s⟩ := ho
  obtain ⟨u, q, z⟩ := hv
  refine ⟨_, pe_bm PySem.F.plainAttrs_list PySem.F.slot_list_index PySem.F.type_list_index (mt_indexD hu) p (pa_cons q pa_nil hs) hbase hfew hline hs hplain, fun F H σ δ μ Q' Q R h k => s F H σ δ μ _ _ R h fun F1 H1 μ1 v x s1 R1 r1 ⟨⟨ds, e⟩, h1⟩ => ?_⟩
  subst e
  have r1' := r1
  obtain ⟨a, vs, rfl, h3, h4, h5⟩ := rpLst R1.m r1
  refine ⟨.inl ⟨rfl, vs, SqL.of h3⟩, z F1 H1 σ δ μ1 _ _ R1 h1 fun F2 H2 μ2 w y s2 R2 r2 ⟨ds', qs, pp, j, zz, e, e1, e2, hs1, hs2, g1, g2, g3, h2⟩ => ?_⟩
  cases e
  exact ⟨a, w, pp, qs, j, zz, rfl, rfl, (r1'.mono s2).dp R2.m.sub _ (by simp only [toPy]; rw [e1] <;> rfl), r2.dp R2.m.sub _ e2, hs1, hs2, g1, g2, g3, k F2 H2 μ2 _ _ (s1.trans s2) R2 .int h2⟩
end
/-- .. of data in one writing -/
theorem index_en {α : Type} [DecidableEq α] (E : En α) {l : List α} {a : α} {j : Nat} (h1 : l[j]? = some a) (h2 : ∀ m, m < j → l[m]? ≠ some a) (hd : E.dep ≤ 63) :
    ∃ (qs : List PyData) (p : PyData) (z : PyData), toPyL (l.map E.enc) = some qs ∧ toPy (E.enc a) = some p ∧ SeqAt.shaped (.list qs) = true ∧ SeqAt.shaped p = true ∧ qs[j]? = some z ∧ PyData.eqv z p = true ∧ (∀ (m : Nat) (z' : PyData), m < j → qs[m]? = some z' → PyData.eqv z' p = false) := by
  refine ⟨_, _, E.py a, enL_to E l, E.to a, (enLst E).sh (show E.dep + 1 ≤ 64 by omega) l, E.sh (by omega) a, by rw [List.getElem?_map, h1] <;> rfl, (E.eqv a a).mpr rfl, fun m z' hm hz => ?_⟩
  rw [List.getElem?_map] at hz
  cases q : l[m]? with
  | none => rw [q] at hz; cases hz
  | some b =>
    rw [q] at hz
    cases hz
    rw [E.eqd]
    exact decide_eq_false fun e => h2 m hm (by rw [q, e])
end DL

/-! DL26: dicts whose keys are pairs (tuple of ints, int). -/
namespace NKy
open PySem PySem.Spec PyProof.Rows L2
/-- a pair's first as a key of the kit -/
def lk (is : List Int) : List Key := is.map Sum.inl
theorem lk_inj {a b : List Int} (h : lk a = lk b) : a = b := List.map_inj_right (fun x y e => Sum.inl.inj e) |>.mp h
section
variable {P : Program} {w : World}
abbrev km (P : Program) (w : World) : PySem.KeyKind P w Key := mixKind P w
/-- the tuple (is, m) stands at a -/
def At2 (P : Program) (w : World) (h : Heap) (k : List Int × Int) (a : Addr) : Prop :=
  ∃ (ob : Obj) (b : Addr) (v : Value) (n : Nat), h.get? a = some ob ∧ ob.cls = .type "tuple" ∧ ob.data = .seq #[.ref b, v] n ∧ (km P w).is (.inl k.2) v = true ∧ IsTupleKey (km P w) h (lk k.1) b
theorem At2.ty {s : Shared} {k : List Int × Int} {a : Addr} (z : At2 P w s.heap k a) : s.TypeIs (.ref a) "tuple" := by
  obtain ⟨ob, _, _, _, e, c, _⟩ := z
  exact ⟨ob, e, c⟩
theorem At2.same {h : Heap} {a : Addr} {k j : List Int × Int} (z : At2 P w h k a) (y : At2 P w h j a) : k = j := by
  obtain ⟨ob, b, v, n, e, _, d, i, t⟩ := z
  obtain ⟨ob', b', v', n', e', _, d', i', t'⟩ := y
  rw [e] at e'
  cases e'
  rw [d] at d'
  cases d'
  have h1 := lk_inj (t.inj t')
  have h2 := Sum.inl.inj ((km P w).inj _ _ _ i i')
  exact Prod.ext h1 h2
theorem At2.stays {h h' : Heap} {k : List Int × Int} {a d : Addr} {od : Obj} {es : Array DictEntry} {ep : Nat} (z : At2 P w h k a) (e1 : h.get? d = some od) (e2 : od.data = .dict es ep) (sb : Heap.SameBut d h h') : At2 P w h' k a := by
  obtain ⟨ob, b, v, n, e, c, dd, i, t⟩ := z
  have ne : a ≠ d := fun q => by
    rw [q, e1] at e
    cases e
    rw [e2] at dd
    cases dd
  exact ⟨ob, b, v, n, (sb.2 a ne).trans e, c, dd, i, t.keeps e1 e2 sb⟩
def hash2 (P : Program) (w : World) (k : List Int × Int) : Int := reduceHash (Builtin.Tuple.tupleHashOf [tupleKeyHash (km P w) (lk k.1), (km P w).hash (.inl k.2)])
variable {A : Around} {E : Value → Shared → Prop} {s : Shared}
theorem hash_ok {k : List Int × Int} {a : Addr} {Q : Int → Shared → Prop} (hu : A.units + 1 < cLine) (z : At2 P w s.heap k a) (h : Q (hash2 P w k) { s with toks := s.toks + (k.1.length + 3) }) :
    wpAny (model P w) A (pyHash (.ref a)) Q E s := by
  have ty := z.ty
  obtain ⟨ob, b, v, n, e, _, dd, i, t⟩ := z
  unfold pyHash
  first | unfold pyHashByItsType | skip
  first | refine wpAny_bind (wpAny_cRoomFor_or (.inr (by omega)) ?_) | skip
  refine wpAny_bind (wpAny_specialOf ty F.slot_tuple_hash.lookup ?_)
  show wpAny _ _ (if (some (Value.builtin "tuple.__hash__") == some Value.none) = true then _ else _) _ _ _
  rw [if_neg (by rw [beq_builtin_none]; decide)]
  refine wpAny_bind (wpAny_specialOf ty F.slot_tuple_hash.lookup ?_)
  show wpAny _ _ (callSpecialIfBoundUnlessNone? _ _ _ >>= _) _ _ _
  refine wpAny_bind (wpAny_callSpecialIfBoundUnlessNone?_slot ty F.slot_tuple_hash (wpAny_call_entry F.slot_tuple_hash ty F.entry_tuple_hash ?_ (F.args_tuple_hash_1 _)))
  show wpAny _ _ (Builtin.Tuple.tupleItemsOf (.ref a) >>= _) _ _ _
  refine wpAny_bind (wpAny_tupleItemsOf e dd ?_)
  refine wpAny_bind ?_
  rw [← Array.forIn_toList]
  simp only [List.forIn_cons, List.forIn_nil]
  refine wpAny_bind (wpAny_bind (wpAny_pyHash_tuple (knd := km P w) (show A.in1.units < cLine from hu) t (wpAny_pure ?_)))
  refine wpAny_bind (wpAny_bind ((km P w).pyHash i (wpAny_pure ?_)))
  refine wpAny_pure (wpAny_ret_mkInt ?_)
  have el : (#[tupleKeyHash (km P w) (lk k.1)].push ((km P w).hash (.inl k.2))).toList = [tupleKeyHash (km P w) (lk k.1), (km P w).hash (.inl k.2)] := rfl
  have ek : (lk k.1).length = k.1.length := by unfold lk; rw [List.length_map]
  rw [show ((#[].push (tupleKeyHash (km P w) (lk k.1))).push ((km P w).hash (.inl k.2))).toList = [tupleKeyHash (km P w) (lk k.1), (km P w).hash (.inl k.2)] from rfl]
  generalize hT : Builtin.Tuple.tupleHashOf [tupleKeyHash (km P w) (lk k.1), (km P w).hash (.inl k.2)] = hv
  unfold hash2 reduceHash at h
  rw [hT] at h
  show wpAny _ _ (if (decide (-(2 : Int) ^ 63 ≤ hv) && decide (hv < 2 ^ 63)) = true then _ else _) _ _ _
  split
  · rename_i c
    rw [if_pos c] at h
    exact wpAny_pure (by simpa [Nat.add_assoc, ek] using h)
  · rename_i c
    rw [if_neg c] at h
    exact wpAny_bind (wpAny_rule (wpAny_pure (by simpa [Nat.add_assoc, ek] using h)))
theorem eqT_ok {k j : List Int × Int} {a c : Addr} {R : Fin → Shared → Prop} (hu : A.units < cLine) (z : At2 P w s.heap k a) (y : At2 P w s.heap j c) (h : R (.done (.ret (.bool (decide (k = j))))) s) :
    wpAny (model P w) A (Builtin.«tuple.__eq__» ⟨[.ref a, .ref c], []⟩) R E s := by
  have tyc := y.ty
  obtain ⟨o1, b1, v1, n1, e1, _, d1, i1, t1⟩ := z
  obtain ⟨o2, b2, v2, n2, e2, _, d2, i2, t2⟩ := y
  show wpAny _ _ (isInstance (.ref c) (.type "tuple") >>= _) _ _ _
  refine wpAny_bind (wpAny_isInstance tyc isSubtype_tuple_tuple ?_)
  simp only [Bool.not_true, Bool.false_eq_true, if_false]
  refine wpAny_bind (wpAny_tupleItemsOf e1 d1 ?_)
  refine wpAny_bind (wpAny_tupleItemsOf e2 d2 ?_)
  refine wpAny_bind ?_
  have ez : (#[Value.ref b1, v1].toList.zip #[Value.ref b2, v2].toList) = [(Value.ref b1, Value.ref b2), (v1, v2)] := rfl
  rw [ez]
  simp only [List.forIn_cons, List.forIn_nil]
  have e0 : decide (k = j) = (decide (lk k.1 = lk j.1) && decide ((Sum.inl k.2 : Key) = Sum.inl j.2)) := by
    rw [Bool.eq_iff_iff, decide_eq_true_iff, Bool.and_eq_true, decide_eq_true_iff, decide_eq_true_iff]
    exact ⟨fun q => by rw [q]; exact ⟨rfl, rfl⟩, fun q => Prod.ext (lk_inj q.1) (Sum.inl.inj q.2)⟩
  rw [e0] at h
  refine wpAny_bind (wpAny_bind (wpAny_eqBool_tuple (knd := km P w) hu t1 t2 ?_))
  by_cases g1 : lk k.1 = lk j.1
  · rw [decide_eq_true g1] at h ⊢
    simp only [Bool.not_true, Bool.false_eq_true, if_false, Bool.true_and] at h ⊢
    refine wpAny_pure ?_
    refine wpAny_bind (wpAny_bind ((km P w).eqBool i1 i2 ?_))
    by_cases g2 : (Sum.inl k.2 : Key) = Sum.inl j.2
    · rw [decide_eq_true g2] at h ⊢
      simp only [Bool.not_true, Bool.false_eq_true, if_false]
      exact wpAny_pure (wpAny_pure (show wpAny _ _ (ret (.bool true)) _ _ _ from wpAny_pure h))
    · rw [decide_eq_false g2] at h ⊢
      simp only [Bool.not_false, if_true]
      exact wpAny_bind (wpAny_pure (wpAny_pure (wpAny_pure (wpAny_pure h))))
  · rw [decide_eq_false g1] at h ⊢
    simp only [Bool.not_false, if_true, Bool.false_and] at h ⊢
    exact wpAny_bind (wpAny_pure (wpAny_pure (wpAny_pure (wpAny_pure h))))
theorem eqB_ok {k j : List Int × Int} {a c : Addr} {Q : Bool → Shared → Prop} (hu : A.units + 1 < cLine) (z : At2 P w s.heap k a) (y : At2 P w s.heap j c) (h : Q (decide (k = j)) s) : wpAny (model P w) A (eqBool (.ref a) (.ref c)) Q E s := by
  unfold eqBool
  try with_reducible refine wpAny_holding ?_
  show wpAny _ _ (if (Value.ref a == Value.ref c) = true then _ else _) _ _ _
  split
  · rename_i q
    have e : a = c := by
      have := eq_of_beq q
      injection this
    subst e
    have e2 := z.same y
    subst e2
    rw [decide_eq_true rfl] at h
    exact wpAny_bind (wpAny_rule (wpAny_pure h))
  · refine wpAny_bind (wpAny_richCompare_same_room (op := .Eq) z.ty y.ty F.slot_tuple_eq ?_ (by omega))
    exact wpAny_call_entry F.slot_tuple_eq z.ty F.entry_tuple_eq (eqT_ok hu z y ⟨_, rfl, (fun e => nomatch e), wpAny_truthy_bool h⟩) (F.args_tuple_eq_2 _ _)
theorem quiet_ok {k : List Int × Int} {a : Addr} {Q : Bool → Shared → Prop} (z : At2 P w s.heap k a) (h : Q true s) : wpAny (model P w) A (eqIsQuiet 8 (.ref a)) Q E s := by
  have ty := z.ty
  obtain ⟨ob, b, v, n, e, _, dd, i, t⟩ := z
  have tb := t.typeIs
  obtain ⟨o2, its, n2, f1, _, f2, f3⟩ := t
  unfold eqIsQuiet
  refine wpAny_bind (wpAny_specialOf ty F.slot_tuple_eq.lookup ?_)
  show wpAny _ _ (isInstance (.ref a) (.type "tuple") >>= _) _ _ _
  refine wpAny_bind (wpAny_isInstance ty isSubtype_tuple_tuple ?_)
  simp only [Bool.not_true, Bool.false_eq_true, if_false]
  refine wpAny_bind (wpAny_seqItems e dd ?_)
  refine wpAny_bind ?_
  show wpAny _ _ (forIn #[Value.ref b, v] _ _) _ _ _
  rw [← Array.forIn_toList]
  simp only [List.forIn_cons, List.forIn_nil]
  refine wpAny_bind (wpAny_bind ?_)
  have inner : ∀ {Q' : Bool → Shared → Prop}, Q' true s → wpAny (model P w) A (eqIsQuiet 7 (.ref b)) Q' E s := fun {Q'} hq => by
    unfold eqIsQuiet
    refine wpAny_bind (wpAny_specialOf tb F.slot_tuple_eq.lookup ?_)
    show wpAny _ _ (isInstance (.ref b) (.type "tuple") >>= _) _ _ _
    refine wpAny_bind (wpAny_isInstance tb isSubtype_tuple_tuple ?_)
    simp only [Bool.not_true, Bool.false_eq_true, if_false]
    refine wpAny_bind (wpAny_seqItems f1 f2 (wpAny_bind ?_))
    show wpAny _ _ (forIn its _ _) _ _ _
    rw [← Array.forIn_toList]
    refine wpAny_forIn_list _ (fun left acc st => acc.1 = none ∧ st = s ∧ ∀ x ∈ left, carriedByValue x = true) _ ?_ ?_ _ _ ⟨rfl, rfl, f3.byValue⟩
    · rintro x left acc st ⟨g1, rfl, g2⟩
      rw [eqIsQuiet_byValue _ (g2 x (List.mem_cons_self ..))]
      refine wpAny_bind (wpAny_pure ?_)
      simp only [Bool.not_true, Bool.false_eq_true, if_false]
      exact wpAny_pure ⟨rfl, rfl, fun y hy => g2 y (List.mem_cons_of_mem _ hy)⟩
    · rintro ⟨r1, r2⟩ st ⟨g1, rfl, _⟩
      simp only at g1
      subst g1
      exact wpAny_pure hq
  refine inner ?_
  simp only [Bool.not_true, Bool.false_eq_true, if_false]
  refine wpAny_pure (wpAny_bind (wpAny_bind ?_))
  rw [eqIsQuiet_byValue _ ((km P w).byValue _ _ i)]
  refine wpAny_pure ?_
  simp only [Bool.not_true, Bool.false_eq_true, if_false]
  exact wpAny_pure (wpAny_pure (wpAny_pure h))
end
/-- the kind of these keys -/
def kind2 (P : Program) (w : World) : HeapKind P w (List Int × Int) where
  is := At2 P w
  hash := hash2 P w
  draws := fun k => k.1.length + 3
  room := fun A => A.units + 1 < cLine
  inj := fun a b => a.same b
  keeps := fun z a b c => z.stays a b c
  pyHash := fun hu z h => hash_ok hu z h
  eqBool := fun hu a b h => eqB_ok hu a b h
  quiet := fun z h => quiet_ok z h
/-! ### the dict as a tracked object -/
abbrev NE := (List Int × Int) × Addr × V
/-- entries as they stand -/
abbrev Ent : List NE → List ((List Int × Int) × Addr × Value) → Prop := Paired fun p q => p.1 = q.1 ∧ p.2.1 = q.2.1 ∧ RelV p.2.2 q.2.2
def DictN (P : Program) (w : World) (a : Addr) (kvs : List NE) : HO := .ext fun h => ∃ (xs : List ((List Int × Int) × Addr × Value)) (ob : Obj) (es : Array DictEntry) (ep : Nat), Ent kvs xs ∧ h.get? a = some ob ∧ ob.ExactDict ∧ ob.data = .dict es ep ∧
  es.toList = xs.map (entryOfKey (kind2 P w)) ∧ (xs.map (·.1)).Nodup ∧ xs.length ≤ sizeLine ∧ (a == sysModules) = false
/-- the keys' tuples are tracked -/
def Keyed (H : Hp) (kvs : List NE) : Prop := ∀ x ∈ kvs, ∃ b, H x.2.1 = some (.tup [.ref b, .int x.1.2]) ∧ H b = some (.tup ((lk x.1.1).map kV))
section
variable {X : Cx} {pins : List (Addr × Obj)} {σ : L2.St} {H : Hp} {s : Shared} {a b c : Addr} {kvs : List NE}
theorem at2_of {P : Program} {w : World} {h : Heap} {k : List Int × Int} (ok : HOk P w H h) (e1 : H c = some (.tup [.ref b, .int k.2])) (e2 : H b = some (.tup ((lk k.1).map kV))) : At2 P w h k c := by
  have ib := key_of ok e2
  obtain ⟨_, its, r, ob, h1, h2, n, h3⟩ := (show ObjOk P w H h c (.tup [.ref b, .int k.2]) from ok c _ e1)
  cases r with
  | cons r1 r2 =>
    cases r2 with
    | cons r2 r3 =>
      cases r3
      cases r1
      obtain ⟨t, rfl⟩ := r2
      exact ⟨ob, b, _, n, h1, h2, h3, keyIs_int _ t, ib⟩
def valN (kvs : List NE) (k : List Int × Int) : Option V := (kvs.find? fun x => decide (x.1 = k)).map (·.2.2)
def putN (kvs : List NE) (k : List Int × Int) (c : Addr) (v : V) : List NE := if (kvs.any fun x => decide (x.1 = k)) = true then kvs.map (fun x => if x.1 = k then (x.1, x.2.1, v) else x) else kvs ++ [(k, c, v)]
theorem ent_val {k : List Int × Int} : ∀ {kvs : List NE} {xs : List ((List Int × Int) × Addr × Value)}, Ent kvs xs → RelO (valN kvs k) ((atKey xs k).map (·.2))
  | _, _, .nil => True.intro
  | p :: kvs, q :: xs, .cons r t => by
    have ih := ent_val (k := k) t
    obtain ⟨e1, e2, e3⟩ := r
    by_cases h : q.1 = k
    · have h1 : valN (p :: kvs) k = some p.2.2 := by unfold valN; rw [List.find?_cons_of_pos (by simpa using e1.trans h)] <;> rfl
      have h2 : atKey (q :: xs) k = some q.2 := by unfold atKey; rw [List.find?_cons_of_pos (by simpa using h)] <;> rfl
      rw [h1, h2]
      exact e3
    · have h1 : valN (p :: kvs) k = valN kvs k := by unfold valN; rw [List.find?_cons_of_neg (by rw [e1]; simpa using h)]
      have h2 : atKey (q :: xs) k = atKey xs k := by unfold atKey; rw [List.find?_cons_of_neg (by simpa using h)]
      rw [h1, h2]
      exact ih
theorem ent_any {k : List Int × Int} : ∀ {kvs : List NE} {xs : List ((List Int × Int) × Addr × Value)}, Ent kvs xs → (atKey xs k).isSome = kvs.any fun x => decide (x.1 = k)
  | _, _, .nil => rfl
  | p :: kvs, q :: xs, .cons r t => by
    have ih := ent_any (k := k) t
    obtain ⟨e1, _⟩ := r
    by_cases h : q.1 = k
    · have h2 : atKey (q :: xs) k = some q.2 := by unfold atKey; rw [List.find?_cons_of_pos (by simpa using h)] <;> rfl
      rw [h2, List.any_cons, decide_eq_true (e1.trans h)]
      rfl
    · have h2 : atKey (q :: xs) k = atKey xs k := by unfold atKey; rw [List.find?_cons_of_neg (by simpa using h)]
      rw [h2, ih, List.any_cons, decide_eq_false (by rw [e1]; exact h), Bool.false_or]
theorem ent_repl {k : List Int × Int} {v : V} {r : Value} (rv : RelV v r) : ∀ {kvs : List NE} {xs : List ((List Int × Int) × Addr × Value)}, Ent kvs xs → Ent (kvs.map fun x => if x.1 = k then (x.1, x.2.1, v) else x) (xs.map (putAt k r))
  | _, _, .nil => .nil
  | p :: kvs, q :: xs, .cons hq t => by
    refine .cons ?_ (ent_repl rv t)
    obtain ⟨e1, e2, e3⟩ := hq
    show (fun (y : NE) (z : (List Int × Int) × Addr × Value) => y.1 = z.1 ∧ y.2.1 = z.2.1 ∧ RelV y.2.2 z.2.2) (if p.1 = k then (p.1, p.2.1, v) else p) (putAt k r q)
    unfold putAt
    by_cases g : q.1 = k
    · rw [if_pos g, if_pos (e1.trans g)]; exact ⟨e1, e2, rv⟩
    · rw [if_neg g, if_neg (by rw [e1]; exact g)]; exact ⟨e1, e2, e3⟩
theorem ent_keyed {P : Program} {w : World} {h : Heap} (ok : HOk P w H h) : ∀ {kvs : List NE} {xs : List ((List Int × Int) × Addr × Value)}, Ent kvs xs → Keyed H kvs → ∀ x ∈ xs, At2 P w h x.1 x.2.1
  | _, _, .nil, _, x, hx => by cases hx
  | p :: kvs, q :: xs, .cons hq t, hk, x, hx => by
    rcases List.mem_cons.mp hx with rfl | hx
    · obtain ⟨b, e1, e2⟩ := hk p (List.mem_cons_self ..)
      rw [hq.1] at e1 e2
      rw [hq.2.1] at e1
      exact at2_of ok e1 e2
    · exact ent_keyed ok t (fun y hy => hk y (List.mem_cons_of_mem _ hy)) x hx
theorem ent_put {k : List Int × Int} {c : Addr} {v : V} {r : Value} (rv : RelV v r) {kvs : List NE} {xs : List ((List Int × Int) × Addr × Value)} (h : Ent kvs xs) : Ent (putN kvs k c v) (storedH xs k c r) := by
  unfold putN storedH
  rw [ent_any h]
  split
  · exact ent_repl rv h
  · exact Paired.snoc h ⟨rfl, rfl, rv⟩
theorem keyed_put {H : Hp} {kvs : List NE} {k : List Int × Int} {c b : Addr} {v : V} (h : Keyed H kvs) (e1 : H c = some (.tup [.ref b, .int k.2])) (e2 : H b = some (.tup ((lk k.1).map kV))) : Keyed H (putN kvs k c v) := by
  unfold putN
  split
  · intro x hx
    obtain ⟨y, hy, rfl⟩ := List.mem_map.mp hx
    split
    · exact h y hy
    · exact h y hy
  · intro x hx
    rcases List.mem_append.mp hx with hx | hx
    · exact h x hx
    · rw [List.mem_singleton.mp hx]; exact ⟨b, e1, e2⟩
theorem putN_len (kvs : List NE) (k : List Int × Int) (c : Addr) (v : V) : (putN kvs k c v).length ≤ kvs.length + 1 := by
  unfold putN
  split
  · rw [List.length_map]; omega
  · rw [List.length_append]; exact Nat.le_refl _
/-- what is asked of a dict, a key -/
structure Asks (P : Program) (w : World) (H : Hp) (a : Addr) (kvs : List NE) (k : List Int × Int) (c b : Addr) : Prop where
  d : H a = some (DictN P w a kvs)
  ks : Keyed H kvs
  c : H c = some (.tup [.ref b, .int k.2])
  b : H b = some (.tup ((lk k.1).map kV))
theorem dictN_at {P : Program} {w : World} {h : Heap} (ok : HOk P w H h) (e : H a = some (DictN P w a kvs)) (hk : Keyed H kvs) : (a == sysModules) = false ∧ ∃ xs, Ent kvs xs ∧ xs.length ≤ sizeLine ∧ h.DictOfH (kind2 P w) a xs := by
  obtain ⟨⟨xs, ob, es, ep, h1, h2, h3, h4, h5, h6, h7, h8⟩, _, _⟩ := (show ObjOk P w H h a (DictN P w a kvs) from ok a _ e)
  exact ⟨h8, xs, h1, h7, ob, es, ep, h2, h3, h4, h5, ent_keyed ok h1 hk, h6⟩
variable {y v : V} {u r : Value} {k : List Int × Int} {A : Around} {E : Value → Shared → Prop}
theorem getN {Q : Value → Shared → Prop} (hu : A.units + 2 < cLine) (I : Inv X pins σ H s) (g : Asks X.prog X.w H a kvs k c b) (l : valN kvs k = some v) (h : ∀ z s', Inv X pins σ H s' → RelV v z → Q z s') : wpAny (model X.prog X.w) A (getItem (.ref a) (.ref c)) Q E s := by
  obtain ⟨_, xs, rel, _, dd⟩ := dictN_at I.hok g.d g.ks
  obtain ⟨z, hz, rz⟩ := RelO.some_of (v := v) (o := (atKey xs k).map (·.2)) (by rw [← l]; exact ent_val rel)
  obtain ⟨q, hq, rfl⟩ := Option.map_eq_some_iff.mp hz
  exact wpAny_getItem_heap (show A.in1.units + 1 < cLine from hu) (at2_of I.hok g.c g.b) dd hq (h _ _ (I.tok _) rz)
theorem isSome_val : (valN kvs k).isSome = kvs.any fun x => decide (x.1 = k) := by
  unfold valN
  rw [Option.isSome_map]
  induction kvs with
  | nil => rfl
  | cons p ps ih =>
    rw [List.any_cons]
    by_cases h : p.1 = k
    · rw [List.find?_cons_of_pos (by simpa using h), decide_eq_true h]; rfl
    · rw [List.find?_cons_of_neg (by simpa using h), ih, decide_eq_false h, Bool.false_or]
theorem inN {Q : Value → Shared → Prop} (hu : A.units + 2 < cLine) (I : Inv X pins σ H s) (g : Asks X.prog X.w H a kvs k c b) (h : ∀ s', Inv X pins σ H s' → Q (.bool (valN kvs k).isSome) s') : wpAny (model X.prog X.w) A (compareOp .In (.ref c) (.ref a)) Q E s := by
  obtain ⟨hd, xs, rel, _, dd⟩ := dictN_at I.hok g.d g.ks
  refine wpAny_in_heap (show A.in1.units + 1 < cLine from hu) (at2_of I.hok g.c g.b) hd dd ?_
  rw [ent_any rel, ← isSome_val]
  exact h _ (I.tok _)
theorem notInN {Q : Value → Shared → Prop} (hu : A.units + 2 < cLine) (I : Inv X pins σ H s) (g : Asks X.prog X.w H a kvs k c b) (h : ∀ s', Inv X pins σ H s' → Q (.bool (!(valN kvs k).isSome)) s') : wpAny (model X.prog X.w) A (compareOp .NotIn (.ref c) (.ref a)) Q E s := by
  obtain ⟨hd, xs, rel, _, dd⟩ := dictN_at I.hok g.d g.ks
  refine wpAny_notIn_heap (show A.in1.units + 1 < cLine from hu) (at2_of I.hok g.c g.b) hd dd ?_
  rw [ent_any rel, ← isSome_val]
  exact h _ (I.tok _)
theorem dictN_new {H' : Hp} {h' : Heap} {ks : List NE} {xs : List ((List Int × Int) × Addr × Value)} {P : Program} {w : World} (hd : (a == sysModules) = false) (rel : Ent ks xs) (hl : xs.length ≤ sizeLine) (dd : h'.DictOfH (kind2 P w) a xs) : ObjOk P w H' h' a (DictN P w a ks) := by
  obtain ⟨ob, es, ep, h2, h3, h4, h5, _, h6⟩ := dd
  refine ⟨⟨xs, ob, es, ep, rel, h2, h3, h4, h5, h6, hl, hd⟩, ⟨ob, h2⟩, fun h1 h2' z st => ?_⟩
  obtain ⟨xs', ob', es', ep', g1, g2, g3⟩ := z
  exact ⟨xs', ob', es', ep', g1, st _ g2, g3⟩
theorem setN {Q : Unit → Shared → Prop} (hu : A.units + 2 < cLine) (I : Inv X pins σ H s) (g : Asks X.prog X.w H a kvs k c b) (hl : kvs.length < sizeLine) (rv : RelV v r) (h : ∀ s', Inv X pins σ (upd H a (DictN X.prog X.w a (putN kvs k c v))) s' → Q () s') :
    wpAny (model X.prog X.w) A (setItem (.ref a) (.ref c) r) Q E s := by
  obtain ⟨hd, xs, rel, hz, dd⟩ := dictN_at I.hok g.d g.ks
  refine wpAny_setItem_heap (hsz := hz) (show A.in1.units + 1 < cLine from hu) (at2_of I.hok g.c g.b) dd fun h' dd' hs => h _ ?_
  have he : ∃ q, h'.get? a = some q := let ⟨q, _, _, hq, _⟩ := dd'; ⟨q, hq⟩
  have rel2 := ent_put (k := k) (c := c) rv rel
  refine d_write I (by rw [g.d]; exact True.intro) hs he (dictN_new hd rel2 ?_ dd')
  have e1 := putN_len kvs k c v
  rw [← rel2.length]
  omega
end
end NKy
namespace NKy
open PySem PySem.Spec PyProof.Rows L2
section
variable {X : Cx} {o i value : Expr} {pos pos' : Pos} {td ty tv : TE}
def tGetN (P : Program) (w : World) (td ty : TE) : TE := fun σ H Q => td σ H fun x H1 => ty σ H1 fun y H2 => ∃ a c b kvs k v, x = .ref a ∧ y = .ref c ∧ Asks P w H2 a kvs k c b ∧ valN kvs k = some v ∧ Q v H2
def tInN (P : Program) (w : World) (ty td : TE) : TE := fun σ H Q => ty σ H fun y H1 => td σ H1 fun x H2 => ∃ a c b kvs k, x = .ref a ∧ y = .ref c ∧ Asks P w H2 a kvs k c b ∧ Q (.bl (valN kvs k).isSome) H2
def tNotInN (P : Program) (w : World) (ty td : TE) : TE := fun σ H Q => ty σ H fun y H1 => td σ H1 fun x H2 => ∃ a c b kvs k, x = .ref a ∧ y = .ref c ∧ Asks P w H2 a kvs k c b ∧ Q (.bl (!(valN kvs k).isSome)) H2
def sPutN (P : Program) (w : World) (td ty tv : TE) : TS := fun D σ H => tv σ H fun v H1 => td σ H1 fun x H2 => ty σ H2 fun y H3 => ∃ a c b kvs k, x = .ref a ∧ y = .ref c ∧ Asks P w H3 a kvs k c b ∧ kvs.length < sizeLine ∧ D.nx σ (upd H3 a (DictN P w a (putN kvs k c v)))
theorem pe_getN (hu : X.A.units + 2 < cLine) (ho : PE X o td) (hi : PE X i ty) (hs : NoSl i) : PE X (.Subscript o i pos) (tGetN X.prog X.w td ty) := by
  refine ⟨fun pins s σ H Q I h => ?_⟩
  refine subD_of PySem.F.slot_dict_getitem.lookup hs (thn (ho.run pins s σ H _ I h) fun u s1 ⟨x, H1, I1, rx, q1⟩ => thn (hi.run pins s1 σ H1 _ I1 q1) fun iv s2 ⟨y, H2, I2, ry, a, c, b, kvs, k, v, ex, ey, g, l, q2⟩ => ?_)
  subst ex ey
  cases rx
  cases ry
  obtain ⟨_, xs, _, _, dd⟩ := dictN_at I2.hok g.d g.ks
  exact ⟨dd.typeIs, getN hu I2 g l fun z s3 I3 rz => ⟨v, H2, I3, rz, q2⟩⟩
theorem pc_inN (hu : X.A.units + 2 < cLine) (hi : PE X i ty) (ho : PE X o td) : PC X .In i o (tInN X.prog X.w ty td) := by
  refine ⟨fun pins s σ H Q I h => ?_⟩
  refine thn (hi.run pins s σ H _ I h) fun iv s1 ⟨y, H1, I1, ry, q1⟩ => thn (ho.run pins s1 σ H1 _ I1 q1) fun u s2 ⟨x, H2, I2, rx, a, c, b, kvs, k, ex, ey, g, q2⟩ => ?_
  subst ex ey
  cases rx
  cases ry
  exact inN hu I2 g fun s3 I3 => ⟨.bl _, H2, I3, rfl, q2⟩
theorem pc_notInN (hu : X.A.units + 2 < cLine) (hi : PE X i ty) (ho : PE X o td) : PC X .NotIn i o (tNotInN X.prog X.w ty td) := by
  refine ⟨fun pins s σ H Q I h => ?_⟩
  refine thn (hi.run pins s σ H _ I h) fun iv s1 ⟨y, H1, I1, ry, q1⟩ => thn (ho.run pins s1 σ H1 _ I1 q1) fun u s2 ⟨x, H2, I2, rx, a, c, b, kvs, k, ex, ey, g, q2⟩ => ?_
  subst ex ey
  cases rx
  cases ry
  exact notInN hu I2 g fun s3 I3 => ⟨.bl _, H2, I3, rfl, q2⟩
theorem ps_putN (hu : X.A.units + 2 < cLine) (ho : PE X o td) (hi : PE X i ty) (hv : PE X value tv) (hs : swapsWith value (some (.Subscript o i pos')) pos.line X.env = pure false) : PS X (.Assign [.Subscript o i pos'] value pos) (sPutN X.prog X.w td ty tv) := by
  refine ⟨fun pins s σ H D I h => ?_⟩
  refine wpAny_Assign_Subscript (thn (hv.run pins s σ H _ I h) fun r s1 ⟨v, H1, I1, rv, q1⟩ => thn (ho.run pins s1 σ H1 _ I1 q1) fun u s2 ⟨x, H2, I2, rx, q2⟩ => thn (hi.run pins s2 σ H2 _ I2 q2) fun iv s3 ⟨y, H3, I3, ry, a, c, b, kvs, k, ex, ey, g, hl, q3⟩ => ?_) hs
  subst ex ey
  cases rx
  cases ry
  exact setN hu I3 g hl rv fun s4 I4 => ⟨σ, _, I4, q3⟩
theorem pe_newN : PE X (.Dict [] [] pos) (fun _ H Q => ∀ p, H p = none → Q (.ref p) (upd H p (DictN X.prog X.w p []))) := ⟨fun pins s σ H Q I h =>
  wpAny_Dict_empty ⟨.ref s.heap.objs.size, _, I.laid (a := s.heap.objs.size) (o := DictN X.prog X.w s.heap.objs.size []) (t' := s.toks) (fun _ _ q => Heap.get?_push_of_some _ q) (Nat.le_refl _)
    (dictN_new (xs := []) (beq_eq_false_iff_ne.mpr (Ne.symm (Nat.ne_of_lt I.big))) .nil (Nat.zero_le _) ⟨_, #[], 0, Heap.get?_push_size _ rfl, ⟨rfl, rfl, rfl⟩, rfl, rfl, (fun x hx => by cases hx), List.nodup_nil⟩), rfl, h _ (I.hok.fresh (Nat.le_refl _))⟩⟩
end
end NKy
namespace DL
open PySem PySem.Spec PyProof.Rows L2 NKy
abbrev DE2 := List ((List Int × Int) × D)
/-- such a dict among the mutable objects -/
def nkM (P : Program) (w : World) (K : PySem.W.Frag) (kvs : DE2) : Mu := .ext fun a F o => ∃ ks : List NE, o = DictN P w a ks ∧ Paired (fun (p : NE) (q : (List Int × Int) × D) => p.1 = q.1 ∧ Rp K F p.2.2 q.2) ks kvs ∧ Keyed F ks
def keyN (k : List Int × Int) : D := .tup [.tup (k.1.map .int), .int k.2]
def lookN (kvs : DE2) (k : List Int × Int) : Option D := (kvs.find? fun x => decide (x.1 = k)).map (·.2)
def storeN (kvs : DE2) (k : List Int × Int) (d : D) : DE2 := if (kvs.any fun x => decide (x.1 = k)) = true then kvs.map (fun x => if x.1 = k then (x.1, d) else x) else kvs ++ [(k, d)]
section
variable {P : Program} {w : World} {K : PySem.W.Frag} {F F' H : Hp} {μ : Mo} {k : List Int × Int}
theorem keyed_mono {ks : List NE} (s : Same F F') (h : Keyed F ks) : Keyed F' ks := fun x hx => let ⟨b, e1, e2⟩ := h x hx; ⟨b, s _ _ e1, s _ _ e2⟩
theorem nkM_mono {kvs : DE2} : ∀ F1 F2 (o : HO) (a : Addr), Same F1 F2 → (∃ ks : List NE, o = DictN P w a ks ∧ Paired (fun (p : NE) (q : (List Int × Int) × D) => p.1 = q.1 ∧ Rp K F1 p.2.2 q.2) ks kvs ∧ Keyed F1 ks) → ∃ ks : List NE, o = DictN P w a ks ∧ Paired (fun (p : NE) (q : (List Int × Int) × D) => p.1 = q.1 ∧ Rp K F2 p.2.2 q.2) ks kvs ∧ Keyed F2 ks :=
  fun F1 F2 o a s ⟨ks, e, h, hk⟩ => ⟨ks, e, L2.Paired.mapP h fun _ _ q => ⟨q.1, q.2.mono s⟩, keyed_mono s hk⟩
theorem look_rp : ∀ {ks : List NE} {kvs : DE2}, Paired (fun (p : NE) (q : (List Int × Int) × D) => p.1 = q.1 ∧ Rp K F p.2.2 q.2) ks kvs → (∀ d, lookN kvs k = some d → ∃ v, valN ks k = some v ∧ Rp K F v d) ∧ (lookN kvs k = none → valN ks k = none)
  | _, _, .nil => ⟨fun d h => (by cases h), fun _ => rfl⟩
  | p :: ks, q :: kvs, .cons r t => by
    obtain ⟨ih1, ih2⟩ := look_rp t
    obtain ⟨e, rv⟩ := r
    by_cases h : q.1 = k
    · have h1 : lookN (q :: kvs) k = some q.2 := by unfold lookN; rw [List.find?_cons_of_pos (by simpa using h)] <;> rfl
      have h2 : valN (p :: ks) k = some p.2.2 := by unfold valN; rw [List.find?_cons_of_pos (by simpa using e.trans h)] <;> rfl
      rw [h1, h2]
      exact ⟨fun d hd => by cases hd; exact ⟨_, rfl, rv⟩, fun z => by cases z⟩
    · have h1 : lookN (q :: kvs) k = lookN kvs k := by unfold lookN; rw [List.find?_cons_of_neg (by simpa using h)]
      have h2 : valN (p :: ks) k = valN ks k := by unfold valN; rw [List.find?_cons_of_neg (by rw [e]; simpa using h)]
      rw [h1, h2]
      exact ⟨ih1, ih2⟩
theorem look_some {ks : List NE} {kvs : DE2} (h : Paired (fun (p : NE) (q : (List Int × Int) × D) => p.1 = q.1 ∧ Rp K F p.2.2 q.2) ks kvs) : (valN ks k).isSome = (lookN kvs k).isSome := by
  obtain ⟨a, b⟩ := look_rp (k := k) h
  cases e : lookN kvs k with
  | none => rw [b e] <;> rfl
  | some d => obtain ⟨v, hv, _⟩ := a d e; rw [hv] <;> rfl
theorem anyN_rp : ∀ {ks : List NE} {kvs : DE2}, Paired (fun (p : NE) (q : (List Int × Int) × D) => p.1 = q.1 ∧ Rp K F p.2.2 q.2) ks kvs → (ks.any fun x => decide (x.1 = k)) = kvs.any fun x => decide (x.1 = k)
  | _, _, .nil => rfl
  | p :: ks, q :: kvs, .cons r t => by rw [List.any_cons, List.any_cons, anyN_rp t, r.1]
theorem replN_rp {v : V} {d : D} (rv : Rp K F v d) : ∀ {ks : List NE} {kvs : DE2}, Paired (fun (p : NE) (q : (List Int × Int) × D) => p.1 = q.1 ∧ Rp K F p.2.2 q.2) ks kvs →
    Paired (fun (p : NE) (q : (List Int × Int) × D) => p.1 = q.1 ∧ Rp K F p.2.2 q.2) (ks.map fun x => if x.1 = k then (x.1, x.2.1, v) else x) (kvs.map fun x => if x.1 = k then (x.1, d) else x)
  | _, _, .nil => .nil
  | p :: ks, q :: kvs, .cons r t => by
    refine .cons ?_ (replN_rp rv t)
    show (fun (p : NE) (q : (List Int × Int) × D) => p.1 = q.1 ∧ Rp K F p.2.2 q.2) (if p.1 = k then (p.1, p.2.1, v) else p) (if q.1 = k then (q.1, d) else q)
    by_cases h : q.1 = k
    · rw [if_pos h, if_pos (r.1.trans h)]; exact ⟨r.1, rv⟩
    · rw [if_neg h, if_neg (by rw [r.1]; exact h)]; exact r
theorem storeN_rp {v : V} {d : D} {c : Addr} (rv : Rp K F v d) {ks : List NE} {kvs : DE2} (h : Paired (fun (p : NE) (q : (List Int × Int) × D) => p.1 = q.1 ∧ Rp K F p.2.2 q.2) ks kvs) :
    Paired (fun (p : NE) (q : (List Int × Int) × D) => p.1 = q.1 ∧ Rp K F p.2.2 q.2) (putN ks k c v) (storeN kvs k d) := by
  unfold putN storeN
  rw [anyN_rp h]
  split
  · exact replN_rp rv h
  · exact Paired.snoc h ⟨rfl, rv⟩
theorem lk_V (is : List Int) : (lk is).map kV = is.map V.int := by
  unfold lk
  rw [List.map_map]
  rfl
/-- the dict and the key as they stand -/
theorem asksAt {v y : V} {p : Addr} {kvs : DE2} (R : RelM K F H μ) (hm : μ p = some (nkM P w K kvs)) (ry : Rp K F y (keyN k)) : ∃ c b ks, y = .ref c ∧ Asks P w H p ks k c b ∧ F p = none ∧ Paired (fun (p : NE) (q : (List Int × Int) × D) => p.1 = q.1 ∧ Rp K F p.2.2 q.2) ks kvs ∧ Keyed F ks ∧
    F c = some (.tup [.ref b, .int k.2]) ∧ F b = some (.tup ((lk k.1).map kV)) := by
  obtain ⟨f, ⟨o, h1, ks, rfl, h2, h3⟩, _⟩ := R.mu p _ hm
  unfold keyN at ry
  cases ry with
  | tup e1 r1 =>
    rename_i c vs
    cases r1 with
    | cons ra rb =>
      cases rb with
      | cons rb rc =>
        cases rc
        cases rb
        cases ra with
        | tup e2 r2 =>
          have e3 := r2.ints
          subst e3
          rw [← lk_V] at e2
          exact ⟨_, _, ks, rfl, ⟨h1, fun x hx => let ⟨b, a1, a2⟩ := h3 x hx; ⟨b, R.sub _ _ a1, R.sub _ _ a2⟩, R.sub _ _ e1, R.sub _ _ e2⟩, f, h2, h3, e1, e2⟩
end
section
variable {X : Cx} {G : Gx X.K} {o i : Expr} {td ty tv : DE} {pos pos' : Pos}
def NkAt (P : Program) (w : World) (K : PySem.W.Frag) (μ : Mo) (x y : D) (kvs : DE2) (k : List Int × Int) : Prop := (∃ p, x = .ref p ∧ μ p = some (nkM P w K kvs)) ∧ y = keyN k
def dGetN (P : Program) (w : World) (K : PySem.W.Frag) (td ty : DE) : DE := fun δ μ Q => td δ μ fun x μ1 => ty δ μ1 fun y μ2 => ∃ kvs k d, NkAt P w K μ2 x y kvs k ∧ lookN kvs k = some d ∧ Q d μ2
theorem xe_dgetN (hu : X.A.units + 64 < cLine) (ho : XE X G o td) (hi : XE X G i ty) (hs : NoSl i := by exact fun _ _ => rfl) : XE X G (.Subscript o i pos) (dGetN X.prog X.w X.K td ty) := by
  obtain ⟨t, p, s⟩ := ho
  obtain ⟨u, q, z⟩ := hi
  refine ⟨_, pe_getN (by omega) p q hs, fun F H σ δ μ Q' Q R h k => s F H σ δ μ _ _ R h fun F1 H1 μ1 v x s1 R1 r1 h1 => z F1 H1 σ δ μ1 _ _ R1 h1 fun F2 H2 μ2 w y s2 R2 r2 ⟨kvs, kk, d, ⟨⟨p, ex, hm⟩, ey⟩, hg, h2⟩ => ?_⟩
  subst ex ey
  cases r1
  obtain ⟨c, b, ks, rfl, g, f, h3, _⟩ := asksAt (v := .non) R2.m hm r2
  obtain ⟨v, hv, rv⟩ := (look_rp h3).1 d hg
  exact ⟨p, c, b, ks, kk, v, rfl, rfl, g, hv, k F2 H2 μ2 v d (s1.trans s2) R2 rv h2⟩
def dNotInN (P : Program) (w : World) (K : PySem.W.Frag) (ty td : DE) : DT := fun δ μ Q => ty δ μ fun y μ1 => td δ μ1 fun x μ2 => ∃ kvs k, NkAt P w K μ2 x y kvs k ∧ Q (lookN kvs k).isNone μ2
theorem xt_dnotinN (hu : X.A.units + 64 < cLine) (hi : XE X G i ty) (ho : XE X G o td) (hm : behindInMarks .NotIn o = false := by rfl) : XT X G (.Compare i [.NotIn] [o] pos) (dNotInN X.prog X.w X.K ty td) := by
  obtain ⟨t, p, s⟩ := ho
  obtain ⟨u, q, z⟩ := hi
  refine ⟨_, pt_cmp (pc_notInN (by omega) q p) hm, fun F H σ δ μ Q' Q R h k => z F H σ δ μ _ _ R h fun F1 H1 μ1 w y s1 R1 r1 h1 => s F1 H1 σ δ μ1 _ _ R1 h1 fun F2 H2 μ2 v x s2 R2 r2 ⟨kvs, kk, ⟨⟨p, ex, hm⟩, ey⟩, h2⟩ => ?_⟩
  subst ex ey
  cases r2
  obtain ⟨c, b, ks, rfl, g, f, h3, _⟩ := asksAt (v := .non) R2.m hm (r1.mono s2)
  refine ⟨p, c, b, ks, kk, rfl, rfl, g, _, rfl, k F2 H2 μ2 _ (s1.trans s2) R2 ?_⟩
  rw [look_some h3, Option.not_isSome]
  exact h2
def dPutN (P : Program) (w : World) (K : PySem.W.Frag) (td ty tv : DE) : DS := fun D δ μ => tv δ μ fun v μ1 => td δ μ1 fun x μ2 => ty δ μ2 fun y μ3 => ∃ p kvs k, x = .ref p ∧ NkAt P w K μ3 x y kvs k ∧ kvs.length < sizeLine ∧ D.nx δ (updM μ3 p (some (nkM P w K (storeN kvs k v))))
theorem paired_lenN {K : PySem.W.Frag} {F : Hp} : ∀ {ks : List NE} {kvs : DE2}, Paired (fun (p : NE) (q : (List Int × Int) × D) => p.1 = q.1 ∧ Rp K F p.2.2 q.2) ks kvs → ks.length = kvs.length
  | _, _, .nil => rfl
  | _, _, .cons _ t => congrArg (· + 1) (paired_lenN t)
theorem xs_dputN {value : Expr} (hu : X.A.units + 64 < cLine) (ho : XE X G o td) (hi : XE X G i ty) (hv : XE X G value tv) (hs : swapsWith value (some (.Subscript o i pos')) pos.line X.env = pure false := by rfl) :
    XS X G (.Assign [.Subscript o i pos'] value pos) (dPutN X.prog X.w X.K td ty tv) := by
  obtain ⟨t, p, s⟩ := ho
  obtain ⟨u, q, z⟩ := hi
  obtain ⟨t3, p3, s3⟩ := hv
  refine ⟨_, ps_putN (by omega) p q p3 hs, fun F H σ δ μ D' D R h k => s3 F H σ δ μ _ _ R h fun F1 H1 μ1 v v' sa R1 r1 h1 => s F1 H1 σ δ μ1 _ _ R1 h1 fun F2 H2 μ2 x x' sb R2 r2 h2 => z F2 H2 σ δ μ2 _ _ R2 h2 fun F3 H3 μ3 y y' sc R3 r3 ⟨p, kvs, kk, ex, ⟨⟨p', ex', hm⟩, ey⟩, hl, h3⟩ => ?_⟩
  rw [ex] at ex'
  cases ex'
  subst ex ey
  cases r2
  obtain ⟨c, b, ks, rfl, g, f, h4, h5, g1, g2⟩ := asksAt (v := .non) R3.m hm r3
  refine ⟨p, c, b, ks, kk, rfl, rfl, g, by rw [paired_lenN h4]; exact hl, ?_⟩
  exact k.nx F3 _ σ δ _ ((sa.trans sb).trans sc) (R3.to (Same.refl _) (R3.m.put f (show MuAt X.K F3 _ p (nkM X.prog X.w X.K (storeN kvs kk v')) from ⟨⟨_, upd_same, _, rfl, storeN_rp ((r1.mono sb).mono sc) h4, keyed_put h5 g1 g2⟩, fun F1 F2 o s h => nkM_mono F1 F2 o p s h⟩))) h3
def dNewN (P : Program) (w : World) (K : PySem.W.Frag) : DE := fun _ μ Q => ∀ p, μ p = none → Q (.ref p) (updM μ p (some (nkM P w K [])))
theorem xe_dnewN : XE X G (.Dict [] [] pos) (dNewN X.prog X.w X.K) := ⟨_, pe_newN, fun F H σ δ μ Q' Q R h k => fun p hp => k F _ _ _ _ (Same.refl _) (R.to (Same.refl _) (R.m.put (R.m.freeF hp) (show MuAt X.K F (upd H p (DictN X.prog X.w p [])) p (nkM X.prog X.w X.K []) from ⟨⟨_, upd_same, [], rfl, .nil, fun x hx => by cases hx⟩, fun F1 F2 o s h => nkM_mono F1 F2 o p s h⟩))) .ref (h p (R.m.freeM hp))⟩
end
end DL

/-! DL27: a def within a def: made, called there and by itself. -/
namespace DL
open PySem PySem.Spec PyProof.Rows L2 NdefX
section
variable {X : Cx} {st : Stmt} {c P : Addr} {name q : Str} {pos : Pos} {i : Nat}
/-- the functions that the def statement st makes in this frame -/
abbrev mkN (X : Cx) (st : Stmt) (name q : Str) (c : Addr) : NF := NF.of st name q (cloFrom X.env.cells (C8.fnScope st).names []) c
def tDefV (X : Cx) (P : Addr) (st : Stmt) (name q : Str) (i : Nat) (pos : Pos) : TS := fun D σ H => ∃ ps : Array Value, H P = some (.tbl ps) ∧ TriplesOk ps.toList ∧
  (∀ cv, codeAmong pos ps.toList = some cv → ∃ c, cv = .ref c ∧ H c = some (LamX.CodeO c q) ∧ ∀ f, H f = none → D.nx (σ.set i (some (.ref f))) (upd H f (FnO f (mkN X st name q c)))) ∧
  (codeAmong pos ps.toList = none → ∀ f c, H f = none → H c = none → f ≠ c → D.nx (σ.set i (some (.ref f))) (upd (upd (upd H P (.tbl (ps ++ #[rawInt pos.line, rawInt pos.col, .ref c]))) c (LamX.CodeO c q)) f (FnO f (mkN X st name q c))))
theorem ps_defV (hst : st = .FunctionDef name (C8.fnArgs st) (C8.fnBody st) [] none [] (C8.fnScope st) none name pos) (TB : LamX.TabB X.base X.mg c P) (hcode : X.env.code = .ref c) (hq : q = X.env.qual ++ name)
    (hfree : ∀ y ∈ (C8.fnScope st).names, y.2 = .free → X.env.scope.names.lookup y.1 = some .cell ∨ X.env.scope.names.lookup y.1 = some .free) (hd0 : (C8.fnArgs st).defaults = []) (hk0 : (C8.fnArgs st).kw_defaults = []) (ha : annTrees (C8.fnArgs st) none X.env = [])
    (hN : X.N.Nodup) (hi : X.N[i]? = some name) (hx : Loc X.env.scope name) (hf : X.fn name = true ∨ X.env.scope.names.lookup name = some .local) : PS X st (tDefV X P st name q i pos) := by
  have main : PS X (.FunctionDef name (C8.fnArgs st) (C8.fnBody st) [] none [] (C8.fnScope st) none name pos) (tDefV X P st name q i pos) := by
    refine ⟨fun pins s σ H D I h => ?_⟩
    obtain ⟨ps, hP, ht, hit, hno⟩ := h
    have hq2 : qualnameIn X.env name name = q := by
      have hk : X.env.kindOf name = some .local ∨ X.env.kindOf name = some .cell := hx
      rw [hq]
      unfold qualnameIn
      rcases hk with k | k
      · rw [k]; first | rfl | exact if_neg (by decide)
      · rw [k]; first | rfl | exact if_neg (by decide)
    refine PySem.W.nestDef_K hd0 hk0 ha ?_
    rw [hq2]
    have fr : ∀ y ∈ (C8.fnScope st).names, y.2 = .free → ∃ c, X.env.cells.lookup y.1 = some c := fun y hy e => by
      rcases hfree y hy e with z | z
      · exact I.ok.has _ (.inl z)
      · exact I.ok.has _ (.inr z)
    have bP : s.heap.BuiltinsAt X.mg P := TB.bm.keeps I.bk
    have hP2 : s.heap.get? P = some { cls := .none, data := .fields ps } := I.hok P _ hP
    cases hc : codeAmong pos ps.toList with
    | none =>
      refine PySem.W.makeFunction_K (mg := X.mg) (c := c) (P := P) (ps := ps) (closure_ok fr) I.ok.glob (I.mod.glob.keeps I.bk) hcode (TB.code.keeps I.bk) hP2 ht hc TB.gP bP fun c' ctv doc h1 tk hx1 hge hlt hrec htb => ?_
      obtain ⟨c2, oc, vs, t, e2, hoc, hd, hv⟩ := hrec
      cases e2
      have nC : H c' = none := I.hok.fresh hge
      have nF : H h1.objs.size = none := I.hok.fresh (Nat.le_trans hge (Nat.le_of_lt hlt))
      have J := LamX.inv_table (q := q) (t' := tk) (more := #[rawInt pos.line, rawInt pos.col, .ref c']) (h' := h1) I hP (fun b o hb e => hx1 b o hb e) htb hge ⟨oc, vs, t, hoc, hd, hv⟩
      have J2 := inv_fn (F := mkN X st name q c') (t' := tk) (doc := doc) (pm := (X.mg "__name__").getD .none) (ctv := ctv) J rfl
      refine store_ok J2 hN hi hx (v := .ref h1.objs.size) rfl (fun s3 J3 => ⟨_, _, J3, hno hc _ c' nF nC (Nat.ne_of_gt hlt)⟩) hf
    | some cv =>
      obtain ⟨c', e, hco, hQ⟩ := hit cv hc
      subst e
      refine PySem.W.makeFunction_hit (mg := X.mg) (c := c) (P := P) (ps := ps) (closure_ok fr) I.ok.glob (I.mod.glob.keeps I.bk) hcode (TB.code.keeps I.bk) hP2 ht hc bP fun ctv doc h1 tk hx1 hsz => ?_
      have nF : H h1.objs.size = none := I.hok.fresh hsz
      have J : Inv X pins σ H { s with heap := h1, toks := tk } := I.kept hx1
      have J2 := inv_fn (F := mkN X st name q c') (t' := tk) (doc := doc) (pm := (X.mg "__name__").getD .none) (ctv := ctv) J rfl
      refine store_ok J2 hN hi hx (v := .ref h1.objs.size) rfl (fun s3 J3 => ⟨_, _, J3, hQ _ nF⟩) hf
  rw [← hst] at main
  exact main
end
/-- such a function among the mutable objects -/
def fnM (N : NF) : Mu := .ext fun a F o => o = FnO a N ∧ F N.c = some (LamX.CodeO N.c N.qual)
theorem fnM_at {K : PySem.W.Frag} {F H : Hp} {μ : Mo} {f : Addr} {N : NF} (R : RelM K F H μ) (h : μ f = some (fnM N)) : H f = some (FnO f N) ∧ H N.c = some (LamX.CodeO N.c N.qual) := by
  obtain ⟨_, ⟨o, h1, rfl, h2⟩, _⟩ := R.mu f _ h
  exact ⟨h1, R.sub _ _ h2⟩
section
variable {X : Cx} {G : Gx X.K} {st : Stmt} {c P : Addr} {name q : Str} {pos : Pos} {i : Nat}
def dDef (X : Cx) (P : Addr) (st : Stmt) (name q : Str) (i : Nat) : DS := fun D δ μ => μ P = some (.tbl q) ∧ ∀ f c, μ f = none → D.nx (δ.set i (some (.ref f))) (updM μ f (some (fnM (mkN X st name q c))))
theorem xs_def (TB : LamX.TabB X.base X.mg c P) (hcode : X.env.code = .ref c) (hN : X.N.Nodup) (hst : st = .FunctionDef name (C8.fnArgs st) (C8.fnBody st) [] none [] (C8.fnScope st) none name pos := by rfl) (hq : q = X.env.qual ++ name := by rfl)
    (hfree : ∀ y ∈ (C8.fnScope st).names, y.2 = .free → X.env.scope.names.lookup y.1 = some .cell ∨ X.env.scope.names.lookup y.1 = some .free := by decide +kernel) (hd0 : (C8.fnArgs st).defaults = [] := by rfl) (hk0 : (C8.fnArgs st).kw_defaults = [] := by rfl) (ha : annTrees (C8.fnArgs st) none X.env = [] := by rfl)
    (hi : X.N[i]? = some name := by rfl) (hx : Loc X.env.scope name := by first | exact Or.inl rfl | exact Or.inr rfl) (hf : X.fn name = true ∨ X.env.scope.names.lookup name = some .local := by first | exact .inl rfl | exact .inr rfl) :
    XS X G st (dDef X P st name q i) := by
  refine ⟨_, ps_defV hst TB hcode hq hfree hd0 hk0 ha hN hi hx hf, fun F H σ δ μ D' D R ⟨hm, h⟩ k => ?_⟩
  obtain ⟨fP, ps, hP, ht, hc⟩ := R.m.mu P _ hm
  have fin : ∀ {F2 H2 : Hp} {f c : Addr}, Same F F2 → RelM X.K F2 H2 μ → H2 f = none → F2 c = some (LamX.CodeO c q) → D.nx (σ.set i (some (.ref f))) (upd H2 f (FnO f (mkN X st name q c))) := fun {F2 H2 f c} s R2 nf hcd => by
    have nF := R2.freeF nf
    have R3 := R2.put (p := f) (o := FnO f (mkN X st name q c)) (m := fnM (mkN X st name q c)) nF ⟨⟨_, upd_same, rfl, hcd⟩, fun F1 F2 o s ⟨e1, e2⟩ => ⟨e1, s _ _ e2⟩⟩
    refine k.nx F2 _ _ _ _ s ⟨R.fl.trans s, R3, (R.s.mono s).set i .ref⟩ (h f c (R2.freeM nf))
  refine ⟨ps, hP, ht, fun cv e => ?_, fun e f c nf nc hne => ?_⟩
  · obtain ⟨c, e2, hF⟩ := hc pos cv e
    exact ⟨c, e2, R.m.sub _ _ hF, fun f nf => fin (Same.refl _) R.m nf hF⟩
  · have nPc : P ≠ c := ne_of_none hP nc
    have nPf : P ≠ f := ne_of_none hP nf
    have s1 := same_upd (o := LamX.CodeO c q) (R.m.freeF nc)
    have R1 := R.m.laid nc (LamX.CodeO c q)
    have eL : (ps ++ #[rawInt pos.line, rawInt pos.col, .ref c]).toList = ps.toList ++ [rawInt pos.line, rawInt pos.col, .ref c] := by simp
    have R2 := R1.put (p := P) (o := .tbl (ps ++ #[rawInt pos.line, rawInt pos.col, .ref c])) (m := .tbl q) (by rw [upd_ne nPc]; exact fP) ⟨_, upd_same, by rw [eL]; exact PySem.TriplesOk_snoc _ _ _ _ ht, fun p' cv hcv => by
      rw [eL] at hcv
      rcases LamX.among_app _ ht hcv with z | z
      · obtain ⟨c0, e1, e2⟩ := hc p' cv z
        exact ⟨c0, e1, s1 _ _ e2⟩
      · exact ⟨c, z, upd_same⟩⟩
    rw [updM_id hm] at R2
    have eH : upd (upd H c (LamX.CodeO c q)) P (.tbl (ps ++ #[rawInt pos.line, rawInt pos.col, .ref c])) = upd (upd H P (.tbl (ps ++ #[rawInt pos.line, rawInt pos.col, .ref c]))) c (LamX.CodeO c q) := by
      funext b
      by_cases h1 : b = P
      · subst h1; rw [upd_same, upd_ne nPc, upd_same]
      · by_cases h2 : b = c
        · subst h2; rw [upd_ne h1, upd_same, upd_same]
        · rw [upd_ne h1, upd_ne h2, upd_ne h2, upd_ne h1]
    rw [eH] at R2
    exact fin s1 R2 (by rw [upd_ne hne, upd_ne (Ne.symm nPf)]; exact nf) upd_same
end
/-! ### its promise -/
abbrev SpN := Addr → List D → SpD
/-- what the captured cells hold, told as data -/
def CapR (K : PySem.W.Frag) (F : Hp) (ws : List (Option V)) (cs : List D) : Prop := ws.length = cs.length ∧ ∀ (i : Nat) (d : D), cs[i]? = some d → ∃ v, ws[i]? = some (some v) ∧ Rp K F v d
def spN (K : PySem.W.Frag) (N : NF) (f : Addr) (sp : SpN) : List (Option V) → Sp := fun ws vs H Q E => ∃ (F0 : Hp) (μ : Mo) (cs ds : List D) (Q' : DK) (ξ : Addr → Mo → Prop), RelM K F0 H μ ∧ CapR K F0 ws cs ∧ RpL K F0 vs ds ∧ μ f = some (fnM N) ∧ sp f cs ds μ Q' ξ ∧
  (∀ F' H' μ' v x, Same F0 F' → RelM K F' H' μ' → Rp K F' v x → Q' x μ' → Q v H') ∧ ∀ F' H' μ' c, Same F0 F' → RelM K F' H' μ' → ξ c μ' → E (.ref c) none H'
def NokD (P : Program) (w : World) (K : PySem.W.Frag) (mg : Str → Option Value) (base : Heap) (k : Nat) (N : NF) (ps fr : List Str) (sp : SpN) : Prop := ∀ f, NOk P w K mg base (L2N.CX P w) k f N ps fr (spN K N f sp)
abbrev ncxD (P : Program) (w : World) (K : PySem.W.Frag) (mg : Str → Option Value) (base : Heap) (Ns : List Str) (N : NF) (f : Addr) (A : Around) (outer : List Env) (s : Shared) (H : Hp) (E : XK) : Cx := ncx (L2N.CX P w) P w K mg base Ns N f A outer s H E
def startN (Ns : List Str) (ds cs : List D) : Slots := ds.map some ++ (cs.map some ++ List.replicate (Ns.length - ds.length - cs.length) none)
section
variable {P : Program} {w : World} {K : PySem.W.Frag} {mg : Str → Option Value} {base : Heap} {j k : Nat} {N : NF} {ps fr Ns : List Str} {sp : SpN}
theorem NokD.mono (h : NokD P w K mg base j N ps fr sp) (hjk : j ≤ k) : NokD P w K mg base k N ps fr sp := fun f => (h f).mono hjk
theorem passNX {f : Addr} {A : Around} {outer : List Env} {s : Shared} {H : Hp} {E : XK} : Passes (L2N.CX P w) (ncxD P w K mg base Ns N f A outer s H E) E := fun pins σ H' s' e s'' I c =>
  L2N.passes_call (X := ncxD P w K mg base Ns N f A outer s H E) (L2N.takes_of rfl rfl rfl rfl) (fun _ _ _ _ h => h) pins σ H' s' e s'' I c
theorem relS_startN {F : Hp} {vs : List V} {ds cs : List D} {ws : List (Option V)} (r : RpL K F vs ds) (rc : CapR K F ws cs) : RelS K F (startF Ns vs ws) (startN Ns ds cs) := by
  obtain ⟨hl, hc⟩ := rc
  unfold startF startN
  refine ⟨by simp [r.length, hl], fun i d e => ?_⟩
  by_cases h1 : i < ds.length
  · rw [List.getElem?_append_left (by rw [List.length_map]; exact h1), List.getElem?_map] at e
    cases q : ds[i]? with
    | none => rw [q] at e; cases e
    | some x =>
      rw [q] at e; cases e
      obtain ⟨v, hv, rv⟩ := r.get q
      exact ⟨v, by rw [List.getElem?_append_left (by rw [List.length_map, r.length]; exact h1), List.getElem?_map, hv] <;> rfl, rv⟩
  · rw [List.getElem?_append_right (by rw [List.length_map]; omega), List.length_map] at e
    by_cases h2 : i - ds.length < cs.length
    · rw [List.getElem?_append_left (by rw [List.length_map]; exact h2), List.getElem?_map] at e
      cases q : cs[i - ds.length]? with
      | none => rw [q] at e; cases e
      | some x =>
        rw [q] at e; cases e
        obtain ⟨v, hv, rv⟩ := hc _ _ q
        refine ⟨v, ?_, rv⟩
        rw [List.getElem?_append_right (by rw [List.length_map, r.length]; omega), List.length_map, r.length, List.getElem?_append_left (by rw [hl]; exact h2)]
        exact hv
    · rw [List.getElem?_append_right (by rw [List.length_map]; omega), List.getElem?_replicate] at e
      split at e <;> cases e
theorem nokD (S : NScope Ns ps fr N.scope) (hb : ∀ (doc pm ctv : Value) (us : List Value), us.length = ps.length → bindArgs (N.fd doc pm ctv) ⟨us, []⟩ = pure (ps.zip us)) (hl : ∀ f cs ds μ Q ξ, sp f cs ds μ Q ξ → ds.length = ps.length)
    (hbody : ∀ (f : Addr) (A : Around) (outer : List Env) (s : Shared) (H : Hp) (E : XK) (Φ : Hp) (ξ : Addr → Mo → Prop) (ok : ∀ F H μ c, Same Φ F → RelM K F H μ → ξ c μ → E (.ref c) none H) (cs ds : List D) (μ : Mo) (Q : DK),
      Room k (A.deeper (envF N f s.heap.objs.size)) → μ f = some (fnM N) → sp f cs ds μ Q ξ →
      ∃ d, XSs (ncxD P w K mg base Ns N f A outer s H E) ⟨Φ, E, ξ, ok⟩ N.body d ∧ d { nx := fun _ μ' => DropQ Q .non μ', rt := DropQ Q } (startN Ns ds cs) μ) : NokD P w K mg base (k + 1) N ps fr sp := by
  intro f
  refine nok_of S hb (fun ws vs H Q E h => ?_) fun A outer s H vs ws Q E hr hf hc hw h => ?_
  · obtain ⟨F0, μ, cs, ds, Q', ξ, _, _, r, _, h, _⟩ := h
    rw [r.length]
    exact hl _ _ _ _ _ _ h
  · obtain ⟨F0, μ, cs, ds, Q', ξ, R, rc, r, hm, h, kq, kx⟩ := h
    obtain ⟨d, ⟨t, p, z⟩, hd⟩ := hbody f A outer s H E F0 ξ kx cs ds μ Q' hr hm h
    refine ⟨t, p, z F0 H _ _ μ _ _ ⟨Same.refl _, R, relS_startN r rc⟩ hd ⟨fun F' H' σ' δ' μ' s1 R1 ⟨μ2, l, q⟩ => ?_, fun F' H' μ' v x s1 R1 r1 ⟨μ2, l, q⟩ => ?_, fun _ _ _ _ _ _ _ q => q, fun _ _ _ _ _ _ _ q => q⟩⟩
    · exact kq F' H' μ2 .non .non s1 (R1.m.drop l) .non q
    · exact kq F' H' μ2 v x s1 (R1.drop l) r1 q
end
/-! ### its call -/
section
variable {X : Cx} {G : Gx X.K} {i k : Nat} {N : NF} {ps fr : List Str} {js : List Nat} {x : Str} {e : Expr} {es : List Expr} {p pos : Pos} {sp : SpN} {da : DA}
/-- the captured slots -/
def CapS (δ : Slots) (js : List Nat) (cs : List D) : Prop := js.map (fun j => δ[j]?) = cs.map fun d => some (some d)
def dCallN (mk : Addr → NF) (i : Nat) (js : List Nat) (sp : SpN) (ξ : Addr → Mo → Prop) (da : DA) : DE := fun δ μ Q => ∃ f c cs, δ[i]? = some (some (.ref f)) ∧ μ f = some (fnM (mk c)) ∧ CapS δ js cs ∧ da δ μ fun xs μ1 => μ1 f = some (fnM (mk c)) ∧ sp f cs xs μ1 Q ξ
theorem capR_of {K : PySem.W.Frag} {F : Hp} {σ : L2.St} {δ : Slots} (R : RelS K F σ δ) : ∀ {js : List Nat} {cs : List D}, CapS δ js cs → CapR K F (js.map (slotAt σ)) cs
  | [], [], _ => ⟨rfl, fun i d h => by simp at h⟩
  | [], _ :: _, h => by unfold CapS at h; simp at h
  | _ :: _, [], h => by unfold CapS at h; simp at h
  | j :: js, d :: cs, h => by
    unfold CapS at h
    rw [List.map_cons, List.map_cons, List.cons.injEq] at h
    obtain ⟨h1, h2⟩ := h
    obtain ⟨i1, i2⟩ := capR_of R (js := js) (cs := cs) h2
    refine ⟨by rw [List.map_cons, List.length_cons, List.length_cons, i1], fun i d' h => ?_⟩
    cases i with
    | zero =>
      simp at h
      subst h
      obtain ⟨v, hv, rv⟩ := R.at_ j d h1
      exact ⟨v, by rw [List.map_cons, List.getElem?_cons_zero, slotAt_of hv], rv⟩
    | succ i =>
      obtain ⟨v, hv, rv⟩ := i2 i d' (by simpa using h)
      exact ⟨v, by rw [List.map_cons, List.getElem?_cons_succ]; exact hv, rv⟩
theorem xe_callN {mk : Addr → NF} (Fn : ∀ c, NokD X.prog X.w X.K X.mg X.base k (mk c) ps fr sp) (cp : ∀ c, X.Ok → Caps X (mk c).cl fr js) (hr : Room k X.A) (hx : Passes (L2N.CX X.prog X.w) X G.E) (ha : XA X G (e :: es) da) (hN : X.N[i]? = some x := by rfl)
    (hv : Vis X.env.scope x := by first | exact Or.inl rfl | exact Or.inr (Or.inl rfl) | exact Or.inr (Or.inr rfl)) (hd : (x == ("__debug__" : Str)) = false := by decide) (hcd : (x == ("__classdict__" : Str)) = false := by decide)
    (he : starEach (e :: es) X.env = (false, eval e X.env) :: starEach es X.env := by rfl) (hpl : (backTo pos (starEach es X.env)).any (·.1) = false := by rfl) : XE X G (.Call (.Name x p) (e :: es) [] pos) (dCallN mk i js sp G.ξ da) := by
  refine ⟨fun σ H Q => ∀ (pins : List (Addr × Obj)) (s : Shared), Inv X pins σ H s → wpAny (model X.prog X.w) X.A (eval (.Call (.Name x p) (e :: es) [] pos) X.env) (EP X pins σ Q) X.xe s, ⟨fun pins s σ H Q I h => h pins s I⟩, ?_⟩
  intro F H σ δ μ Q' Q R ⟨f, cN, cs, e0, hm, hcs, h⟩ kE pins s I
  obtain ⟨v, ev, rv⟩ := R.s.at_ i _ e0
  cases rv
  obtain ⟨ta, pa, za⟩ := ha
  have h0 := (fnM_at R.m hm).1
  have args : ta σ H (fun vs H2 => ∃ F2 μ2 xs, Same F F2 ∧ Rel X.K G F2 H2 σ δ μ2 ∧ RpL X.K F2 vs xs ∧ μ2 f = some (fnM (mk cN)) ∧ sp f cs xs μ2 Q' G.ξ) := za F H σ δ μ _ _ R h fun F2 H2 μ2 vs xs s2 R2 r2 q2 => ⟨F2, μ2, xs, s2, R2, r2, q2⟩
  refine wpAny_Call_Name_kw (thn ((pe_var (pos := p) (i := i) hN hv hd hcd).run pins s σ H (fun u H1 => u = .ref f ∧ H1 = H) I ⟨.ref f, ev, rfl, rfl⟩) fun u s1 ⟨v1, H1, I1, r1, q1, q2⟩ => ?_)
  subst q1 q2
  obtain rfl : u = Value.ref f := r1
  refine PySem.W.callWith_F (first := []) (fnAt_of I1 h0) (thn (pa.run pos pins s1 σ _ _ I1 args) fun us s2 ⟨vs, H2, I2, r2, F2, μ2, xs, s12, R2, rp2, hm2, h2⟩ => ?_) he hpl
  obtain ⟨g1, g2⟩ := fnM_at R2.m hm2
  refine ⟨fnAt_of I2 g1, wpAny_call (codeAny_mono ((Fn cN f).run X.A X.stack s2 H2 us vs _ Q G.E hr I2.env0 g1 g2 (cells_of I2 (cp cN I2.ok)) r2 ⟨F2, μ2, cs, xs, Q', G.ξ, R2.m, capR_of R2.s hcs, rp2, hm2, h2, fun F' H' μ' v x s3 R3 r3 q3 => ?_, fun F' H' μ' c s3 R3 q3 => G.ok F' H' μ' c (R2.fl.trans s3) R3 q3⟩) fun r s3 hq => ?_)⟩
  · exact kE F' H' μ' v x (s12.trans s3) (R2.to s3 R3) r3 q3
  · cases r with
    | error er => exact hx pins σ H2 s2 er s3 I2 hq
    | ok fl =>
      cases fl with
      | ret u => exact I2.after hq
      | next => exact False.elim hq
      | brk => exact False.elim hq
      | cont => exact False.elim hq
end
theorem Caps.own {X : Cx} {cl : List (Str × Addr)} {fr : List Str} {js : List Nat} (hc : X.env.cells = cl) (kin : ∀ y ∈ fr, X.env.scope.names.lookup y = some .free) (hj : js.map (fun j => X.N[j]?) = fr.map some) : Caps X cl fr js :=
  ⟨fun y c e => by rw [hc]; exact e, fun y hy => .inr (kin y hy), fun y hy c e => by rw [← hc]; exact e, hj⟩
theorem nokD_false {P : Program} {w : World} {K : PySem.W.Frag} {mg : Str → Option Value} {base : Heap} {k : Nat} {N : NF} {ps fr : List Str} {sp : SpN} (h : ∀ f cs ds μ Q ξ, ¬ sp f cs ds μ Q ξ) : NokD P w K mg base k N ps fr sp := fun f =>
  ⟨fun ws vs H Q E ⟨_, _, _, _, _, _, _, _, _, _, z, _⟩ => (h _ _ _ _ _ _ z).elim, fun A outer s H us vs ws Q E _ _ _ _ _ _ ⟨_, _, _, _, _, _, _, _, _, _, z, _⟩ => (h _ _ _ _ _ _ z).elim⟩
section
variable {P : Program} {w : World} {K : PySem.W.Frag} {mg : Str → Option Value} {base : Heap} {Ns : List Str} {N : NF} {f : Addr} {A : Around} {outer : List Env} {s : Shared} {H : Hp} {E : XK}
theorem ncxD_K : (ncxD P w K mg base Ns N f A outer s H E).K = K := rfl
theorem ncxD_prog : (ncxD P w K mg base Ns N f A outer s H E).prog = P := rfl
theorem ncxD_w : (ncxD P w K mg base Ns N f A outer s H E).w = w := rfl
theorem ncxD_mg : (ncxD P w K mg base Ns N f A outer s H E).mg = mg := rfl
theorem ncxD_base : (ncxD P w K mg base Ns N f A outer s H E).base = base := rfl
end
end DL

/-! DL28: a def with a keyword-only parameter, called by the keyword. -/
namespace DL
open PySem PySem.Spec PyProof.Rows L2
/-- the promise to a call f(us.., k = w): n positional values -/
def FnKD (P : Program) (w : World) (K : PySem.W.Frag) (mg : Str → Option Value) (base : Heap) (k n : Nat) (ks : List Str) (f : Addr) (sp : SpD) : Prop :=
  ∀ (A : Around) (outer : List Env) (s : Shared) (H : Hp) (us ws : List Value) (vs zs : List V) (Q : VK) (E : XK), Room k A → Env0 P w K mg base A outer s H → Vals vs us → Vals zs ws → vs.length = n → zs.length = ks.length → spV K sp (vs ++ zs) H Q E →
    codeAny (model P w) A (.call (.ref f) ⟨us, ks.zip ws⟩) (CR (L2N.CX P w) outer P w H s Q E) s
section
variable {P : Program} {w : World} {K : PySem.W.Frag} {mg : Str → Option Value} {base : Heap} {j k n : Nat} {f : Addr} {sp : SpD} {ks : List Str}
theorem fnKw {x qual : Str} {params : Arguments} {body : List Stmt} {scope : Scope} {fd : FuncData} {N ps : List Str} {kws : List (Str × V)} (F : FunD K x qual params body scope [] kws f fd) (S : FnScope N ps scope)
    (hb : ∀ (kV doc pm : Value) (an : Option Addr) (cdv ct : Value) (us ws : List Value), us.length = n → ws.length = ks.length → bindArgs (PySem.W.fnOf x qual params body scope .none kV doc pm an cdv ct) ⟨us, ks.zip ws⟩ = pure (ps.zip (us ++ ws)))
    (hl : ∀ ds μ Q ξ, sp ds μ Q ξ → ds.length = ps.length)
    (hbody : ∀ (cdv : Value) (hcd : cdv = .ref (codeA K f)) (A : Around) (outer : List Env) (s : Shared) (H : Hp) (E : XK) (Φ : Hp) (ξ : Addr → Mo → Prop) (ok : ∀ F H μ c, Same Φ F → RelM K F H μ → ξ c μ → E (.ref c) none H) (ds : List D) (μ : Mo) (Q : DK),
      Room k (A.deeper (envOfC qual scope s.heap.objs.size f cdv)) → sp ds μ Q ξ →
      ∃ d, XSs (cxD P w K mg base N qual scope f cdv A outer s H E) ⟨Φ, E, ξ, ok⟩ body d ∧ d { nx := fun _ μ' => DropQ Q .non μ', rt := DropQ Q } (startD N ds) μ) : FnKD P w K mg base (k + 1) n ks f sp := by
  have hlV : ∀ vs H Q E, spV K sp vs H Q E → vs.length = ps.length := fun vs H Q E ⟨F0, μ, ds, Q', ξ, a, b, c, d⟩ => by rw [b.length]; exact hl _ _ _ _ c
  obtain ⟨oc, od, dV, kV, doc, pm, an, cdv, ct, osl, rfl, lk, hcd, hD, _⟩ := F.ex
  rcases hD with ⟨_, rfl⟩ | ⟨e, _⟩
  · have F1 : FnOk P w K mg base (L2N.CX P w) (k + 1) f _ ps (spV K sp) := fn_of lk hcd S hlV fun A outer s H vs Q E hr ⟨F0, μ, ds, Q', ξ, R, r, h, kq, kx⟩ => by
      obtain ⟨d, ⟨t, p, z⟩, hd⟩ := hbody cdv (codeA_eq lk rfl hcd) A outer s H E F0 ξ kx ds μ Q' hr h
      refine ⟨t, p, z F0 H _ _ μ _ _ ⟨Same.refl _, R, relS_start r⟩ hd ⟨fun F' H' σ' δ' μ' s1 R1 ⟨μ2, l, q⟩ => ?_, fun F' H' μ' v x s1 R1 r1 ⟨μ2, l, q⟩ => ?_, fun _ _ _ _ _ _ _ q => q, fun _ _ _ _ _ _ _ q => q⟩⟩
      · exact kq F' H' μ2 .non .non s1 (R1.m.drop l) .non q
      · exact kq F' H' μ2 v x s1 (R1.drop l) r1 q
    intro A outer s H us ws vs zs Q E hr e0 r1 r2 l1 l2 h
    exact F1.run A outer s H ⟨us, ks.zip ws⟩ (us ++ ws) (vs ++ zs) Q E hr e0 (.of_eq (hb kV doc pm an cdv ct us ws (r1.length.symm.trans l1) (r2.length.symm.trans l2))) (r1.append r2) h
  · exact absurd rfl e
theorem FnKD.mono (h : FnKD P w K mg base j n ks f sp) (hjk : j ≤ k) : FnKD P w K mg base k n ks f sp := fun A outer s H us ws vs zs Q E hr => h A outer s H us ws vs zs Q E (hr.mono hjk)
end
section
variable {X : Cx} {G : Gx X.K} {k n : Nat} {f : Addr} {sp : SpD} {x kn : Str} {e v : Expr} {es : List Expr} {p pos kp : Pos} {da : DA} {dv : DE}
def dCallK (n : Nat) (sp : SpD) (ξ : Addr → Mo → Prop) (da : DA) (dv : DE) : DE := fun δ μ Q => da δ μ fun xs μ1 => dv δ μ1 fun y μ2 => xs.length = n ∧ sp (xs ++ [y]) μ2 Q ξ
theorem xe_callK (F : FnKD X.prog X.w X.K X.mg X.base k n [kn] f sp) (hr : Room k X.A) (hm : X.mg x = some (.ref f)) (hk : PySem.W.keepIn X.K (.ref f) = true) (ha : XA X G (e :: es) da) (hv : XE X G v dv) (hx : Passes (L2N.CX X.prog X.w) X G.E := by first | exact passD | exact passLN) (hg : Gl X x := by rfl)
    (hall : (backToKw pos (keywordEach [⟨some kn, v, kp⟩] X.env)).all (·.1.isSome) = true := by rfl) (hks : (backToKw pos (keywordEach [⟨some kn, v, kp⟩] X.env)).filterMap (·.1) = [kn] := by rfl)
    (hdb : (x == ("__debug__" : Str)) = false := by decide) (he : starEach (e :: es) X.env = (false, eval e X.env) :: starEach es X.env := by rfl)
    (hpl : ((backTo pos (starEach (e :: es) X.env)).any (·.1) || (backToKw pos (keywordEach [⟨some kn, v, kp⟩] X.env)).any (·.1.isNone)) = false := by rfl) :
    XE X G (.Call (.Name x p) (e :: es) [⟨some kn, v, kp⟩] pos) (dCallK n sp G.ξ da dv) := by
  refine ⟨fun σ H Q => ∀ (pins : List (Addr × Obj)) (s : Shared), Inv X pins σ H s → wpAny (model X.prog X.w) X.A (eval (.Call (.Name x p) (e :: es) [⟨some kn, v, kp⟩] pos) X.env) (EP X pins σ Q) X.xe s, ⟨fun pins s σ H Q I h => h pins s I⟩, ?_⟩
  intro F0 H σ δ μ Q' Q R h kE pins s I
  obtain ⟨ta, pa, za⟩ := ha
  obtain ⟨tv, pv, zv⟩ := hv
  have args : ta σ H fun vs H1 => tCons tv tNil σ H1 fun zs H2 => ∃ F2 μ2 xs, Same F0 F2 ∧ Rel X.K G F2 H2 σ δ μ2 ∧ RpL X.K F2 (vs ++ zs) xs ∧ vs.length = n ∧ zs.length = 1 ∧ sp xs μ2 Q' G.ξ := by
    refine za F0 H σ δ μ _ _ R h fun F1 H1 μ1 vs xs s1 R1 r1 h1 => ?_
    show tv σ H1 _
    refine zv F1 H1 σ δ μ1 _ _ R1 h1 fun F2 H2 μ2 z y s2 R2 r2 ⟨l1, h2⟩ => ?_
    exact ⟨F2, μ2, xs ++ [y], s1.trans s2, R2, (r1.mono s2).append (.cons r2 .nil), by rw [r1.length]; exact l1, rfl, h2⟩
  refine wpAny_Call_Name_kw (ld_glob I hg hm ?_ hdb)
  refine PySem.W.callWith_KW (h₀ := X.base) I.ok.mod.kin hk hall (thn (pa.run pos pins s σ H _ I args) fun us s1 ⟨vs, H1, I1, r, q⟩ => ?_) hpl he
  refine thn ((pk_cons pv pk_nil).run pos pins s1 σ H1 _ I1 q) fun ws s2 ⟨zs, H2, I2, rz, F2, μ2, xs, s12, R2, rp, l1, l2, h2⟩ => ⟨I2.kIn, ?_⟩
  rw [hks]
  refine wpAny_call (codeAny_mono (F X.A X.stack s2 H2 us ws vs zs Q G.E hr I2.env0 r rz l1 l2 ⟨F2, μ2, xs, Q', G.ξ, R2.m, rp, h2, fun F' H' μ' v' x' s3 R3 r3 q3 => kE F' H' μ' v' x' (s12.trans s3) (R2.to s3 R3) r3 q3, fun F' H' μ' c s3 R3 q3 => G.ok F' H' μ' c (R2.fl.trans s3) R3 q3⟩) fun r s' hq => ?_)
  cases r with
  | error er => exact hx pins σ H2 s2 er s' I2 hq
  | ok fl =>
    cases fl with
    | ret u => exact I2.after hq
    | next => exact False.elim hq
    | brk => exact False.elim hq
    | cont => exact False.elim hq
end
end DL

/-! DL29: enumerate of a tuple. -/
namespace DL
open PySem PySem.Spec PyProof.Rows L2
/-- enumerate(v): its two new cells -/
theorem enumT_new {z : Value} {ob : Obj} {Hv : Heap → Prop} (Bv : Begins z ob Hv) : Meets (Builtin.«enumerate.__new__» ⟨[.type "enumerate", z], []⟩)
    (fun _ R q => Hv q.heap ∧ R (.ok (.ret (.ref (q.heap.push ob).objs.size)))
      { q with heap := (q.heap.push ob).push { cls := .type "enumerate", data := .fields #[.none, .bool false, .ref q.heap.objs.size, rawInt 0, .none, .none] } }) :=
  .of_wp fun pr wd ar R q hh => by
    obtain ⟨hp0, g0, d0, tk0, os0⟩ := q
    obtain ⟨hv, hh⟩ := hh
    have isSub := sub_enumerate
    have go1 : ∀ {A' : Around} {E' Q' : Value → Shared → Prop}, Q' (.ref hp0.objs.size) ⟨hp0.push ob, g0, d0, tk0, os0⟩ → wpAny (model pr wd) A' (pyIter z) Q' E' ⟨hp0, g0, d0, tk0, os0⟩ := by
      intro A' E' Q' qq
      exact Bv.iter pr wd A' E' ⟨hp0, g0, d0, tk0, os0⟩ Q' hv qq
    wp_walk using go1
    refine wpAny_stack_any fun stk => wpAny_pure ?_
    split
    · rename_i cl _ _ _ _ _
      cases (cl == Value.type "enumerate") <;> (wp_walk using go1; exact ⟨_, rfl, hh⟩)
    · wp_walk using go1; exact ⟨_, rfl, hh⟩
section
variable {prog : Program} {w : World} {A : Around} {E : Value → Shared → Prop} {s : Shared}
theorem enumT_call {z : Value} {ob : Obj} {Hv : Heap → Prop} {Q : Value → Shared → Prop} (Bv : Begins z ob Hv) (hv : Hv s.heap)
    (k : ∀ hp, IsEnum hp (s.heap.objs.size + 1) s.heap.objs.size 0 .none → hp.get? s.heap.objs.size = some ob →
      (∀ b o, s.heap.get? b = some o → hp.get? b = some o) → Q (.ref (s.heap.objs.size + 1)) { s with heap := hp }) : wpAny (model prog w) A (call (.type "enumerate") [z]) Q E s := by
  refine callType_new F.called_enumerate (by decide) (F.typeCall_enumerate_1 _) (F.newCall_enumerate_1 _) (fun obj => F.args_object_init_2 obj _) F.entry_enumerate_new (enumT_new Bv) ⟨hv, ?_⟩
  have sz : (s.heap.push ob).objs.size = s.heap.objs.size + 1 := by simp [Heap.size_push]
  show _ ∧ _
  rw [sz]
  have en : IsEnum ((s.heap.push ob).push { cls := .type "enumerate", data := .fields #[.none, .bool false, .ref s.heap.objs.size, rawInt 0, .none, .none] }) (s.heap.objs.size + 1) s.heap.objs.size 0 .none := by
    have e1 := Heap.get?_push_size (s.heap.push ob) (o := { cls := .type "enumerate", data := .fields #[.none, .bool false, .ref s.heap.objs.size, rawInt 0, .none, .none] }) rfl
    rwa [sz] at e1
  exact ⟨⟨_, en, rfl⟩, k _ en (Heap.get?_push_of_some _ (Heap.get?_push_size _ Bv.free)) fun b o e => Heap.get?_push_of_some _ (Heap.get?_push_of_some _ e)⟩
end
/-- the tuple at a, each item in a new pair -/
def ItEt (K : PySem.W.Frag) (a : Addr) : It where
  go := fun i H => ∃ (vs : List V) (v : V), SqT K H a vs ∧ vs[i]? = some v
  yld := fun i H r H2 => ∃ T v, r = .ref T ∧ H T = none ∧ H2 = upd H T (.tup [.int (i : Nat), v]) ∧ ∀ vs, SqT K H a vs → vs[i]? = some v
  stop := fun i H => ∃ vs : List V, SqT K H a vs ∧ vs.length ≤ i
theorem two_cells {b e it : Addr} (h : b ∈ [e, it]) : b = e ∨ b = it := by simpa using h
theorem tup_ne_it {h : Heap} {it a : Addr} {n : Nat} {xs : Array Value} (hi : h.IsTupleIter it a n) (ht : h.IsTuple a xs) : a ≠ it := by
  rintro rfl
  obtain ⟨o, ho, hc, hd⟩ := hi
  obtain ⟨o2, ho2, hc2, _⟩ := ht
  rw [ho] at ho2
  cases ho2
  rw [hc] at hc2
  exact absurd (Value.type.inj hc2) (by decide)
theorem turn_enumT {P : Program} {w : World} {K : PySem.W.Frag} {el : List Expr} {kk : Nat} {tp : Pos} (a e it : Addr) : Turn P w K (.Tuple el kk tp) (ItEt K a) [e, it] e
    (fun n h => (∃ old, IsEnum h e it ((n : Nat) : Int) old) ∧ h.IsTupleIter it a n ∧ e ≠ it) where
  mem := List.mem_cons_self ..
  obj := by
    rintro n h ⟨⟨old, he⟩, ⟨o, ho, hc, hd⟩, _⟩ b hb
    rcases two_cells hb with z | z <;> subst z
    · exact ⟨_, he, fun v q => nomatch q⟩
    · exact ⟨o, ho, fun v q => by rw [hd] at q; cases q⟩
  keep := by
    rintro n h h2 ⟨⟨old, he⟩, hi, ne⟩ k
    exact ⟨⟨old, k e (by simp) _ he⟩, hi.at (fun o q => k it (by simp) o q), ne⟩
  item := by
    intro X hP hw hK hc n pins s σ H E I hf st hg
    subst hP hw hK
    obtain ⟨⟨old, he⟩, hit, ne⟩ := st
    obtain ⟨vs, v, hq, hv⟩ := hg
    obtain ⟨us, rv, tu, _⟩ := I.tuple hq
    obtain ⟨u, hu, ru⟩ := rv.get hv
    have le : e < s.heap.objs.size := Heap.lt_size he
    have li : it < s.heap.objs.size := by
      obtain ⟨_, q, _⟩ := hit
      exact Heap.lt_size q
    have nt := tup_ne_it hit tu
    have na : e ∉ [it, a] := by
      intro m
      rcases two_cells m with z | z
      · exact ne z
      · subst z
        obtain ⟨o2, ho2, hc2, _⟩ := tu
        have he' := he
        unfold IsEnum at he'
        rw [ho2] at he'
        have e1 := Option.some.inj he'
        rw [e1] at hc2
        exact absurd (Value.type.inj hc2) (by decide)
    have hn : n < us.toArray.size := by
      have q : n < us.length := (List.getElem?_eq_some_iff.mp hu).1
      simpa using q
    refine wpAny_pyNext_enum_itemC (Draws.tuple (A := X.A.in1) (I.ok.hd hc) it a nt us.toArray) he ⟨hit, tu⟩ hn ne na fun x hp tk px eo st2 hT hz hk => ?_
    have ex : x = u := by
      have q : us.toArray[n]? = some u := by simpa using hu
      rw [q] at px
      exact (Option.some.inj px).symm
    subst ex
    refine ⟨_, rfl, wpAny_letOwnedTupleGo_enum (s := { s with heap := hp, toks := tk + 1 }) eo fun hp2 eo2 sb => ?_⟩
    have hT2 : hp2.get? s.heap.objs.size = some { cls := .type "tuple", data := .seq #[.int n tk, x] } := by
      rw [sb.2 _ (Nat.ne_of_gt le)]
      exact hT
    have new : ObjOk X.prog X.w (upd H s.heap.objs.size (.tup [.int (n : Nat), v])) hp2 s.heap.objs.size (.tup [.int (n : Nat), v]) := by
      refine ⟨?_, [.int n tk, x], .cons ⟨_, rfl⟩ (.cons ru .nil), ⟨_, hT2, rfl, _, rfl⟩⟩
      show 2 ≤ sizeLine
      decide
    have I1 : Inv X pins σ (upd H s.heap.objs.size (.tup [.int (n : Nat), v])) { s with heap := hp2, toks := tk + 1 } := by
      refine I.turnedNew (ch := [e, it]) (fun b o hb q => ?_) hf (Nat.le_refl _) new
      have n1 : b ≠ e := fun z => hb (by simp [z])
      have n2 : b ≠ it := fun z => hb (by simp [z])
      rw [sb.2 b n1]
      exact hk b o n1 n2 q
    refine ⟨.ref s.heap.objs.size, _, I1, rfl, ⟨_, v, rfl, I.hok.fresh (Nat.le_refl _), rfl, fun ws hw => ?_⟩, ⟨⟨x, ?_⟩, ?_, ne⟩, fun b hb => ?_⟩
    · rw [I.tuple_inj hw hq]
      exact hv
    · have e1 : ((n + 1 : Nat) : Int) = (n : Int) + 1 := Int.natCast_succ n
      rw [e1]
      exact eo2
    · exact st2.1.at fun o q => by rw [sb.2 it (Ne.symm ne)]; exact q
    · have lb : b < s.heap.objs.size := by rcases two_cells hb with z | z <;> subst z <;> assumption
      rw [upd_ne (Nat.ne_of_lt lb)]
      exact (hf b hb).1
  done := by
    intro X hP hw hK hc n pins s σ H E I hf st hg
    subst hP hw hK
    obtain ⟨⟨old, he⟩, hit, ne⟩ := st
    obtain ⟨vs, hq, hl⟩ := hg
    obtain ⟨us, rv, tu, _⟩ := I.tuple hq
    obtain ⟨f0, f1, f2, f3, f4, f5⟩ := hf it (by simp)
    have len := rv.length
    have nt := tup_ne_it hit tu
    have hT : s.TypeIs (.ref e) "enumerate" := ⟨_, he, rfl⟩
    unfold pyNext
    refine wpAny_bind (wpAny_attempt (wpAny_callSpecial?_slot (name := Str.ofString "__next__") hT F.slot_enumerate_next (wpAny_call_entry F.slot_enumerate_next hT F.entry_enumerate_next ?_ (F.args_enumerate_next_1 _))))
    show wpAny _ _ (field (.ref e) 2 >>= _) _ _ _
    refine wpAny_bind (wpAny_field he rfl (x := .ref it) rfl ?_)
    refine wpAny_bind (wpAny_nextOf_tuple_end (I.ok.hd hc) hit tu (by simp; omega) fun hp x eb hx => ?_)
    obtain ⟨o, ho, hcl⟩ := hx
    refine wpAny_bind (wpAny_isInstance (T := "StopIteration") (b := true) ⟨o, ho, hcl⟩ isSubtype_stop ?_)
    exact wpAny_pure ⟨rfl, I.turned (t' := s.toks) (fun b o hb q => eb b o hb q) f0 f1 f3 f4 f5⟩
  self := by
    rintro A n s Q E ⟨⟨_, he⟩, _⟩ h
    exact wpAny_pyIter_enum he h
def iEnumT (K : PySem.W.Frag) (ta : TA) : TI := fun σ H R => ta σ H fun us H1 => ∃ a vs, us = [.ref a] ∧ SqT K H1 a vs ∧ R (ItEt K a) H1
theorem pi_enumT {X : Cx} {e : Expr} {ta : TA} {p pos tp : Pos} {el : List Expr} {kk : Nat} (hg : Gl X "enumerate") (hm : X.mg "enumerate" = none) (ha : PA X [e] ta) (hs : starEach [e] X.env = [(false, eval e X.env)] := by rfl) :
    PI X (.Tuple el kk tp) (.Call (.Name "enumerate" p) [e] [] pos) (iEnumT X.K ta) := by
  refine ⟨fun pins s σ H R I h => ?_⟩
  refine Call_ (ld_blt I hg hm boot_enumerate (PyProof.Rows.callWith_type1 (thn (ha.run pos pins s σ H _ I h) fun us s1 ⟨vs, H1, I1, r1, q1⟩ => ?_) hs rfl))
  obtain ⟨a, ws, rfl, hq, q⟩ := q1
  cases r1 with
  | cons r rr =>
    cases rr
    cases r
    obtain ⟨its, rv, tu, _⟩ := I1.tuple hq
    refine enumT_call (begins_tuple a its.toArray) tu fun hp he hit hk => wpAny_pyIter_enum he ?_
    have I2 : Inv X pins σ H1 { s1 with heap := hp } := I1.kept (t' := s1.toks) hk
    refine ⟨s1.heap.objs.size + 1, [s1.heap.objs.size + 1, s1.heap.objs.size], _, _, H1, rfl, I2, turn_enumT a (s1.heap.objs.size + 1) s1.heap.objs.size, ⟨⟨.none, he⟩, ⟨_, hit, rfl, rfl⟩, Nat.succ_ne_self _⟩, fun b hb => ?_, q⟩
    have lb : s1.heap.objs.size ≤ b := by rcases two_cells hb with z | z <;> subst z <;> omega
    exact I1.fpOk lb (I1.hok.fresh lb)
section
variable {X : Cx} {G : Gx X.K}
theorem iters_enumT {K : PySem.W.Frag} {F : Hp} {a : Addr} {vs : List V} {ds : List D} (h : F a = some (.tup vs)) (r : RpL K F vs ds) : Iters K (ItEt K a) F (enumD 0 ds) := fun i F1 H1 μ1 s1 R1 => by
  have e := SqT.of (K := K) (R1.sub _ _ (s1 _ _ h))
  refine ⟨fun hi => ⟨vs, e, ?_⟩, fun x hx => ?_⟩
  · rw [enumD_len, ← r.length] at hi
    exact hi
  · obtain ⟨d, hd, rfl⟩ := enumD_get 0 ds i x hx
    obtain ⟨v, hv, rv⟩ := r.get hd
    refine ⟨⟨vs, v, e, hv⟩, fun u H2 ⟨T, y, e1, nT, e2, hy⟩ => ?_⟩
    subst e1 e2
    have q1 := hy vs e
    rw [hv] at q1
    cases q1
    have s2 := same_upd (o := .tup [.int (i : Nat), v]) (R1.freeF nT)
    refine ⟨_, s2, R1.laid nT _, .tup upd_same (.cons ?_ (.cons ((rv.mono s1).mono s2) .nil))⟩
    rw [Nat.zero_add]
    exact .int
def diEnumT (da : DA) : DI := fun δ μ R => da δ μ fun xs μ1 => ∃ ds, xs = [.tup ds] ∧ R (enumD 0 ds) μ1
theorem xi_enumT {el : List Expr} {kk : Nat} {e : Expr} {da : DA} {p pos tp : Pos} (hm : X.mg "enumerate" = none) (ha : XA X G [e] da) (hg : Gl X "enumerate" := by rfl) (hs : starEach [e] X.env = [(false, eval e X.env)] := by rfl) :
    XI X G (.Tuple el kk tp) (.Call (.Name "enumerate" p) [e] [] pos) (diEnumT da) := by
  obtain ⟨t, q, s⟩ := ha
  refine ⟨_, pi_enumT hg hm q hs, fun F H σ δ μ R' R I h k => s F H σ δ μ _ _ I h fun F1 H1 μ1 vs xs s1 R1 r1 ⟨ds, e1, h1⟩ => ?_⟩
  subst e1
  obtain ⟨v, rfl, r2⟩ := rpl1 r1
  obtain ⟨a, us, rfl, ha, hu, fa⟩ := rpT R1.m r2
  exact ⟨a, us, rfl, SqT.of ha, k F1 H1 μ1 _ _ s1 R1 (iters_enumT fa hu) h1⟩
end
end DL

/-! DL30: list(zip(a, b)) of two lists. -/
namespace DL
open PySem PySem.Spec PyProof.Rows L2
theorem zipL_no_len : typeLookup (.type "zip") "__len__" = pure none := by
  rw [typeLookup_type, builtinLookup_eq_fast]
  kernel_rfl
theorem zipL_no_hint : typeLookup (.type "zip") "__length_hint__" = pure none := by
  rw [typeLookup_type, builtinLookup_eq_fast]
  kernel_rfl
/-- a zip of two lists, n pairs given out (and kept); S: the list that keeps them -/
structure ZipAt (S : Addr) (h : Heap) (z TI TO i1 i2 l1 l2 : Addr) (us vs : Array Value) (n : Nat) : Prop where
  st : (IsZip h z TI TO .none ∧ ∃ a b, IsPair h TO a b) ∨ ∃ T f ob, IsZipHeld h z TI TO T f ∧ h.get? T = some ob ∧ T ∉ [z, TO, i1, i2] ∧ T ≠ S
  ti : IsPair h TI (.ref i1) (.ref i2)
  o : ∃ ob, h.get? TO = some ob
  a1 : h.IsListIter i1 l1 n
  a2 : h.IsListIter i2 l2 n
  b1 : h.IsList l1 us
  b2 : h.IsList l2 vs
theorem four_not {b z TO i1 i2 : Addr} (h : b ∉ [z, TO, i1, i2]) : b ≠ z ∧ b ≠ TO ∧ b ≠ i1 ∧ b ≠ i2 := by
  simpa only [List.mem_cons, List.not_mem_nil, or_false, not_or] using h
theorem ZipAt.type {S : Addr} {s : Shared} {z TI TO i1 i2 l1 l2 : Addr} {us vs : Array Value} {n : Nat} (Z : ZipAt S s.heap z TI TO i1 i2 l1 l2 us vs n) : s.TypeIs (.ref z) "zip" := by
  rcases Z.st with ⟨h, _⟩ | ⟨_, _, _, h, _⟩
  · exact ⟨_, h, rfl⟩
  · exact ⟨_, h, rfl⟩
/-- only S is written -/
theorem ZipAt.but {S : Addr} {h h2 : Heap} {z TI TO i1 i2 l1 l2 : Addr} {us vs : Array Value} {n : Nat} (Z : ZipAt S h z TI TO i1 i2 l1 l2 us vs n) (hS : S ∉ [z, TI, TO, i1, i2, l1, l2]) (k : ∀ b o, b ≠ S → h.get? b = some o → h2.get? b = some o) : ZipAt S h2 z TI TO i1 i2 l1 l2 us vs n := by
  simp only [List.mem_cons, List.not_mem_nil, or_false, not_or] at hS
  obtain ⟨c1, c2, c3, c4, c5, c6, c7⟩ := hS
  refine ⟨?_, k _ _ (Ne.symm c2) Z.ti, (let ⟨ob, e⟩ := Z.o; ⟨ob, k _ _ (Ne.symm c3) e⟩), Z.a1.at fun o e => k _ o (Ne.symm c4) e, Z.a2.at fun o e => k _ o (Ne.symm c5) e, Z.b1.at fun o e => k _ o (Ne.symm c6) e, Z.b2.at fun o e => k _ o (Ne.symm c7) e⟩
  rcases Z.st with ⟨e, a, b, e2⟩ | ⟨T, f, ob, e, e2, nT, nS⟩
  · exact .inl ⟨k _ _ (Ne.symm c1) e, a, b, k _ _ (Ne.symm c3) e2⟩
  · exact .inr ⟨T, f, ob, k _ _ (Ne.symm c1) e, k _ _ nS e2, nT, nS⟩
section
variable {prog : Program} {w : World} {A : Around} {E : Value → Shared → Prop} {s : Shared}
theorem zipL_item {S z TI TO i1 i2 l1 l2 : Addr} {us vs : Array Value} {n : Nat} {x y : Value} {Q : Option Value → Shared → Prop} (D : ZipApart z TI TO i1 i2 l1 l2) (Z : ZipAt S s.heap z TI TO i1 i2 l1 l2 us vs n) (lS : S < s.heap.objs.size)
    (hx : us[n]? = some x) (hy : vs[n]? = some y)
    (k : ∀ h, ZipAt S h z TI TO i1 i2 l1 l2 us vs (n + 1) → IsPair h s.heap.objs.size x y → (∀ b o, b ∉ [z, TO, i1, i2] → s.heap.get? b = some o → h.get? b = some o) → Q (some (.ref s.heap.objs.size)) { s with heap := h }) :
    wpAny (model prog w) A (pyNext (.ref z)) Q E s := by
  have lz : z < s.heap.objs.size := by
    obtain ⟨_, e, _⟩ := Z.type
    exact Heap.lt_size e
  have li1 : i1 < s.heap.objs.size := by
    obtain ⟨_, e, _⟩ := Z.a1
    exact Heap.lt_size e
  have li2 : i2 < s.heap.objs.size := by
    obtain ⟨_, e, _⟩ := Z.a2
    exact Heap.lt_size e
  have nS : s.heap.objs.size ≠ S := Nat.ne_of_gt lS
  rcases Z.st with ⟨ez, a, b, eo⟩ | ⟨T, f, ob, ez, eT, nT, nTS⟩
  · have lTO : TO < s.heap.objs.size := Heap.lt_size eo
    refine wpAny_pyNext_zip_item D ez Z.ti eo Z.a1 Z.a2 Z.b1 Z.b2 hx hy fun h e1 e2 e3 e4 e5 e6 kk => ?_
    have kp : ∀ b o, b ∉ [z, TO, i1, i2] → s.heap.get? b = some o → h.get? b = some o := fun b o hb e => by
      obtain ⟨c1, c2, c3, c4⟩ := four_not hb
      exact kk b o c1 c2 c3 c4 e
    refine k h ⟨.inr ⟨s.heap.objs.size, false, _, e1, e5, ?_, nS⟩, ?_, ⟨_, e2⟩, e3, e4, ?_, ?_⟩ e5 kp
    · simp only [List.mem_cons, List.not_mem_nil, or_false, not_or]
      exact ⟨Nat.ne_of_gt lz, Nat.ne_of_gt lTO, Nat.ne_of_gt li1, Nat.ne_of_gt li2⟩
    · exact kk _ _ D.TIz D.TITO D.TIi1 D.TIi2 Z.ti
    · exact Z.b1.at fun o e => kk _ o D.l1z D.l1TO D.l1i1 D.l1i2 e
    · exact Z.b2.at fun o e => kk _ o D.l2z D.l2TO D.l2i1 D.l2i2 e
  · refine wpAny_pyNext_zip_item_held D ez eT Z.ti Z.a1 Z.a2 Z.b1 Z.b2 hx hy fun h e1 e3 e4 e5 e6 kk => ?_
    obtain ⟨t1, t2, t3, t4⟩ := four_not nT
    refine k h ⟨.inr ⟨T, true, _, e1, kk _ _ t1 t3 t4 eT, nT, nTS⟩, kk _ _ D.TIz D.TIi1 D.TIi2 Z.ti, (let ⟨ob, e⟩ := Z.o; ⟨ob, kk _ _ D.TOz D.TOi1 D.TOi2 e⟩), e3, e4, ?_, ?_⟩ e5 fun b o hb e => ?_
    · exact Z.b1.at fun o e => kk _ o D.l1z D.l1i1 D.l1i2 e
    · exact Z.b2.at fun o e => kk _ o D.l2z D.l2i1 D.l2i2 e
    · obtain ⟨c1, _, c3, c4⟩ := four_not hb
      exact kk b o c1 c3 c4 e
theorem zipL_end {S z TI TO i1 i2 l1 l2 : Addr} {us vs : Array Value} {n : Nat} {Q : Option Value → Shared → Prop} (hh : A.handled = none) (D : ZipApart z TI TO i1 i2 l1 l2) (Z : ZipAt S s.heap z TI TO i1 i2 l1 l2 us vs n)
    (hx : us[n]? = none ∨ vs[n]? = none) (k : ∀ h, (∀ b o, b ∉ [z, TO, i1, i2] → s.heap.get? b = some o → h.get? b = some o) → Q none { s with heap := h }) :
    wpAny (model prog w) A (pyNext (.ref z)) Q E s := by
  rcases Z.st with ⟨ez, a, b, eo⟩ | ⟨T, f, ob, ez, eT, nT, nTS⟩
  · refine wpAny_pyNext_zip_end hh D ez Z.ti eo Z.a1 Z.a2 Z.b1 Z.b2 hx fun h kk => k h fun b o hb e => ?_
    obtain ⟨c1, c2, c3, c4⟩ := four_not hb
    exact kk b o c1 c2 c3 c4 e
  · refine wpAny_pyNext_zip_end_held hh D ez eT Z.ti Z.a1 Z.a2 Z.b1 Z.b2 hx fun h kk => k h fun b o hb e => ?_
    obtain ⟨c1, _, c3, c4⟩ := four_not hb
    exact kk b o c1 c3 c4 e
end
/-- the pairs are laid one by one, then the list -/
def zipGo : List (V × V) → List V → Hp → VK → Prop
  | [], acc, H, Q => ∀ S, H S = none → Q (.ref S) (upd H S (.lst acc))
  | p :: ps, acc, H, Q => ∀ T, H T = none → zipGo ps (acc ++ [.ref T]) (upd H T (.tup [p.1, p.2])) Q
theorem fpOk_upd {X : Cx} {pins : List (Addr × Obj)} {H : Hp} {b T : Addr} {o : HO} (f : FpOk X pins H b) (n : b ≠ T) : FpOk X pins (upd H T o) b := ⟨by rw [upd_ne n]; exact f.1, f.2⟩
theorem zip_drop {xs ys : List V} {p : V × V} {ps : List (V × V)} {n : Nat} (h : (xs.zip ys).drop n = p :: ps) : xs[n]? = some p.1 ∧ ys[n]? = some p.2 ∧ (xs.zip ys).drop (n + 1) = ps := by
  have e : (xs.zip ys)[n]? = some p := by
    have := congrArg (fun l => l[0]?) h
    simpa using this
  have e2 : (xs.zip ys).drop (n + 1) = ps := by
    rw [← List.tail_drop, h]
    rfl
  rw [List.getElem?_zip_eq_some] at e
  exact ⟨e.1, e.2, e2⟩
section
variable {X : Cx} {pins : List (Addr × Obj)} {σ : L2.St} {A : Around} {Q : VK}
theorem zipL_loop {S z TI TO i1 i2 l1 l2 : Addr} {us vs : List Value} {xs ys : List V} {res : Value} {R : Result → Shared → Prop} (hh : A.handled = none) (D : ZipApart z TI TO i1 i2 l1 l2) (hS : S ∉ [z, TI, TO, i1, i2, l1, l2]) (rx : Vals xs us) (ry : Vals ys vs) (hlen : xs.length ≤ sizeLine)
    (hR : ∀ s', EP X pins σ Q (.ref S) s' → R (.ok (.ret res)) s') :
    ∀ (ps : List (V × V)) (n : Nat) (acc : List V) (its : List Value) (H : Hp) (s : Shared) (c : Nat), (xs.zip ys).drop n = ps → Inv X pins σ H s → ZipAt S s.heap z TI TO i1 i2 l1 l2 us.toArray vs.toArray n →
      s.heap.get? S = some { cls := .type "list", dict := none, data := .seq its.toArray c, slots := #[] } → Vals acc its → acc.length = n → (∀ b ∈ [S, z, TO, i1, i2], FpOk X pins H b) → n ≤ xs.length → zipGo ps acc H Q →
      codeAny (model X.prog X.w) A (.builtin "list.extend.loop" ⟨[.ref S, .ref z, res], []⟩) R s := by
  intro ps
  induction ps with
  | nil =>
    intro n acc its H s c hps I Z eS ra hn hf hnx hq
    refine codeAny_builtin F.entry_extend_loop ?_
    rw [Around.under_plainId F.plain_extend_loop _]
    show wpAny _ A.in1 (pyNext (.ref z) >>= _) _ _ s
    have hend : us.toArray[n]? = none ∨ vs.toArray[n]? = none := by
      have hl := List.drop_eq_nil_iff.mp hps
      rw [List.length_zip, rx.length, ry.length] at hl
      rcases Nat.le_total us.length vs.length with q | q
      · exact .inl (by simp; omega)
      · exact .inr (by simp; omega)
    refine wpAny_bind (zipL_end (A := A.in1) hh D Z hend fun h kk => wpAny_pure (hR _ ?_))
    have nS : S ∉ [z, TO, i1, i2] := by
      simp only [List.mem_cons, List.not_mem_nil, or_false, not_or] at hS ⊢
      exact ⟨hS.1, hS.2.2.1, hS.2.2.2.1, hS.2.2.2.2.1⟩
    have I1 : Inv X pins σ H { s with heap := h, toks := s.toks } := I.turnedL (ch := [z, TO, i1, i2]) kk fun b hb => hf b (List.mem_cons_of_mem _ hb)
    have I2 : Inv X pins σ (upd H S (.lst acc)) { s with heap := h, toks := s.toks } := I1.take (h' := h) (t' := s.toks) (fun b o _ e => e) (hf S (List.mem_cons_self ..)) (show ObjOk X.prog X.w _ _ _ (.lst acc) from ⟨by omega, its, c, ra, kk _ _ nS eS⟩)
    exact ⟨.ref S, _, I2, rfl, hq S (hf S (List.mem_cons_self ..)).1⟩
  | cons p ps ih =>
    intro n acc its H s c hps I Z eS ra hn hf hnx hq
    obtain ⟨g1, g2, g3⟩ := zip_drop hps
    obtain ⟨u, hu, ru⟩ := rx.get g1
    obtain ⟨v, hv, rv⟩ := ry.get g2
    have lS : S < s.heap.objs.size := Heap.lt_size eS
    refine codeAny_builtin F.entry_extend_loop ?_
    rw [Around.under_plainId F.plain_extend_loop _]
    show wpAny _ A.in1 (pyNext (.ref z) >>= _) _ _ s
    refine wpAny_bind (zipL_item D Z lS (x := u) (y := v) (by simpa using hu) (by simpa using hv) fun h Z2 eP kk => ?_)
    have nS : S ∉ [z, TO, i1, i2] := by
      simp only [List.mem_cons, List.not_mem_nil, or_false, not_or] at hS ⊢
      exact ⟨hS.1, hS.2.2.1, hS.2.2.2.1, hS.2.2.2.2.1⟩
    have eS2 := kk _ _ nS eS
    have hlt : n < xs.length := (List.getElem?_eq_some_iff.mp g1).1
    have hil : its.length = n := by rw [← ra.length]; exact hn
    have new : ObjOk X.prog X.w (upd H s.heap.objs.size (.tup [p.1, p.2])) h s.heap.objs.size (.tup [p.1, p.2]) := by
      refine ⟨?_, [u, v], .cons ru (.cons rv .nil), ⟨_, eP, rfl, _, rfl⟩⟩
      show 2 ≤ sizeLine
      decide
    have I1 : Inv X pins σ (upd H s.heap.objs.size (.tup [p.1, p.2])) { s with heap := h, toks := s.toks } := I.turnedNew (ch := [z, TO, i1, i2]) kk (fun b hb => hf b (List.mem_cons_of_mem _ hb)) (Nat.le_refl _) new
    have hlt2 : ∀ b ∈ [S, z, TO, i1, i2], b ≠ s.heap.objs.size := fun b hb e => by
      have hne : s.heap.get? b = none := by
        cases q : s.heap.get? b with
        | none => rfl
        | some o => exact absurd (Heap.lt_size q) (by rw [e]; exact Nat.lt_irrefl _)
      simp only [List.mem_cons, List.not_mem_nil, or_false] at hb
      rcases hb with rfl | rfl | rfl | rfl | rfl
      · rw [eS] at hne; cases hne
      · obtain ⟨_, q, _⟩ := Z.type
        rw [q] at hne; cases hne
      · obtain ⟨_, q⟩ := Z.o
        rw [q] at hne; cases hne
      · obtain ⟨_, q, _⟩ := Z.a1
        rw [q] at hne; cases hne
      · obtain ⟨_, q, _⟩ := Z.a2
        rw [q] at hne; cases hne
    have fS := fpOk_upd (o := .tup [p.1, p.2]) (hf S (List.mem_cons_self ..)) (hlt2 S (List.mem_cons_self ..))
    have oth : ∀ b o, b ≠ S → h.get? b = some o → (h.update S (Obj.mapSeq (·.push (Value.ref s.heap.objs.size)))).get? b = some o := fun b o hb e => (Heap.get?_update_other _ _ (Ne.symm hb)).trans e
    have I2 : Inv X pins σ (upd H s.heap.objs.size (.tup [p.1, p.2])) { s with heap := h.update S (Obj.mapSeq (·.push (Value.ref s.heap.objs.size))), toks := s.toks } :=
      Inv.turnedL (s := { s with heap := h, toks := s.toks }) (h' := h.update S (Obj.mapSeq (·.push (Value.ref s.heap.objs.size)))) (t' := s.toks) (ch := [S]) I1 (fun b o hb e => oth b o (fun z => hb (by simp [z])) e) fun b hb => by
        rw [List.mem_singleton.mp hb]
        exact fS
    show wpAny _ A.in1 (updateSeq S (·.push (Value.ref s.heap.objs.size)) >>= _) _ _ _
    refine wpAny_bind ?_
    refine wpAny_updateSeq eS2 rfl (wpAny_pure ⟨plainId_quiet F.plain_extend_loop _, ?_⟩) ?_ ?_
    · have e3 : ∃ c2, (h.update S (Obj.mapSeq (·.push (Value.ref s.heap.objs.size)))).get? S = some { cls := .type "list", dict := none, data := .seq (its.toArray.push (Value.ref s.heap.objs.size)) c2, slots := #[] } := ⟨_, Heap.get?_update_self _ eS2 rfl⟩
      obtain ⟨c2, e3⟩ := e3
      rw [List.push_toArray] at e3
      exact ih (n + 1) (acc ++ [.ref s.heap.objs.size]) (its ++ [.ref s.heap.objs.size]) _ _ c2 g3 I2 (Z2.but hS oth) e3 (ra.append (.cons (show RelV (V.ref s.heap.objs.size) (Value.ref s.heap.objs.size) from rfl) .nil)) (by rw [List.length_append, hn]; rfl) (fun b hb => fpOk_upd (hf b hb) (hlt2 b hb)) hlt (hq _ I.fresh)
    · simp; omega
    · simp; omega
theorem zipL_call {E : Value → Shared → Prop} {z TI TO i1 i2 l1 l2 : Addr} {us vs : List Value} {xs ys : List V} {H : Hp} {s : Shared} {fa fb : Value} (hh : A.handled = none) (I : Inv X pins σ H s) (D : ZipApart z TI TO i1 i2 l1 l2)
    (ez : IsZip s.heap z TI TO .none) (et : IsPair s.heap TI (.ref i1) (.ref i2)) (eo : IsPair s.heap TO fa fb) (k1 : s.heap.IsListIter i1 l1 0) (k2 : s.heap.IsListIter i2 l2 0) (m1 : s.heap.IsList l1 us.toArray) (m2 : s.heap.IsList l2 vs.toArray)
    (rx : Vals xs us) (ry : Vals ys vs) (hlen : xs.length ≤ sizeLine) (hf : ∀ b ∈ [z, TO, i1, i2], FpOk X pins H b) (hq : zipGo (xs.zip ys) [] H Q) :
    wpAny (model X.prog X.w) A (call (.type "list") [.ref z]) (EP X pins σ Q) E s := by
  refine callType_codes (Q₁ := fun v q => v = .ref s.heap.objs.size ∧ q = { s with heap := s.heap.push { cls := .type "list", data := .seq #[] } }) F.called_list (F.typeCall_list_1 _) F.entry_list_init (code_list_new _ ⟨rfl, rfl⟩) ?_
  rintro _ _ ⟨rfl, rfl⟩
  have e0 : (s.heap.push { cls := .type "list", data := .seq #[] }).get? s.heap.objs.size = some { cls := .type "list", data := .seq #[] } := Heap.get?_push_size _ rfl
  have z0 : IsZip (s.heap.push { cls := .type "list", data := .seq #[] }) z TI TO .none := Heap.get?_push_of_some _ ez
  have lz : z < s.heap.objs.size := Heap.lt_size ez
  refine ⟨⟨_, e0, rfl⟩, F.args_list_init_2 _ _, ?_⟩
  generalize hS : s.heap.objs.size = S at e0 lz ⊢
  generalize hg : s.heap.push { cls := .type "list", data := .seq #[] } = g at e0 z0 ⊢
  have kg : ∀ b o, s.heap.get? b = some o → g.get? b = some o := fun b o e => hg ▸ Heap.get?_push_of_some _ e
  show wpAny _ A.in1.in1 (Builtin.List.listItems (.ref S) >>= fun old => Builtin.List.listUpdate (.ref S) (fun _ => #[]) >>= fun _ => letGo old.toList.reverse >>= fun _ => Builtin.List.listExtendWith (.ref S) (.ref z) .none) _ _ _
  refine wpAny_bind ?_
  unfold Builtin.List.listItems
  refine wpAny_bind (wpAny_seqItems e0 rfl (wpAny_pure ?_))
  refine wpAny_bind ?_
  show wpAny _ A.in1.in1 (updateSeq S fun _ => (#[] : Array Value)) _ _ _
  refine wpAny_updateSeq e0 rfl ?_
  have e1 := Heap.get?_update_self (Obj.mapSeq fun _ => (#[] : Array Value)) e0 rfl
  have o1 : ∀ b o, b ≠ S → g.get? b = some o → (g.update S (Obj.mapSeq fun _ => (#[] : Array Value))).get? b = some o := fun b o hb e => (Heap.get?_update_other _ _ (Ne.symm hb)).trans e
  generalize hg1 : g.update S (Obj.mapSeq fun _ => (#[] : Array Value)) = g1 at e1 o1 ⊢
  refine wpAny_bind (wpAny_letGo ?_)
  have nz : z ≠ S := Nat.ne_of_lt lz
  have z1 : IsZip g1 z TI TO .none := o1 _ _ nz z0
  have tz : ∀ q : Shared, q.heap = g1 → q.TypeIs (.ref z) "zip" := fun q e => ⟨_, by rw [e]; exact z1, rfl⟩
  unfold Builtin.List.listExtendWith
  refine wpAny_bind (wpAny_typeOf (tz _ rfl) ?_)
  have c1 : Builtin.List.listSameRef (.ref S) (.ref z) = false := by simp [Builtin.List.listSameRef, Ne.symm nz]
  have c2 : (Value.type "zip" == Value.type "list") = false := by decide
  have c3 : (Value.type "zip" == Value.type "tuple") = false := by decide
  simp only [c1, c2, c3, Bool.or_false, Bool.false_eq_true, if_false]
  refine wpAny_bind (wpAny_pyIter_zip z1 ?_)
  refine wpAny_bind (wpAny_holding ?_)
  unfold Builtin.List.listLengthHint
  refine wpAny_bind (wpAny_specialOf (tz _ rfl) zipL_no_len ?_)
  show wpAny _ A.in1.in1 (specialOf (Value.ref z) (Str.ofString "__length_hint__") >>= _) _ _ _
  refine wpAny_bind (wpAny_specialOf (tz _ rfl) zipL_no_hint (wpAny_pure ?_))
  show wpAny _ A.in1.in1 (rule "list.extend.makes-room" >>= fun _ => Builtin.List.listTouch (.ref S) >>= fun _ => again (.builtin "list.extend.loop" ⟨[.ref S, .ref z, .none], []⟩)) _ _ _
  refine wpAny_bind (wpAny_rule (wpAny_bind ?_))
  show wpAny _ A.in1.in1 (updateSeq S (·.push .none) >>= fun _ => updateSeq S (·.pop)) _ _ _
  refine wpAny_bind (wpAny_updateSeq e1 rfl ?_)
  have e2 := Heap.get?_update_self (Obj.mapSeq (·.push Value.none)) e1 rfl
  refine wpAny_updateSeq (hz := by seq_fits) e2 rfl (wpAny_pure ⟨plainId_quiet F.plain_extend_loop _, ?_⟩)
  have e3 := Heap.get?_update_self (Obj.mapSeq (·.pop)) e2 rfl
  have o3 : ∀ b o, b ≠ S → g1.get? b = some o → ((g1.update S (Obj.mapSeq (·.push Value.none))).update S (Obj.mapSeq (·.pop))).get? b = some o := fun b o hb e => by
    rw [Heap.get?_update_other _ _ (Ne.symm hb), Heap.get?_update_other _ _ (Ne.symm hb)]
    exact e
  generalize hg3 : (g1.update S (Obj.mapSeq (·.push Value.none))).update S (Obj.mapSeq (·.pop)) = g3 at e3 o3 ⊢
  have all : ∀ b o, s.heap.get? b = some o → g3.get? b = some o := fun b o e => by
    have nb : b ≠ S := by rw [← hS]; exact Nat.ne_of_lt (Heap.lt_size e)
    exact o3 _ _ nb (o1 _ _ nb (kg _ _ e))
  have I3 : Inv X pins σ H { s with heap := g3, toks := s.toks } := I.kept all
  have nS : ∀ b o, s.heap.get? b = some o → S ≠ b := fun b o e => by rw [← hS]; exact Nat.ne_of_gt (Heap.lt_size e)
  have lt : ∀ {b : Addr} {o : Obj}, s.heap.get? b = some o → S ≠ b := fun {b o} e => nS b o e
  obtain ⟨_, q1, _⟩ := id k1
  obtain ⟨_, q2, _⟩ := id k2
  obtain ⟨_, q3, _⟩ := id m1
  obtain ⟨_, q4, _⟩ := id m2
  refine zipL_loop (A := A.in1) (S := S) (TI := TI) (TO := TO) (i1 := i1) (i2 := i2) (l1 := l1) (l2 := l2) (us := us) (vs := vs) (xs := xs) (ys := ys) (Q := Q) hh D ?_ rx ry hlen (fun s' h => ⟨rfl, h⟩) (xs.zip ys) 0 [] [] H _ _ rfl I3 ⟨.inl ⟨all _ _ ez, _, _, all _ _ eo⟩, all _ _ et, ⟨_, all _ _ eo⟩, k1.at (fun o e => all _ o e), k2.at (fun o e => all _ o e), m1.at (fun o e => all _ o e), m2.at (fun o e => all _ o e)⟩ e3 .nil rfl ?_ (Nat.zero_le _) hq
  · simp only [List.mem_cons, List.not_mem_nil, or_false, not_or]
    exact ⟨lt ez, lt et, lt eo, lt q1, lt q2, lt q3, lt q4⟩
  · intro b hb
    rcases List.mem_cons.mp hb with rfl | hb
    · exact I.fpOk (by rw [hS]; exact Nat.le_refl _) (by rw [← hS]; exact I.fresh)
    · exact hf b hb
end
section
variable {X : Cx} {G : Gx X.K}
def tLstZip (K : PySem.W.Frag) (ta : TA) : TE := fun σ H Q => ta σ H fun us H1 => ∃ a b xs ys, us = [.ref a, .ref b] ∧ SqL K H1 a xs ∧ SqL K H1 b ys ∧ zipGo (xs.zip ys) [] H1 Q
theorem pe_lstZip {e e2 : Expr} {ta : TA} {p p2 pos pos2 : Pos} (hc : X.calm = true) (hg : Gl X "list") (hm : X.mg "list" = none) (hg2 : Gl X "zip") (hm2 : X.mg "zip" = none) (ha : PA X [e, e2] ta)
    (hs : starEach [e, e2] X.env = (false, eval e X.env) :: starEach [e2] X.env) (hpl : (backTo pos2 (starEach [e2] X.env)).any (·.1) = false)
    (nb : starEach [(.Call (.Name "zip" p2) [e, e2] [] pos2)] X.env = (false, eval (.Call (.Name "zip" p2) [e, e2] [] pos2) X.env) :: starEach [] X.env) :
    PE X (.Call (.Name "list" p) [.Call (.Name "zip" p2) [e, e2] [] pos2] [] pos) (tLstZip X.K ta) := by
  refine ⟨fun pins s σ H Q I h => ?_⟩
  refine Call_ (ld_blt I hg hm boot_list (PyProof.Rows.callWith_type1 (args_cons ?_ nb) nb))
  refine Call_ (ld_blt I hg2 hm2 PyProof.Rows.boot_zip (PyProof.Rows.callWith_type1 (thn (ha.run pos2 pins s σ H _ I h) ?_) hs hpl))
  rintro us s1 ⟨vs, H1, I1, r1, a, b, xs, ys, rfl, qx, qy, q⟩
  cases r1 with
  | cons ra rr =>
    cases rr with
    | cons rb rr =>
      cases rr
      cases ra
      cases rb
      obtain ⟨its, rv, p1, z1⟩ := I1.list qx
      obtain ⟨jts, rw, p2, z2⟩ := I1.list qy
      refine call_zip_2 p1.isList p2.isList fun h' ez et eo k1 k2 _ kk => args_nil ?_
      have I2 : Inv X pins σ H1 { s1 with heap := h', toks := s1.toks } := I1.kept kk
      refine zipL_call (s := { s1 with heap := h' }) (I.ok.hd hc) I2 (PySem.W.ktu_apart s1.heap.objs.size a b p1.lt p2.lt) ez et eo k1 k2 (p1.isList.at fun o e => kk _ o e) (p2.isList.at fun o e => kk _ o e) rv rw z1 (fun c hcm => ?_) q
      have lc : s1.heap.objs.size ≤ c := by
        simp only [List.mem_cons, List.not_mem_nil, or_false] at hcm
        rcases hcm with z | z | z | z <;> subst z
        · exact Nat.le_add_right _ _
        · exact Nat.le_add_right _ _
        · exact Nat.le_refl _
        · exact Nat.le_add_right _ _
      exact I1.fpOk lc (I1.hok.fresh lc)
theorem zipGo_rp {σ : L2.St} {δ : Slots} {μ : Mo} {Q : VK} : ∀ {xs ys acc : List V} {ds es dacc : List D} {F H : Hp}, RpL X.K F xs ds → RpL X.K F ys es → RpL X.K F acc dacc → Rel X.K G F H σ δ μ →
    (∀ F2 H2 v, Same F F2 → Rel X.K G F2 H2 σ δ μ → Rp X.K F2 v (.lst (dacc ++ zipD ds es)) → Q v H2) → zipGo (xs.zip ys) acc H Q := by
  have fin : ∀ {acc : List V} {dacc : List D} {F H : Hp}, RpL X.K F acc dacc → Rel X.K G F H σ δ μ → (∀ F2 H2 v, Same F F2 → Rel X.K G F2 H2 σ δ μ → Rp X.K F2 v (.lst dacc) → Q v H2) → zipGo [] acc H Q := by
    intro acc dacc F H rc R k S hS
    have s4 := same_upd (o := .lst acc) (R.m.freeF hS)
    exact k _ _ _ s4 (R.to s4 (R.m.laid hS _)) (.lst upd_same (rc.mono s4))
  intro xs
  induction xs with
  | nil =>
    intro ys acc ds es dacc F H r1 r2 rc R k
    cases r1
    refine fin rc R fun F2 H2 v s2 R2 rv => k F2 H2 v s2 R2 ?_
    simpa [zipD] using rv
  | cons x xs ih =>
    intro ys acc ds es dacc F H r1 r2 rc R k
    cases r1 with
    | cons q1 r1 =>
      cases r2 with
      | nil =>
        refine fin rc R fun F2 H2 v s2 R2 rv => k F2 H2 v s2 R2 ?_
        simpa [zipD] using rv
      | cons q2 r2 =>
        rename_i y ys2 e2 es2
        intro T hT
        have s4 := same_upd (o := .tup [x, y]) (R.m.freeF hT)
        refine ih (r1.mono s4) (r2.mono s4) ((rc.mono s4).snoc (.tup upd_same (.cons (q1.mono s4) (.cons (q2.mono s4) .nil)))) (R.to s4 (R.m.laid hT _)) fun F2 H2 v s2 R2 rv => k F2 H2 v (s4.trans s2) R2 ?_
        simpa [zipD] using rv
def dLstZip (da : DA) : DE := fun δ μ Q => da δ μ fun xs μ1 => ∃ ds es, xs = [.lst ds, .lst es] ∧ Q (.lst (zipD ds es)) μ1
theorem xe_lstZip {e e2 : Expr} {da : DA} {p p2 pos pos2 : Pos} (hm : X.mg "list" = none) (hm2 : X.mg "zip" = none) (ha : XA X G [e, e2] da) (hc : X.calm = true := by rfl) (hg : Gl X "list" := by rfl) (hg2 : Gl X "zip" := by rfl)
    (hs : starEach [e, e2] X.env = (false, eval e X.env) :: starEach [e2] X.env := by rfl) (hpl : (backTo pos2 (starEach [e2] X.env)).any (·.1) = false := by rfl)
    (nb : starEach [(.Call (.Name "zip" p2) [e, e2] [] pos2)] X.env = (false, eval (.Call (.Name "zip" p2) [e, e2] [] pos2) X.env) :: starEach [] X.env := by rfl) :
    XE X G (.Call (.Name "list" p) [.Call (.Name "zip" p2) [e, e2] [] pos2] [] pos) (dLstZip da) := by
  obtain ⟨t, q, s⟩ := ha
  refine ⟨_, pe_lstZip hc hg hm hg2 hm2 q hs hpl nb, fun F H σ δ μ Q' Q R h k => s F H σ δ μ _ _ R h fun F1 H1 μ1 vs xs s1 R1 r1 ⟨ds, es, e1, h1⟩ => ?_⟩
  subst e1
  obtain ⟨v, w, rfl, r2, r3⟩ := rpl2 r1
  obtain ⟨a, us, rfl, ha1, ha2, ha3⟩ := rpLst R1.m r2
  obtain ⟨b, ws, rfl, hb1, hb2, hb3⟩ := rpLst R1.m r3
  exact ⟨a, b, us, ws, rfl, SqL.of ha1, SqL.of hb1, zipGo_rp ha2 hb2 .nil R1 fun F2 H2 u s2 R2 ru => k _ _ μ1 _ _ (s1.trans s2) R2 ru h1⟩
end
end DL

open DL in
local macro_rules | `(tactic| walk_at "dl") => `(tactic| simp [DL.startD, DL.dSeq, DL.dNext, DL.dAsg, DL.dgName, DL.dVar, DL.dC, DL.dOp, DL.fI0, DL.fI, DL.dRet, DL.dRetN, DL.dRetF, DL.dIfS, DL.dB, DL.dAnd, DL.dOr, DL.dNot, DL.dAndV, DL.dOrV, DL.dNotV, DL.dIf, DL.dNil, DL.dCons, DL.dTup, DL.dLst, DL.dLstM, DL.dCB, DL.dgTup, DL.dgCons, DL.dgNil, DL.dChain, DL.dChain3, DL.dRevT, DL.dRevL, DL.dNeg, DL.fAdd_int, DL.fAdd_tup, DL.fAdd_lst, DL.fIx, DL.itemsOf, DL.dgSub, DL.dPar, DL.dCall, DL.dMeth, DL.dMeth0, DL.dSMeth, DL.dCMeth, DL.dProp, DL.dMake, DL.dMakeL, DL.dFld, DL.dFldSet, DL.dDrop, DL.fLen, DL.fInt, DL.fIsN, DL.fNotN, DL.fNotB, DL.isNon, DL.diSeq, DL.diRng1, DL.diRng2, DL.diRng3, DL.updM_same, DL.updM_updM, DL.dSl, DL.dPart, DL.dNoPart, DL.fIsT, DL.fIsR, DL.okTy, DL.tyName, DL.kitT, DL.isRule, DL.atI_0, DL.atI_1, DL.atI_2, DL.atI_3, DL.ixN_0, DL.ixN_1, DL.ixN_1', DL.fEqI, DL.fNeI, DL.dYes, DL.fAbs, DL.dFrz, DL.dAppend, PySem.sizeLine_eq, DL.dFor_eq, DL.dTryC, DL.clsD, DL.dCalL, DL.dLam, DL.dRaise, DL.diLst, DL.fAddM,  DL.fTuple_lst, DL.fList_tup, DL.dSortSet,  L2.CPow,  DL.dNever, DL.atI_2m1, DL.atI_2m2, DL.atI_3m1, DL.atI_3m2,  DL.rcv_rounded, DL.rcv_charge,  DL.wipeD,  DL.fMax_2, DL.fMin_2,  DL.dLc_eq, DL.dLc2_eq, DL.fNeRule, DL.fEqRule, DL.dCallK, DL.ncxD_K, DL.ncxD_prog, DL.ncxD_w, DL.ncxD_mg, DL.ncxD_base, DL.startN, DL.dCallN, DL.CapS, DL.dGetN, DL.dNotInN, DL.dPutN, DL.dNewN, DL.dDef, DL.dCount, DL.dIndex, DL.dPropF, DL.diZip, DL.fSum,  and_assoc, bne_iff_ne, DL.cxD_K, DL.diEnum, DL.diEnumT, DL.dLstZip, DL.fReprB,  DL.fNe_nn, DL.fNe_bl, DL.fEq_bl, DL.fNe_strB, DL.dTupRg, DL.dLstRg, DL.dLstRn, DL.fRg, DL.dGetT, DL.dNotInT, DL.dInT, DL.dPutT, DL.dDctNew, DL.cutD_last,  DL.cxD_prog, DL.cxD_w, DL.cxD_mg, DL.cxD_base, DL.cxD_qual, -Bool.exists_bool, -Prod.exists, -Prod.forall, -Bool.not_eq_eq_eq_not, Bool.not_eq_true', decide_eq_false_iff_not])
local macro_rules | `(tactic| walk_at "dls") => `(tactic| simp [DL.startD, DL.dSeq, DL.dNext, DL.dAsg, DL.dgName, DL.dVar, DL.dC, DL.dOp, DL.fI0, DL.fI, DL.dRet, DL.dRetN, DL.dRetF, DL.dIfS, DL.dB, DL.dAnd, DL.dOr, DL.dNot, DL.dAndV, DL.dOrV, DL.dNotV, DL.dIf, DL.dNil, DL.dCons, DL.dTup, DL.dLst, DL.dLstM, DL.dCB, DL.dgTup, DL.dgCons, DL.dgNil, DL.dChain, DL.dChain3, DL.dRevT, DL.dRevL, DL.dNeg, DL.fAdd_int, DL.fAdd_tup, DL.fAdd_lst, DL.fIx, DL.itemsOf, DL.dgSub, DL.dPar, DL.dCall, DL.dMeth, DL.dMeth0, DL.dSMeth, DL.dCMeth, DL.dProp, DL.dMake, DL.dMakeL, DL.dFld, DL.dFldSet, DL.dDrop, DL.fLen, DL.fInt, DL.fIsN, DL.fNotN, DL.fNotB, DL.isNon, DL.diSeq, DL.diRng1, DL.diRng2, DL.diRng3, DL.updM_same, DL.updM_updM, DL.dSl, DL.dPart, DL.dNoPart, DL.fIsT, DL.fIsR, DL.okTy, DL.tyName, DL.kitT, DL.isRule, DL.atI_0, DL.atI_1, DL.atI_2, DL.atI_3, DL.ixN_0, DL.ixN_1, DL.ixN_1', DL.fEqI, DL.fNeI, DL.dYes, DL.fAbs, DL.dFrz, DL.dAppend, PySem.sizeLine_eq, DL.dFor_eq, DL.dTryC, DL.clsD, DL.dCalL, DL.dLam, DL.dRaise, DL.diLst, DL.fAddM,  DL.fTuple_lst, DL.fList_tup, DL.dSortSet,  L2.CPow,  DL.dNever, DL.atI_2m1, DL.atI_2m2, DL.atI_3m1, DL.atI_3m2,  DL.rcv_rounded, DL.rcv_charge,  DL.wipeD,  DL.fMax_2, DL.fMin_2,  DL.dLc_eq, DL.dLc2_eq, DL.fNeRule, DL.fEqRule, DL.dCallK, DL.ncxD_K, DL.ncxD_prog, DL.ncxD_w, DL.ncxD_mg, DL.ncxD_base, DL.startN, DL.dCallN, DL.CapS, DL.dGetN, DL.dNotInN, DL.dPutN, DL.dNewN, DL.dDef, DL.dCount, DL.dIndex, DL.dPropF, DL.diZip, DL.fSum,  and_assoc, bne_iff_ne, DL.cxD_K, DL.diEnum, DL.diEnumT, DL.dLstZip, DL.fReprB,  DL.fNe_nn, DL.fNe_bl, DL.fEq_bl, DL.fNe_strB, DL.dTupRg, DL.dLstRg, DL.dLstRn, DL.fRg, DL.dGetT, DL.dNotInT, DL.dInT, DL.dPutT, DL.dDctNew, DL.cutD_last,  DL.cxD_prog, DL.cxD_w, DL.cxD_mg, DL.cxD_base, DL.cxD_qual, -Bool.exists_bool, -Prod.exists, -Prod.forall, -Bool.not_eq_eq_eq_not, Bool.not_eq_true', decide_eq_false_iff_not, *])
local macro_rules | `(tactic| walk_at "dlq") => `(tactic| simp -failIfUnchanged only [DL.startD, DL.dSeq, DL.dNext, DL.dAsg, DL.dgName, DL.dVar, DL.dC, DL.dOp, DL.fI0, DL.fI, DL.dRet, DL.dRetN, DL.dRetF, DL.dIfS, DL.dB, DL.dAnd, DL.dOr, DL.dNot, DL.dAndV, DL.dOrV, DL.dNotV, DL.dIf, DL.dNil, DL.dCons, DL.dTup, DL.dLst, DL.dLstM, DL.dCB, DL.dgTup, DL.dgCons, DL.dgNil, DL.dChain, DL.dChain3, DL.dRevT, DL.dRevL, DL.dNeg, DL.fAdd_int, DL.fAdd_tup, DL.fAdd_lst, DL.fIx, DL.itemsOf, DL.dgSub, DL.dPar, DL.dCall, DL.dMeth, DL.dMeth0, DL.dSMeth, DL.dCMeth, DL.dProp, DL.dMake, DL.dMakeL, DL.dFld, DL.dFldSet, DL.dDrop, DL.fLen, DL.fInt, DL.fIsN, DL.fNotN, DL.fNotB, DL.isNon, DL.diSeq, DL.diRng1, DL.diRng2, DL.diRng3, DL.updM_same, DL.updM_updM, DL.dSl, DL.dPart, DL.dNoPart, DL.fIsT, DL.fIsR, DL.okTy, DL.tyName, DL.kitT, DL.isRule, DL.atI_0, DL.atI_1, DL.atI_2, DL.atI_3, DL.ixN_0, DL.ixN_1, DL.ixN_1', DL.fEqI, DL.fNeI, DL.dYes, DL.fAbs, DL.dFrz, DL.dAppend, PySem.sizeLine_eq, DL.dFor_eq, DL.dTryC, DL.clsD, DL.dCalL, DL.dLam, DL.dRaise, DL.diLst, DL.fAddM,  DL.fTuple_lst, DL.fList_tup, DL.dSortSet,  L2.CPow,  DL.dNever, DL.atI_2m1, DL.atI_2m2, DL.atI_3m1, DL.atI_3m2,  DL.rcv_rounded, DL.rcv_charge,  DL.wipeD,  DL.fMax_2, DL.fMin_2,  DL.dLc_eq, DL.dLc2_eq, DL.fNeRule, DL.fEqRule, DL.dCallK, DL.ncxD_K, DL.ncxD_prog, DL.ncxD_w, DL.ncxD_mg, DL.ncxD_base, DL.startN, DL.dCallN, DL.CapS, DL.dGetN, DL.dNotInN, DL.dPutN, DL.dNewN, DL.dDef, DL.dCount, DL.dIndex, DL.dPropF, DL.diZip, DL.fSum,  and_assoc, Option.some.injEq, D.int.injEq, D.bl.injEq, D.tup.injEq, List.set_cons_zero, List.set_cons_succ, List.getElem?_cons_zero, List.getElem?_cons_succ, exists_eq_left, exists_eq_left', true_and, and_true, exists_const, List.map_cons, List.map_nil, List.length_cons, List.length_nil, Nat.reduceAdd, Nat.reduceSub, List.replicate, List.cons_append, List.nil_append, decide_eq_true_eq, Nat.zero_add])
namespace Pf
open PySem PySem.Spec PyProof.Rows L2 DL
def top (i : Nat) : Stmt := PySem.Challenge.pw_coinsplits_k19_whole_numbers_of_receipts.main.body.getD i (.Pass ⟨0, 0, 0, 0⟩)
abbrev s_is_integer : Stmt := top 10
theorem sc_is_integer : FnScope ["value", "low", "high"] ["value", "low", "high"] (defScope s_is_integer) := ⟨rfl, rfl, rfl, by decide +kernel, rfl, by decide +kernel, by decide +kernel⟩
abbrev s_Rule_is_valid : Stmt := inClass (top 11) 2
theorem sc_Rule_is_valid : FnScope ["coin", "up_from"] ["coin", "up_from"] (defScope s_Rule_is_valid) := ⟨rfl, rfl, rfl, by decide +kernel, rfl, by decide +kernel, by decide +kernel⟩
abbrev s_Rule_init : Stmt := inClass (top 11) 1
theorem sc_Rule_init : FnScope ["self", "coin", "up_from"] ["self", "coin", "up_from"] (defScope s_Rule_init) := ⟨rfl, rfl, rfl, by decide +kernel, rfl, by decide +kernel, by decide +kernel⟩
abbrev s_Rule_rounded : Stmt := inClass (top 11) 10
theorem sc_Rule_rounded : FnScope ["self", "whole"] ["self", "whole"] (defScope s_Rule_rounded) := ⟨rfl, rfl, rfl, by decide +kernel, rfl, by decide +kernel, by decide +kernel⟩
abbrev s_need_amount : Stmt := top 13
theorem sc_need_amount : FnScope ["value"] ["value"] (defScope s_need_amount) := ⟨rfl, rfl, rfl, by decide +kernel, rfl, by decide +kernel, by decide +kernel⟩
abbrev s_Rule_charge : Stmt := inClass (top 11) 11
theorem sc_Rule_charge : FnScope ["self", "amounts", "amount"] ["self", "amounts"] (defScope s_Rule_charge) := ⟨rfl, rfl, rfl, by decide +kernel, rfl, by decide +kernel, by decide +kernel⟩
abbrev s_law_cell_at : Stmt := top 32
theorem sc_law_cell_at : FnScope ["script", "k"] ["script", "k"] (defScope s_law_cell_at) := ⟨rfl, rfl, rfl, by decide +kernel, rfl, by decide +kernel, by decide +kernel⟩
abbrev s_law_draws : Stmt := top 33
theorem sc_law_draws : FnScope ["cell", "many", "size", "found", "rest", "stirred", "k"] ["cell", "many", "size"] (defScope s_law_draws) := ⟨rfl, rfl, rfl, by decide +kernel, rfl, by decide +kernel, by decide +kernel⟩
abbrev s_law_bag : Stmt := top 34
theorem sc_law_bag : FnScope ["script", "k"] ["script", "k"] (defScope s_law_bag) := ⟨rfl, rfl, rfl, by decide +kernel, rfl, by decide +kernel, by decide +kernel⟩
abbrev s_law_bags : Stmt := top 35
theorem sc_law_bags : FnScope ["script", "limit", "k"] ["script", "limit"] (defScope s_law_bags) := ⟨rfl, rfl, rfl, by decide +kernel, rfl, by decide +kernel, by decide +kernel⟩
abbrev s_law_take : Stmt := top 36
theorem sc_law_take : FnScope ["bag", "many"] ["bag", "many"] (defScope s_law_take) := ⟨rfl, rfl, rfl, by decide +kernel, rfl, by decide +kernel, by decide +kernel⟩
abbrev s_law_far_draw : Stmt := top 37
theorem sc_law_far_draw : FnScope ["bag", "many", "found", "much"] ["bag", "many"] (defScope s_law_far_draw) := ⟨rfl, rfl, rfl, by decide +kernel, rfl, by decide +kernel, by decide +kernel⟩
abbrev s_law_basket : Stmt := top 40
theorem sc_law_basket : FnScope ["bag", "pair", "most", "found", "turn", "small", "near", "some"] ["bag", "pair", "most"] (defScope s_law_basket) := ⟨rfl, rfl, rfl, by decide +kernel, rfl, by decide +kernel, by decide +kernel⟩
abbrev s_law_rounded : Stmt := top 39
theorem sc_law_rounded : FnScope ["pair", "whole", "coin", "border", "rest"] ["pair", "whole"] (defScope s_law_rounded) := ⟨rfl, rfl, rfl, by decide +kernel, rfl, by decide +kernel, by decide +kernel⟩
abbrev s_law_rule : Stmt := top 38
theorem sc_law_rule : FnScope ["bag", "most", "coin"] ["bag", "most"] (defScope s_law_rule) := ⟨rfl, rfl, rfl, by decide +kernel, rfl, by decide +kernel, by decide +kernel⟩
abbrev s_Search_init : Stmt := inClass (top 23) 0
theorem sc_Search_init : FnScope ["self", "rule", "basket"] ["self", "rule", "basket"] (defScope s_Search_init) := ⟨rfl, rfl, rfl, by decide +kernel, rfl, by decide +kernel, by decide +kernel⟩
abbrev s_Search_receipt : Stmt := inClass (top 23) 1
theorem sc_Search_receipt : FnScope ["self", "chosen", "index"] ["self", "chosen"] (defScope s_Search_receipt) := ⟨rfl, rfl, rfl, by decide +kernel, rfl, by decide +kernel, by decide +kernel⟩
abbrev s_partings : Stmt := top 22
theorem sc_partings : FnScope ["items", "found", "item", "more", "chosen", "left"] ["items"] (defScope s_partings) := ⟨rfl, rfl, rfl, by decide +kernel, rfl, by decide +kernel, by decide +kernel⟩
abbrev s_Search_bounds : Stmt := inClass (top 23) 2
theorem sc_Search_bounds : FnScope ["self", "items", "rows", "chosen", "left", "low", "high", "receipts", "ways", "paid", "least", "good", "fewest", "row"] ["self", "items"] (defScope s_Search_bounds) := ⟨rfl, rfl, rfl, by decide +kernel, rfl, by decide +kernel, by decide +kernel⟩
abbrev s_Search_best : Stmt := inClass (top 23) 3
theorem sc_Search_best : FnScope ["self", "items", "low", "high", "receipts", "ways", "chosen", "left", "rest"] ["self", "items"] (defScope s_Search_best) := ⟨rfl, rfl, rfl, by decide +kernel, rfl, by decide +kernel, by decide +kernel⟩
abbrev s_all_items : Stmt := top 24
theorem sc_all_items : FnScope ["basket"] ["basket"] (defScope s_all_items) := ⟨rfl, rfl, rfl, by decide +kernel, rfl, by decide +kernel, by decide +kernel⟩
abbrev s_need_basket : Stmt := top 16
theorem sc_need_basket : FnScope ["value", "most", "one"] ["value", "most"] (defScope s_need_basket) := ⟨rfl, rfl, rfl, by decide +kernel, rfl, by decide +kernel, by decide +kernel⟩
abbrev s_need_rule : Stmt := top 12
theorem sc_need_rule : FnScope ["value"] ["value"] (defScope s_need_rule) := ⟨rfl, rfl, rfl, by decide +kernel, rfl, by decide +kernel, by decide +kernel⟩
abbrev s_best_splitting : Stmt := top 27
theorem sc_best_splitting : FnScope ["rule", "basket", "fewest"] ["rule", "basket", "fewest"] (defScope s_best_splitting) := ⟨rfl, rfl, rfl, by decide +kernel, rfl, by decide +kernel, by decide +kernel⟩
abbrev s_greatest_total : Stmt := top 26
theorem sc_greatest_total : FnScope ["rule", "basket"] ["rule", "basket"] (defScope s_greatest_total) := ⟨rfl, rfl, rfl, by decide +kernel, rfl, by decide +kernel, by decide +kernel⟩
abbrev s_is_receipt : Stmt := top 17
theorem sc_is_receipt : FnScope ["count", "value", "one", "other"] ["count", "value"] (defScope s_is_receipt) := ⟨rfl, rfl, rfl, by decide +kernel, rfl, by decide +kernel, by decide +kernel⟩
abbrev s_splits : Stmt := top 18
theorem sc_splits : FnScope ["count", "value", "there", "receipt", "index"] ["count", "value"] (defScope s_splits) := ⟨rfl, rfl, rfl, by decide +kernel, rfl, by decide +kernel, by decide +kernel⟩
abbrev s_is_splitting : Stmt := top 19
theorem sc_is_splitting : FnScope ["basket", "value"] ["basket", "value"] (defScope s_is_splitting) := ⟨rfl, rfl, rfl, by decide +kernel, rfl, by decide +kernel, by decide +kernel⟩
abbrev s_least_total : Stmt := top 25
theorem sc_least_total : FnScope ["rule", "basket"] ["rule", "basket"] (defScope s_least_total) := ⟨rfl, rfl, rfl, by decide +kernel, rfl, by decide +kernel, by decide +kernel⟩
abbrev s_least_with : Stmt := top 28
theorem sc_least_with : FnScope ["rule", "basket", "receipts", "search", "known", "least"] ["rule", "basket", "receipts"] (defScope s_least_with) := ⟨rfl, rfl, rfl, by decide +kernel, rfl, by decide +kernel, by decide +kernel⟩
def s_least_with_least : Stmt := (defBody s_least_with).getD 4 (.Pass ⟨0, 0, 0, 0⟩)
theorem sc_least_with_least : NdefX.NScope ["items", "many", "known", "least", "search", "rows", "chosen", "left", "rest"] ["items", "many"] ["known", "least", "search"] (C8.fnScope s_least_with_least) := NdefX.nscope_by (by decide +kernel)
abbrev s_splitting_gain : Stmt := top 30
theorem sc_splitting_gain : FnScope ["rule", "basket"] ["rule", "basket"] (defScope s_splitting_gain) := ⟨rfl, rfl, rfl, by decide +kernel, rfl, by decide +kernel, by decide +kernel⟩
abbrev s_total_of : Stmt := top 20
theorem sc_total_of : FnScope ["rule", "basket", "splitting", "index", "receipt"] ["rule", "basket", "splitting"] (defScope s_total_of) := ⟨rfl, rfl, rfl, by decide +kernel, rfl, by decide +kernel, by decide +kernel⟩
abbrev s_total : Stmt := top 21
theorem sc_total : FnScope ["rule", "basket", "splitting"] ["rule", "basket", "splitting"] (defScope s_total) := ⟨rfl, rfl, rfl, by decide +kernel, rfl, by decide +kernel, by decide +kernel⟩
abbrev s_law : Stmt := top 41
theorem sc_law : FnScope ["script", "bag", "pair", "rule", "basket", "count", "least", "rows", "none", "known", "one", "other", "splitting", "receipts", "paid", "amount"] ["script"] (defScope s_law) := ⟨rfl, rfl, rfl, by decide +kernel, rfl, by decide +kernel, by decide +kernel⟩
structure Txt (K : PySem.W.Frag) (mg : Str → Option Value) (base : Heap) : Prop where
  R : RuleT K
  S : SearchT K
  g_Rule : mg "Rule" = some (.ref (He.ga K "Rule"))
  g_Search : mg "Search" = some (.ref (He.ga K "Search"))
  g_law_bag : mg "_law_bag" = some (.ref (He.ga K "_law_bag"))
  g_law_bags : mg "_law_bags" = some (.ref (He.ga K "_law_bags"))
  g_law_basket : mg "_law_basket" = some (.ref (He.ga K "_law_basket"))
  g_law_cell_at : mg "_law_cell_at" = some (.ref (He.ga K "_law_cell_at"))
  g_law_draws : mg "_law_draws" = some (.ref (He.ga K "_law_draws"))
  g_law_far_draw : mg "_law_far_draw" = some (.ref (He.ga K "_law_far_draw"))
  g_law_rounded : mg "_law_rounded" = some (.ref (He.ga K "_law_rounded"))
  g_law_rule : mg "_law_rule" = some (.ref (He.ga K "_law_rule"))
  g_law_take : mg "_law_take" = some (.ref (He.ga K "_law_take"))
  g_all_items : mg "all_items" = some (.ref (He.ga K "all_items"))
  g_best_splitting : mg "best_splitting" = some (.ref (He.ga K "best_splitting"))
  g_greatest_total : mg "greatest_total" = some (.ref (He.ga K "greatest_total"))
  g_is_integer : mg "is_integer" = some (.ref (He.ga K "is_integer"))
  g_is_receipt : mg "is_receipt" = some (.ref (He.ga K "is_receipt"))
  g_is_splitting : mg "is_splitting" = some (.ref (He.ga K "is_splitting"))
  g_law : mg "law" = some (.ref (He.ga K "law"))
  g_least_total : mg "least_total" = some (.ref (He.ga K "least_total"))
  g_least_with : mg "least_with" = some (.ref (He.ga K "least_with"))
  g_need_amount : mg "need_amount" = some (.ref (He.ga K "need_amount"))
  g_need_basket : mg "need_basket" = some (.ref (He.ga K "need_basket"))
  g_need_rule : mg "need_rule" = some (.ref (He.ga K "need_rule"))
  g_partings : mg "partings" = some (.ref (He.ga K "partings"))
  g_splits : mg "splits" = some (.ref (He.ga K "splits"))
  g_splitting_gain : mg "splitting_gain" = some (.ref (He.ga K "splitting_gain"))
  g_total : mg "total" = some (.ref (He.ga K "total"))
  g_total_of : mg "total_of" = some (.ref (He.ga K "total_of"))
  z_all : mg "all" = none
  z_bool : mg "bool" = none
  z_int : mg "int" = none
  z_isinstance : mg "isinstance" = none
  z_len : mg "len" = none
  z_list : mg "list" = none
  z_max : mg "max" = none
  z_min : mg "min" = none
  z_range : mg "range" = none
  z_sorted : mg "sorted" = none
  z_sum : mg "sum" = none
  z_tuple : mg "tuple" = none
  z_zip : mg "zip" = none
  i_MAX_AMOUNT : ∃ t, mg "MAX_AMOUNT" = some (.int 1000000000000 t)
  i_MAX_ITEMS : ∃ t, mg "MAX_ITEMS" = some (.int 10 t)
  t_least_with : LamX.TabB base mg (codeA K (He.ga K "least_with")) (tabA K (He.ga K "least_with"))
  f_is_integer : ∃ fd, FunD K "is_integer" "is_integer" (defArgs s_is_integer) (defBody s_is_integer) (defScope s_is_integer) [] [] (He.ga K "is_integer") fd
  f_Rule_is_valid : ∃ fd, FunD K "is_valid" "Rule.is_valid" (defArgs s_Rule_is_valid) (defBody s_Rule_is_valid) (defScope s_Rule_is_valid) [] [] (He5.wf K (He.ga K "Rule") "staticmethod" "is_valid") fd
  f_Rule_init : ∃ fd, FunD K "__init__" "Rule.__init__" (defArgs s_Rule_init) (defBody s_Rule_init) (defScope s_Rule_init) [] [] (He.ma K (He.ga K "Rule") "__init__") fd
  f_Rule_rounded : ∃ fd, FunD K "rounded" "Rule.rounded" (defArgs s_Rule_rounded) (defBody s_Rule_rounded) (defScope s_Rule_rounded) [] [] (He.ma K (He.ga K "Rule") "rounded") fd
  f_need_amount : ∃ fd, FunD K "need_amount" "need_amount" (defArgs s_need_amount) (defBody s_need_amount) (defScope s_need_amount) [] [] (He.ga K "need_amount") fd
  f_Rule_charge : ∃ fd, FunD K "charge" "Rule.charge" (defArgs s_Rule_charge) (defBody s_Rule_charge) (defScope s_Rule_charge) [] [] (He.ma K (He.ga K "Rule") "charge") fd
  f_law_cell_at : ∃ fd, FunD K "_law_cell_at" "_law_cell_at" (defArgs s_law_cell_at) (defBody s_law_cell_at) (defScope s_law_cell_at) [] [] (He.ga K "_law_cell_at") fd
  f_law_draws : ∃ fd, FunD K "_law_draws" "_law_draws" (defArgs s_law_draws) (defBody s_law_draws) (defScope s_law_draws) [] [] (He.ga K "_law_draws") fd
  f_law_bag : ∃ fd, FunD K "_law_bag" "_law_bag" (defArgs s_law_bag) (defBody s_law_bag) (defScope s_law_bag) [] [] (He.ga K "_law_bag") fd
  f_law_bags : ∃ fd, FunD K "_law_bags" "_law_bags" (defArgs s_law_bags) (defBody s_law_bags) (defScope s_law_bags) [] [] (He.ga K "_law_bags") fd
  f_law_take : ∃ fd, FunD K "_law_take" "_law_take" (defArgs s_law_take) (defBody s_law_take) (defScope s_law_take) [] [] (He.ga K "_law_take") fd
  f_law_far_draw : ∃ fd, FunD K "_law_far_draw" "_law_far_draw" (defArgs s_law_far_draw) (defBody s_law_far_draw) (defScope s_law_far_draw) [] [] (He.ga K "_law_far_draw") fd
  f_law_basket : ∃ fd, FunD K "_law_basket" "_law_basket" (defArgs s_law_basket) (defBody s_law_basket) (defScope s_law_basket) [] [] (He.ga K "_law_basket") fd
  f_law_rounded : ∃ fd, FunD K "_law_rounded" "_law_rounded" (defArgs s_law_rounded) (defBody s_law_rounded) (defScope s_law_rounded) [] [] (He.ga K "_law_rounded") fd
  f_law_rule : ∃ fd, FunD K "_law_rule" "_law_rule" (defArgs s_law_rule) (defBody s_law_rule) (defScope s_law_rule) [] [] (He.ga K "_law_rule") fd
  f_Search_init : ∃ fd, FunD K "__init__" "Search.__init__" (defArgs s_Search_init) (defBody s_Search_init) (defScope s_Search_init) [] [] (He.ma K (He.ga K "Search") "__init__") fd
  f_Search_receipt : ∃ fd, FunD K "receipt" "Search.receipt" (defArgs s_Search_receipt) (defBody s_Search_receipt) (defScope s_Search_receipt) [] [] (He.ma K (He.ga K "Search") "receipt") fd
  f_partings : ∃ fd, FunD K "partings" "partings" (defArgs s_partings) (defBody s_partings) (defScope s_partings) [] [] (He.ga K "partings") fd
  f_Search_bounds : ∃ fd, FunD K "bounds" "Search.bounds" (defArgs s_Search_bounds) (defBody s_Search_bounds) (defScope s_Search_bounds) [] [] (He.ma K (He.ga K "Search") "bounds") fd
  f_Search_best : ∃ fd, FunD K "best" "Search.best" (defArgs s_Search_best) (defBody s_Search_best) (defScope s_Search_best) [] [] (He.ma K (He.ga K "Search") "best") fd
  f_all_items : ∃ fd, FunD K "all_items" "all_items" (defArgs s_all_items) (defBody s_all_items) (defScope s_all_items) [] [] (He.ga K "all_items") fd
  f_need_basket : ∃ fd, FunD K "need_basket" "need_basket" (defArgs s_need_basket) (defBody s_need_basket) (defScope s_need_basket) [V.int 10] [] (He.ga K "need_basket") fd
  f_need_rule : ∃ fd, FunD K "need_rule" "need_rule" (defArgs s_need_rule) (defBody s_need_rule) (defScope s_need_rule) [] [] (He.ga K "need_rule") fd
  f_best_splitting : ∃ fd, FunD K "best_splitting" "best_splitting" (defArgs s_best_splitting) (defBody s_best_splitting) (defScope s_best_splitting) [] [(("fewest" : Str), V.bl false)] (He.ga K "best_splitting") fd
  f_greatest_total : ∃ fd, FunD K "greatest_total" "greatest_total" (defArgs s_greatest_total) (defBody s_greatest_total) (defScope s_greatest_total) [] [] (He.ga K "greatest_total") fd
  f_is_receipt : ∃ fd, FunD K "is_receipt" "is_receipt" (defArgs s_is_receipt) (defBody s_is_receipt) (defScope s_is_receipt) [] [] (He.ga K "is_receipt") fd
  f_splits : ∃ fd, FunD K "splits" "splits" (defArgs s_splits) (defBody s_splits) (defScope s_splits) [] [] (He.ga K "splits") fd
  f_is_splitting : ∃ fd, FunD K "is_splitting" "is_splitting" (defArgs s_is_splitting) (defBody s_is_splitting) (defScope s_is_splitting) [] [] (He.ga K "is_splitting") fd
  f_least_total : ∃ fd, FunD K "least_total" "least_total" (defArgs s_least_total) (defBody s_least_total) (defScope s_least_total) [] [] (He.ga K "least_total") fd
  f_least_with : ∃ fd, FunD K "least_with" "least_with" (defArgs s_least_with) (defBody s_least_with) (defScope s_least_with) [] [] (He.ga K "least_with") fd
  f_splitting_gain : ∃ fd, FunD K "splitting_gain" "splitting_gain" (defArgs s_splitting_gain) (defBody s_splitting_gain) (defScope s_splitting_gain) [] [] (He.ga K "splitting_gain") fd
  f_total_of : ∃ fd, FunD K "total_of" "total_of" (defArgs s_total_of) (defBody s_total_of) (defScope s_total_of) [] [] (He.ga K "total_of") fd
  f_total : ∃ fd, FunD K "total" "total" (defArgs s_total) (defBody s_total) (defScope s_total) [] [] (He.ga K "total") fd
  f_law : ∃ fd, FunD K "law" "law" (defArgs s_law) (defBody s_law) (defScope s_law) [] [] (He.ga K "law") fd
def tf : List Mkr := [⟨fun K => (He.ga K "least_with"), "least_with.<locals>.least"⟩]
def plainD : D → Bool
  | .non => true
  | .bl _ => true
  | .int _ => true
  | .str _ => true
  | .tup _ => true
  | .lst _ => true
  | _ => false
def sp_is_integer : SpD := fun ds μ Q _ => ∃ (x : D) (lo hi : Int), ds = [x, .int lo, .int hi] ∧ plainD x = true ∧ Q (.bl (DL.isInt x lo hi)) μ
def validD (x y : D) : Bool := DL.isInt x 2 10 && (match x with | .int c => DL.isInt y 1 c | _ => false)
def sp_Rule_is_valid : SpD := fun ds μ Q _ => ∃ (x y : D), ds = [x, y] ∧ plainD x = true ∧ plainD y = true ∧ Q (.bl (validD x y)) μ
/-- numbers of a rule -/
def Ru (c b : Int) : Prop := 2 ≤ c ∧ c ≤ 10 ∧ 1 ≤ b ∧ b ≤ c
def sp_Rule_init (K : PySem.W.Frag) : SpD := fun ds μ Q _ => ∃ (p : Addr) (c b : Int), ds = [.ref p, .int c, .int b] ∧ μ p = some (.ins (RC K) []) ∧ 2 ≤ c ∧ c ≤ 10 ∧ 1 ≤ b ∧ b ≤ c ∧ Q .non (updM μ p (some (.ins (RC K) (ruleD c b))))
def sp_Rule_need_coin : SpD := fun ds μ Q _ => ∃ (c : Int), ds = [.int c] ∧ 2 ≤ c ∧ c ≤ 10 ∧ Q .non μ
def sp_Rule_up (K : PySem.W.Frag) : SpD := fun ds μ Q _ => ∃ (c : Int), ds = [.ref (RC K), .int c] ∧ 2 ≤ c ∧ c ≤ 10 ∧ Q (.rule c 1) μ
theorem mk_rule {K : PySem.W.Frag} {c b : Int} {μ : Mo} {Q : DK} {ξ : Addr → Mo → Prop} (h : Ru c b) (q : Q (.rule c b) μ) : ∀ a, μ a = none → sp_Rule_init K [.ref a, .int c, .int b] (updM μ a (some (.ins (RC K) []))) (MkQ K (RC K) a true Q) ξ :=
  fun a ha => ⟨a, c, b, rfl, updM_same, h.1, h.2.1, h.2.2.1, h.2.2.2, rfl, by
    rw [if_pos rfl, updM_updM]
    exact ⟨c, b, rfl, updM_same, by rw [updM_updM, updM_none ha]; exact q⟩⟩
def Nm (w : Int) : Prop := -1000000000000000000000000000000 < w ∧ w < 1000000000000000000000000000000
def sp_Rule_rounded : SpD := fun ds μ Q _ => ∃ (c b w : Int), ds = [.rule c b, .int w] ∧ Ru c b ∧ Nm w ∧ Q (.int (rnd c b w)) μ
theorem rnd_div {c b w : Int} (h : Ru c b) : CDivW (w + c - b) c := by
  obtain ⟨h1, h2, h3, h4⟩ := h
  exact big_div _ (by omega) (by omega)
theorem rnd_mul {c b w : Int} (h : Ru c b) (hw : Nm w) : CMulX ((w + c - b) / c) c := by
  obtain ⟨h1, h2, h3, h4⟩ := h
  obtain ⟨w1, w2⟩ := hw
  have h5 : (w + c - b) / c ≤ 1000000000000000000000000000000000 := Int.ediv_le_of_le_mul (by omega) (by omega)
  have h6 : -1000000000000000000000000000000000 ≤ (w + c - b) / c := Int.le_ediv_of_mul_le (by omega) (by omega)
  exact big_mul (by omega) (by omega) (by omega) (by omega)
def Amt (n : Int) : Prop := 0 ≤ n ∧ n ≤ 1000000000000
def sp_Rule_charge : SpD := fun ds μ Q _ => ∃ (c b : Int) (ns : List Int), ds = [.rule c b, .tup (ns.map .int)] ∧ Ru c b ∧ ns.length ≤ 1000 ∧ (∀ n ∈ ns, Amt n) ∧ Q (.int (rnd c b ns.sum)) μ
def spS_Rule_charge : SpD := fun ds μ Q ξ => ∃ ws rest, ds = ws ++ rest ∧ ws.length = 1 ∧ rest.length ≤ sizeLine ∧ sp_Rule_charge (ws ++ [.tup rest]) μ Q ξ
theorem charge1 {c b w : Int} {μ : Mo} {Q : DK} {ξ : Addr → Mo → Prop} (h : Ru c b) (hw : Amt w) (q : Q (.int (rnd c b w)) μ) : spS_Rule_charge [.rule c b, .int w] μ Q ξ :=
  ⟨[.rule c b], [.int w], rfl, rfl, by rw [sizeLine_eq]; show 1 ≤ 16777216; decide, c, b, [w], rfl, h, by show 1 ≤ 1000; decide, fun n hn => by rw [List.mem_singleton.mp hn]; exact hw, by
    rw [show [w].sum = w by simp]
    exact q⟩
theorem sum_amt : ∀ {ns : List Int}, (∀ n ∈ ns, Amt n) → 0 ≤ ns.sum ∧ ns.sum ≤ 1000000000000 * ns.length
  | [], _ => by simp
  | n :: ns, h => by
    have h1 := sum_amt fun m hm => h m (List.mem_cons_of_mem _ hm)
    have h2 := h n (List.mem_cons_self ..)
    unfold Amt at h2
    rw [List.sum_cons, List.length_cons]
    omega
theorem sum_nm {ns : List Int} (hl : ns.length ≤ 1000) (h : ∀ n ∈ ns, Amt n) : Nm ns.sum := by
  have := sum_amt h
  unfold Nm
  omega
def sp_need_rule : SpD := fun ds μ Q _ => ∃ (c b : Int), ds = [.rule c b] ∧ Q .non μ
def sp_need_amount : SpD := fun ds μ Q _ => ∃ (n : Int), ds = [.int n] ∧ Amt n ∧ Q .non μ
def rndL (c b w : Int) : Int := if w % c < b then w - w % c else w - w % c + c
def sp_law_rounded : SpD := fun ds μ Q _ => ∃ c b w : Int, ds = [.tup [.int c, .int b], .int w] ∧ 0 < c ∧ Q (.int (rndL c b w)) μ
def sp_Rule_down (K : PySem.W.Frag) : SpD := fun ds μ Q _ => ∃ (c : Int), ds = [.ref (RC K), .int c] ∧ 2 ≤ c ∧ c ≤ 10 ∧ Q (.rule c c) μ
def sp_Rule_nearest (K : PySem.W.Frag) : SpD := fun ds μ Q _ => ∃ (c : Int), ds = [.ref (RC K), .int c] ∧ 2 ≤ c ∧ c ≤ 10 ∧ Q (.rule c ((c + 1) / 2)) μ
def sp_Rule_free : SpD := fun ds μ Q _ => ∃ c b : Int, ds = [.rule c b] ∧ Ru c b ∧ Q (.tup (rng 1 (b - 1).toNat)) μ
def Bits (z : Int) : Prop := Builtin.Int.intBits z ≤ 1048576
def sp_law_cell_at : SpD := fun ds μ Q _ => ∃ (ns : List Int) (k : Int), ds = [.fro (ns.map .int), .int k] ∧ 0 ≤ k ∧ ∀ z, (z ∈ ns ∨ z = 0) → Q (.int z) μ
def sp_law_draws : SpD := fun ds μ Q _ => ∃ (z n m : Int), ds = [.int z, .int n, .int m] ∧ Bits z ∧ 0 ≤ n ∧ n ≤ 1000 ∧ 0 < m ∧ m ≤ 1000000 ∧ ∀ ns : List Int, (ns.length : Int) = n → (∀ x ∈ ns, 0 ≤ x ∧ x < m) → Q (.lst (ns.map .int)) μ
theorem cpow {i j : Int} (h1 : 0 ≤ j) (h2 : j ≤ 1000000) (h3 : i.natAbs < 2 ^ 64) : CPow i j := ⟨h1, h2, h3⟩
/-- the bag at p: its draws, its place -/
def bagM (ns : List Int) (i : Int) : Mu := .lst [.lst (ns.map .int), .int i]
structure BagOk (ns : List Int) : Prop where
  len : ns.length = 400
  ran : ∀ x ∈ ns, 0 ≤ x ∧ x < 1000
def sp_law_bag : SpD := fun ds μ Q _ => ∃ (ns : List Int) (k : Int), ds = [.fro (ns.map .int), .int k] ∧ 0 ≤ k ∧ (∀ z ∈ ns, Bits z) ∧ ∀ p dr, μ p = none → BagOk dr → Q (.ref p) (updM μ p (some (bagM dr 0)))
def Bag (μ : Mo) (p : Addr) : Prop := ∃ ns i, μ p = some (bagM ns i) ∧ BagOk ns ∧ 0 ≤ i
def sp_law_bags : SpD := fun ds μ Q _ => ∃ (ns : List Int) (k : Int), ds = [.fro (ns.map .int), .int k] ∧ (0 ≤ k ∧ k ≤ 1000) ∧ ns.length ≤ 63 ∧ (∀ z ∈ ns, Bits z) ∧ ∀ (ps : List Addr) μ', Less μ μ' → (∀ p ∈ ps, Bag μ' p) → (∀ p ∈ ps, μ p = none) → Q (.lst (ps.map .ref)) μ'
def BagStep (p : Addr) (μ μ' : Mo) : Prop := ∃ ns i, BagOk ns ∧ 0 ≤ i ∧ μ' = updM μ p (some (bagM ns i))
theorem BagStep.bag {p : Addr} {μ μ' : Mo} (h : BagStep p μ μ') : Bag μ' p := by
  obtain ⟨ns, i, a, b, rfl⟩ := h
  exact ⟨ns, i, updM_same, a, b⟩
theorem BagStep.trans {p : Addr} {μ μ1 μ2 : Mo} (h : BagStep p μ μ1) (h2 : BagStep p μ1 μ2) : BagStep p μ μ2 := by
  obtain ⟨ns, i, a, b, rfl⟩ := h
  obtain ⟨ns', i', a', b', rfl⟩ := h2
  exact ⟨ns', i', a', b', updM_updM⟩
theorem BagStep.refl {p : Addr} {μ : Mo} (h : Bag μ p) : BagStep p μ μ := by
  obtain ⟨ns, i, e, a, b⟩ := h
  refine ⟨ns, i, a, b, funext fun q => ?_⟩
  unfold updM
  split
  · rename_i h; rw [h, e]
  · rfl
theorem BagStep.other {p q : Addr} {μ μ' : Mo} (h : BagStep p μ μ') (b : Bag μ q) : Bag μ' q := by
  by_cases e : q = p
  · subst e; exact h.bag
  · obtain ⟨ns, i, _, _, rfl⟩ := h
    obtain ⟨ms, j, e2, x, y⟩ := b
    exact ⟨ms, j, by rw [updM_ne e]; exact e2, x, y⟩
theorem Bag.less {p : Addr} {μ μ' : Mo} (l : Less μ μ') (b : Bag μ p) : Bag μ' p := by
  obtain ⟨ns, i, e, x, y⟩ := b
  exact ⟨ns, i, l _ _ e, x, y⟩
def sp_law_take : SpD := fun ds μ Q _ => ∃ (p : Addr) (m : Int), ds = [.ref p, .int m] ∧ Bag μ p ∧ 0 < m ∧ ∀ r μ', 0 ≤ r → r < m → BagStep p μ μ' → Q (.int r) μ'
def sp_law_far_draw : SpD := fun ds μ Q _ => ∃ (p : Addr) (m : Int), ds = [.ref p, .int m] ∧ Bag μ p ∧ 0 < m ∧ m ≤ 10000000000000000 ∧ ∀ r μ', 0 ≤ r → r < m → BagStep p μ μ' → Q (.int r) μ'
theorem far_step {f n a m : Int} (h : (f + 1) * n ≤ m) (hf : 0 ≤ f) (hn : 0 < n) (ha : a < 1000) (ha0 : 0 ≤ a) : (1000 * f + a + 1) * (n / 1000) ≤ m := by
  have h1 : (1000 * f + a + 1) * (n / 1000) ≤ (1000 * f + 1000) * (n / 1000) := Int.mul_le_mul_of_nonneg_right (by omega) (Int.ediv_nonneg (by omega) (by decide))
  have h2 : (1000 * f + 1000) * (n / 1000) = (f + 1) * (1000 * (n / 1000)) := by rw [show 1000 * f + 1000 = (f + 1) * 1000 by omega, Int.mul_assoc]
  have h3 : (f + 1) * (1000 * (n / 1000)) ≤ (f + 1) * n := Int.mul_le_mul_of_nonneg_left (by omega) (by omega)
  omega
theorem far_le {f n m : Int} (h : (f + 1) * n ≤ m) (hf : 0 ≤ f) (hn : 0 < n) : f + 1 ≤ m := by
  have : (f + 1) * 1 ≤ (f + 1) * n := Int.mul_le_mul_of_nonneg_left (by omega) (by omega)
  omega
def sp_law_rule : SpD := fun ds μ Q _ => ∃ (p : Addr) (m : Int), ds = [.ref p, .int m] ∧ Bag μ p ∧ 2 ≤ m ∧ ∀ c b μ', 2 ≤ c → c ≤ m → 1 ≤ b → b ≤ c → BagStep p μ μ' → Q (.tup [.int c, .int b]) μ'
/-- a record: its numbers -/
structure RecOk (k : Int) (t : List Int) : Prop where
  n3 : k = 3 → ∃ a b c, t = [a, b, c] ∧ 1 ≤ a ∧ a ≤ 100 ∧ Amt b ∧ 0 ≤ c ∧ c ≤ 1000000000000000
  n2 : k = 2 → ∃ b c, t = [b, c] ∧ Amt b ∧ 0 ≤ c ∧ c ≤ 1000000000000000
def sp_need_records : SpD := fun ds μ Q _ => ∃ (ts : List (List Int)) (k : Int), ds = [.tup (ts.map tupI), .int k] ∧ (k = 2 ∨ k = 3) ∧ 1 ≤ ts.length ∧ ts.length ≤ 20 ∧ (∀ t ∈ ts, RecOk k t) ∧ Q .non μ
def prStep (c b : Int) (a : Int × Int) (t : List Int) : Int × Int := match t with
  | [n, r, ch] => (max a.1 (0 - (0 - (ch - (c - b) - r)) / n), min a.2 ((ch + b - 1 - r) / n))
  | _ => a
def prD (p : Int × Int) : D := if p.1 ≤ p.2 then .tup [.int p.1, .int p.2] else .non
def prF (c b : Int) (ts : List (List Int)) : D := if ts.all (fun t => decide (t.getD 2 0 % c = 0)) = true then prD (ts.foldl (prStep c b) (0, 1000000000000)) else .non
def sp_price_range : SpD := fun ds μ Q _ => ∃ (c b : Int) (ts : List (List Int)), ds = [.rule c b, .tup (ts.map tupI)] ∧ Ru c b ∧ 1 ≤ ts.length ∧ ts.length ≤ 20 ∧ (∀ t ∈ ts, RecOk 3 t) ∧ Q (prF c b ts) μ
def ruRow (i : Nat) : List (List Int) := (List.range (i + 2)).map fun (j : Nat) => [(2 : Int) + (i : Int), (1 : Int) + (j : Int)]
def ruAll : List (List Int) := (List.range 9).flatMap ruRow
def fits (ts : List (List Int)) (p : List Int) : Bool := ts.all fun t => decide (rnd (p.getD 0 0) (p.getD 1 0) (t.getD 0 0) = t.getD 1 0)
theorem ruLen (i : Nat) (h : i < 9) : ((List.range i).flatMap ruRow).length ≤ 100 := by
  rcases (by omega : i = 0 ∨ i = 1 ∨ i = 2 ∨ i = 3 ∨ i = 4 ∨ i = 5 ∨ i = 6 ∨ i = 7 ∨ i = 8) with rfl | rfl | rfl | rfl | rfl | rfl | rfl | rfl | rfl <;> decide
def rfF (ts : List (List Int)) : List (List Int) := ruAll.filter (fits ts)
def sp_rules_for : SpD := fun ds μ Q _ => ∃ (ts : List (List Int)), ds = [.tup (ts.map tupI)] ∧ 1 ≤ ts.length ∧ ts.length ≤ 20 ∧ (∀ t ∈ ts, RecOk 2 t) ∧ Q (.lst ((rfF ts).map tupI)) μ
def sp_period_of : SpD := fun ds μ Q _ => ∃ (c b c' b' : Int), ds = [.rule c b, .rule c' b'] ∧ Ru c b ∧ Ru c' b' ∧ Q (.int (c * c')) μ
def sp_first_difference : SpD := fun ds μ Q _ => ∃ (c b c' b' : Int), ds = [.rule c b, .rule c' b'] ∧ Ru c b ∧ Ru c' b' ∧ ((∀ w : Int, 0 ≤ w → w < c * c' → rnd c b w = rnd c' b' w) → Q .non μ) ∧
  ∀ w : Int, 0 ≤ w → w < c * c' → rnd c b w ≠ rnd c' b' w → (∀ v : Int, 0 ≤ v → v < w → rnd c b v = rnd c' b' v) → Q (.int w) μ
def agF (c b : Int) (ts : List (List Int)) (v : Int) : Bool := ts.all fun t => decide (rndL c b (t.getD 0 0 * v + t.getD 1 0) = t.getD 2 0)
def sp_law_agrees : SpD := fun ds μ Q _ => ∃ (c b : Int) (ts : List (List Int)) (v : Int), ds = [.rule c b, .tup (ts.map tupI), .int v] ∧ Ru c b ∧ (∀ t ∈ ts, RecOk 3 t) ∧ Nm v ∧ Q (.bl (agF c b ts v)) μ
def AllB (ps : List Addr) (μ : Mo) : Prop := ∀ p ∈ ps, Bag μ p
theorem AllB.step {ps : List Addr} {p : Addr} {μ μ' : Mo} (h : AllB ps μ) (s : BagStep p μ μ') : AllB ps μ' := fun q hq => s.other (h q hq)
theorem AllB.less {ps : List Addr} {μ μ' : Mo} (h : AllB ps μ) (s : Less μ μ') : AllB ps μ' := fun q hq => (h q hq).less s
/-- the bag went on, all else stands -/
def BagL (p : Addr) (μ μ' : Mo) : Prop := Bag μ' p ∧ ∀ a m, a ≠ p → μ a = some m → μ' a = some m
theorem BagL.refl {p : Addr} {μ : Mo} (h : Bag μ p) : BagL p μ μ := ⟨h, fun _ _ _ h => h⟩
theorem BagL.step {p : Addr} {μ μ1 μ2 : Mo} (h : BagL p μ μ1) (s : BagStep p μ1 μ2) : BagL p μ μ2 := ⟨s.bag, fun a m hp hm => by
  obtain ⟨ns, i, _, _, rfl⟩ := s
  rw [updM_ne hp]
  exact h.2 a m hp hm⟩
theorem BagL.less {p : Addr} {μ μ1 μ2 : Mo} (h : BagL p μ μ1) (s : Less μ1 μ2) : BagL p μ μ2 := ⟨h.1.less s, fun a m hp hm => s _ _ (h.2 a m hp hm)⟩
theorem AllB.bagL {ps : List Addr} {p : Addr} {μ μ' : Mo} (h : AllB ps μ) (s : BagL p μ μ') : AllB ps μ' := fun q hq => by
  by_cases e : q = p
  · subst e; exact s.1
  · obtain ⟨ns, i, e2, x, y⟩ := h q hq
    exact ⟨ns, i, s.2 _ _ e e2, x, y⟩
theorem BagL.tbl {p a : Addr} {μ μ' : Mo} {q : Str} (h : BagL p μ μ') (hp : Bag μ p) (ha : μ a = some (.tbl q)) : μ' a = some (.tbl q) := h.2 a _ (fun e => by
  obtain ⟨ns, i, e2, _⟩ := hp
  rw [e, e2] at ha
  cases ha) ha
theorem ref_mem {ps : List Addr} {i : Nat} {x : D} (h : (ps.map D.ref)[i]? = some x) : ∃ p, p ∈ ps ∧ x = .ref p := by
  rw [List.getElem?_map] at h
  cases q : ps[i]? with
  | none => rw [q] at h; cases h
  | some t => rw [q] at h; cases h; exact ⟨t, List.mem_of_getElem? q, rfl⟩
theorem ru_cases {c b : Int} (h : Ru c b) : c = 2 ∨ c = 3 ∨ c = 4 ∨ c = 5 ∨ c = 6 ∨ c = 7 ∨ c = 8 ∨ c = 9 ∨ c = 10 := by
  obtain ⟨h1, h2, h3, h4⟩ := h
  omega
theorem rnd_eq {c b w : Int} (h : Ru c b) : rnd c b w = rndL c b w := by
  obtain ⟨h1, h2, h3, h4⟩ := id h
  unfold rnd rndL
  rcases ru_cases h with rfl | rfl | rfl | rfl | rfl | rfl | rfl | rfl | rfl <;> split <;> omega
theorem rndL_mod {c b w : Int} (h : Ru c b) : rndL c b w % c = 0 := by
  obtain ⟨h1, h2, h3, h4⟩ := id h
  unfold rndL
  rcases ru_cases h with rfl | rfl | rfl | rfl | rfl | rfl | rfl | rfl | rfl <;> split <;> omega
theorem rndL_iff {c b w ch : Int} (h : Ru c b) (hm : ch % c = 0) : rndL c b w = ch ↔ ch - (c - b) ≤ w ∧ w ≤ ch + b - 1 := by
  obtain ⟨h1, h2, h3, h4⟩ := id h
  unfold rndL
  rcases ru_cases h with rfl | rfl | rfl | rfl | rfl | rfl | rfl | rfl | rfl <;> split <;> omega
theorem rndL_near {c b w : Int} (h : Ru c b) : w - (c - b) - b < rndL c b w ∧ rndL c b w < w + c ∧ (0 ≤ w → 0 ≤ rndL c b w) := by
  obtain ⟨h1, h2, h3, h4⟩ := id h
  unfold rndL
  rcases ru_cases h with rfl | rfl | rfl | rfl | rfl | rfl | rfl | rfl | rfl <;> split <;> omega
theorem pr_fold {c b : Int} (h : Ru c b) (v : Int) : ∀ (ts : List (List Int)) (a : Int × Int), (∀ t ∈ ts, RecOk 3 t ∧ t.getD 2 0 % c = 0) →
    (((ts.foldl (prStep c b) a).1 ≤ v ∧ v ≤ (ts.foldl (prStep c b) a).2) ↔ (a.1 ≤ v ∧ v ≤ a.2) ∧ agF c b ts v = true)
  | [], a, _ => by simp [agF]
  | t :: ts, a, ht => by
    have ih := pr_fold h v ts (prStep c b a t) fun x hx => ht x (List.mem_cons_of_mem _ hx)
    rw [List.foldl_cons, ih]
    obtain ⟨h3, hm⟩ := ht t (List.mem_cons_self ..)
    obtain ⟨n, r, ch, rfl, hn1, hn2, _, hc0, _⟩ := h3.n3 rfl
    have hm' : ch % c = 0 := hm
    have e1 : agF c b ([n, r, ch] :: ts) v = (decide (rndL c b (n * v + r) = ch) && agF c b ts v) := rfl
    have e2 := rndL_iff (w := n * v + r) h hm'
    have e3 : -v ≤ (0 - (ch - (c - b) - r)) / n ↔ -v * n ≤ 0 - (ch - (c - b) - r) := Int.le_ediv_iff_mul_le (by omega)
    have e4 : v ≤ (ch + b - 1 - r) / n ↔ v * n ≤ ch + b - 1 - r := Int.le_ediv_iff_mul_le (by omega)
    have e5 : v * n = n * v := Int.mul_comm v n
    have e6 : -v * n = -(n * v) := by rw [Int.neg_mul, e5]
    rw [e5] at e4
    rw [e6] at e3
    rw [e1, Bool.and_eq_true, decide_eq_true_eq, e2]
    have e7 : (prStep c b a [n, r, ch]).1 = max a.1 (0 - (0 - (ch - (c - b) - r)) / n) := rfl
    have e8 : (prStep c b a [n, r, ch]).2 = min a.2 ((ch + b - 1 - r) / n) := rfl
    rw [e7, e8]
    constructor
    · rintro ⟨⟨p1, p2⟩, p3⟩
      have q1 : a.1 ≤ v := by omega
      have q2 : v ≤ a.2 := by omega
      have q3 := e3.mp (by omega)
      have q4 := e4.mp (by omega)
      exact ⟨⟨q1, q2⟩, ⟨by omega, by omega⟩, p3⟩
    · rintro ⟨⟨p1, p2⟩, ⟨p4, p5⟩, p3⟩
      have q3 := e3.mpr (by omega)
      have q4 := e4.mpr (by omega)
      exact ⟨⟨by omega, by omega⟩, p3⟩
/-- records of a price -/
def RecsP (c b price : Int) (ts : List (List Int)) : Prop := ∀ t ∈ ts, ∃ n r, t = [n, r, rndL c b (n * price + r)] ∧ 1 ≤ n ∧ n ≤ 100 ∧ Amt r
theorem RecsP.ok {c b price : Int} {ts : List (List Int)} (h : Ru c b) (hp : 0 ≤ price ∧ price ≤ 10000000000) (hr : RecsP c b price ts) : ∀ t ∈ ts, RecOk 3 t ∧ t.getD 2 0 % c = 0 := by
  intro t ht
  obtain ⟨n, r, rfl, h1, h2, h3⟩ := hr t ht
  have hr2 := h3
  obtain ⟨h4, h5⟩ := h3
  have hn := rndL_near (w := n * price + r) h
  have hm : n * price ≤ 100 * 10000000000 := Int.mul_le_mul h2 hp.2 hp.1 (by decide)
  have hm0 : 0 ≤ n * price := Int.mul_nonneg (by omega) hp.1
  have := h.2.1
  exact ⟨⟨fun _ => ⟨n, r, _, rfl, h1, h2, hr2, hn.2.2 (by omega), by omega⟩, fun e => absurd e (by decide)⟩, rndL_mod h⟩
theorem RecsP.ag {c b price : Int} {ts : List (List Int)} (hr : RecsP c b price ts) : agF c b ts price = true := by
  unfold agF
  rw [List.all_eq_true]
  intro t ht
  obtain ⟨n, r, rfl, _⟩ := hr t ht
  exact decide_eq_true rfl
/-- the interval -/
def Intv (c b lo hi : Int) (ts : List (List Int)) : Prop := ∀ v, (lo ≤ v ∧ v ≤ hi) ↔ (0 ≤ v ∧ v ≤ 1000000000000) ∧ agF c b ts v = true
theorem RecsP.iv {c b price : Int} {ts : List (List Int)} (h : Ru c b) (hp : 0 ≤ price ∧ price ≤ 10000000000) (hr : RecsP c b price ts) :
    ∃ lo hi, prF c b ts = .tup [.int lo, .int hi] ∧ Intv c b lo hi ts := by
  have ho := hr.ok h hp
  have key := fun v => pr_fold h v ts (0, 1000000000000) ho
  have hprice := (key price).mpr ⟨⟨hp.1, by omega⟩, hr.ag⟩
  refine ⟨_, _, ?_, key⟩
  unfold prF prD
  rw [if_pos, if_pos (Int.le_trans hprice.1 hprice.2)]
  rw [List.all_eq_true]
  exact fun t ht => decide_eq_true (ho t ht).2
theorem RecsP.near {c b price u v : Int} {ts : List (List Int)} (h : Ru c b) (hr : RecsP c b price ts) (hne : ts ≠ []) (hu : agF c b ts u = true) (hv : agF c b ts v = true) : u - v ≤ c - 1 := by
  cases ts with
  | nil => exact absurd rfl hne
  | cons t ts =>
    obtain ⟨n, r, rfl, h1, h2, _⟩ := hr t (List.mem_cons_self ..)
    have a1 := of_decide_eq_true (List.all_eq_true.mp hu _ (List.mem_cons_self ..))
    have a2 := of_decide_eq_true (List.all_eq_true.mp hv _ (List.mem_cons_self ..))
    have a1 : rndL c b (n * u + r) = rndL c b (n * price + r) := a1
    have a2 : rndL c b (n * v + r) = rndL c b (n * price + r) := a2
    have b1 := (rndL_iff h (rndL_mod h)).mp a1
    have b2 := (rndL_iff h (rndL_mod h)).mp a2
    have b3 : n * u - n * v ≤ c - 1 := by omega
    by_cases hd : u - v ≤ 0
    · have := h.1; omega
    · have : 1 * (u - v) ≤ n * (u - v) := Int.mul_le_mul_of_nonneg_right h1 (by omega)
      have e := Int.mul_sub n u v
      omega
theorem mem_ruAll {c b : Int} (h : Ru c b) : [c, b] ∈ ruAll := by
  obtain ⟨h1, h2, h3, h4⟩ := h
  refine List.mem_flatMap.mpr ⟨(c - 2).toNat, List.mem_range.mpr (by omega), List.mem_map.mpr ⟨(b - 1).toNat, List.mem_range.mpr (by omega), ?_⟩⟩
  have e1 : (2 : Int) + ((c - 2).toNat : Int) = c := by omega
  have e2 : (1 : Int) + ((b - 1).toNat : Int) = b := by omega
  rw [e1, e2]
theorem ruAll_ok : ∀ p ∈ ruAll, ∃ c b, p = [c, b] ∧ Ru c b := by
  intro p hp
  obtain ⟨i, hi, h⟩ := List.mem_flatMap.mp hp
  obtain ⟨j, hj, rfl⟩ := List.mem_map.mp h
  have := List.mem_range.mp hi
  have := List.mem_range.mp hj
  exact ⟨_, _, rfl, by omega, by omega, by omega, by omega⟩
theorem ruAll_sorted : ruAll.Pairwise fun a b => TS.code 16 a < TS.code 16 b := by decide +kernel
theorem code16 (c b : Int) : TS.code 16 [c, b] = c * 16 + b := by
  simp [TS.code]
theorem ruAll_bd : ∀ k ∈ ruAll, k.length = 2 ∧ TS.Bd 16 k := by
  intro k hk
  obtain ⟨c, b, rfl, h1, h2, h3, h4⟩ := ruAll_ok k hk
  refine ⟨rfl, fun x hx => ?_⟩
  simp only [List.mem_cons, List.not_mem_nil, or_false] at hx
  rcases hx with rfl | rfl <;> omega
theorem sorted_eq {ts ks : List (List Int)} (h1 : ∀ k ∈ ks, k ∈ rfF ts) (h2 : ∀ k ∈ rfF ts, k ∈ ks) (nd : ks.Nodup) (pw : ks.Pairwise fun a b => TS.code 16 a ≤ TS.code 16 b) : rfF ts = ks := by
  have s1 : (rfF ts).Pairwise fun a b => TS.code 16 a < TS.code 16 b := ruAll_sorted.sublist List.filter_sublist
  have nd1 : (rfF ts).Nodup := s1.imp fun {a b} h e => by subst e; exact absurd h (Int.lt_irrefl _)
  have hp : (rfF ts).Perm ks := (List.perm_ext_iff_of_nodup nd1 nd).mpr fun a => ⟨h2 a, h1 a⟩
  refine List.Perm.eq_of_pairwise (le := fun a b => TS.code 16 a ≤ TS.code 16 b) (fun a b ha hb h3 h4 => ?_) (s1.imp fun h => Int.le_of_lt h) pw hp
  obtain ⟨c, d, rfl, r1, r2, r3, r4⟩ := ruAll_ok a (List.mem_filter.mp ha).1
  obtain ⟨c', d', rfl, r5, r6, r7, r8⟩ := ruAll_ok b (List.mem_filter.mp (h1 b hb)).1
  rw [code16, code16] at h3 h4
  have : c = c' := by omega
  have : d = d' := by omega
  subst c' d'
  rfl
theorem rfF_len (ts : List (List Int)) : (rfF ts).length < 64 := by
  have h1 : (rfF ts).length ≤ ruAll.length := List.length_filter_le _ _
  have h2 : ruAll.length = 54 := by decide +kernel
  omega
/-- draws in a comprehension -/
theorem lc_bag {α : Type} {g : DG} {te : DE} {vs : List Nat} {Q : DK} {items : List D} {δ : Slots} {μ1 : Mo} {ps : List Addr} {p : Addr} (enc : α → D) (R : α → Prop) (hz : items.length ≤ 16777215) (hB : AllB ps μ1) (hp : p ∈ ps)
    (hs : ∀ x ∈ items, ∀ (μ' : Mo) (Qy : D → Mo → Prop), AllB ps μ' → (∀ a μ'', R a → BagStep p μ' μ'' → Qy (enc a) μ'') → g x (wipeD δ vs) μ' fun δ2 μ2 => te δ2 μ2 Qy)
    (hQ : ∀ (l : List α) μ', l.length = items.length → (∀ a ∈ l, R a) → AllB ps μ' → (∀ a m, a ≠ p → μ1 a = some m → μ' a = some m) → Q (.lst (l.map enc)) μ') : LcIn g dYes te vs Q items δ μ1 := by
  intro L hL
  have hne : ∀ q ∈ ps, q ≠ L := fun q hq e => by
    obtain ⟨ns, i, h, _⟩ := hB q hq
    rw [e, hL] at h
    cases h
  have hput : ∀ {μ' : Mo} {m : Option Mu}, AllB ps μ' → AllB ps (updM μ' L m) := fun h q hq => by
    obtain ⟨ns, i, h1, h2, h3⟩ := h q hq
    exact ⟨ns, i, by rw [updM_ne (hne q hq)]; exact h1, h2, h3⟩
  have h0 : ∀ a m, a ≠ p → μ1 a = some m → updM μ1 L (some (.lst [])) a = some m := fun a m _ h => by
    rw [updM_ne (fun e => by rw [e, hL] at h; cases h)]; exact h
  refine ⟨fun i μ' => ∃ l : List α, μ' L = some (.lst (l.map enc)) ∧ l.length = i ∧ (∀ a ∈ l, R a) ∧ AllB ps μ' ∧ (∀ a m, a ≠ p → μ1 a = some m → μ' a = some m), ⟨[], updM_same, rfl, (fun a h => by cases h), hput hB, h0⟩, ?_, ?_⟩
  · rintro i x μ' hx ⟨l, h1, h2, h3, h4, h5⟩
    refine hs x (List.mem_of_getElem? hx) μ' _ h4 fun a μ'' ha hb => ?_
    have hi := (List.getElem?_eq_some_iff.mp hx).1
    have h6 : μ'' L = some (.lst (l.map enc)) := by
      obtain ⟨ns, j, _, _, rfl⟩ := hb
      rw [updM_ne (Ne.symm (hne p hp))]; exact h1
    refine ⟨_, h6, by rw [List.length_map, sizeLine_eq]; omega, l ++ [a], by rw [updM_same, List.map_append] <;> rfl, by rw [List.length_append, h2] <;> rfl, fun y hy => ?_, hput (h4.step hb), fun b m hbp hm => ?_⟩
    · rcases List.mem_append.mp hy with h | h
      · exact h3 y h
      · rw [List.mem_singleton.mp h]; exact ha
    · rw [updM_ne (fun e => by rw [e, hL] at hm; cases hm)]
      obtain ⟨ns, j, _, _, rfl⟩ := hb
      rw [updM_ne hbp]
      exact h5 b m hbp hm
  · rintro μ' ⟨l, h1, h2, h3, h4, h5⟩
    refine ⟨_, h1, hQ l _ h2 h3 (hput h4) fun a m ha hm => ?_⟩
    rw [updM_ne (fun e => by rw [e, hL] at hm; cases hm)]
    exact h5 a m ha hm
theorem RecsP.take {c b price : Int} {ts : List (List Int)} (hr : RecsP c b price ts) (k : Nat) : RecsP c b price (ts.take k) := fun t ht => hr t (List.mem_of_mem_take ht)
theorem agF_take {c b v : Int} {ts : List (List Int)} (h : agF c b ts v = true) (k : Nat) : agF c b (ts.take k) v = true := by
  unfold agF at h ⊢
  rw [List.all_eq_true] at h ⊢
  exact fun t ht => h t (List.mem_of_mem_take ht)

/-- 0, 1, .., n - 1 -/
def upN (n : Nat) : List Int := (List.range n).map fun (i : Nat) => (i : Int)
def sp_all_items : SpD := fun ds μ Q _ => ∃ bk : List Int, ds = [.tup (bk.map .int)] ∧ bk.length ≤ 1000 ∧ Q (tupI (upN bk.length)) μ
theorem rng_upN (n : Nat) : rng 0 n = (upN n).map .int := by
  unfold rng upN
  simp
/-- one more item: to the chosen ones, to those that are left -/
def ptStep (found : List (List Int × List Int)) (item : Int) : List (List Int × List Int) := found.map (fun p => (p.1 ++ [item], p.2)) ++ found.map (fun p => (p.1, p.2 ++ [item]))
def partsU : List Int → List (List Int × List Int)
  | [] => []
  | x :: xs => xs.foldl ptStep [([x], [])]
def encPr (p : List Int × List Int) : D := .tup [tupI p.1, tupI p.2]
def pyPr (p : List Int × List Int) : PyData := .tuple [.tuple (p.1.map .int), .tuple (p.2.map .int)]
theorem toPyL_ints : ∀ l : List Int, toPyL (l.map D.int) = some (l.map PyData.int)
  | [] => rfl
  | a :: l => by simp only [List.map_cons, toPyL, toPy]; rw [toPyL_ints l]
theorem toPy_tupI (l : List Int) : toPy (tupI l) = some (.tuple (l.map .int)) := by
  unfold tupI
  simp only [toPy]
  rw [toPyL_ints] <;> rfl
theorem toPy_pr (p : List Int × List Int) : toPy (encPr p) = some (pyPr p) := by
  unfold encPr pyPr
  simp only [toPy, toPyL, toPy_tupI]
  rfl
theorem alike_pr (p q : List Int × List Int) : PySem.W.alike (pyPr p) (pyPr q) = true := by
  unfold pyPr
  simp only [PySem.W.alike, PySem.W.alikeAll, PySem.W.alike_ints]
  rfl
theorem depth_pr (p : List Int × List Int) : (pyPr p).depth ≤ 60 := by
  unfold pyPr
  simp only [PyData.depth, PyData.depthAll, PySem.W.depth_ints]
  decide
/-- the partings, in Python's order -/
def parts (items : List Int) : List (List Int × List Int) := (partsU items).mergeSort (PySem.W.dataLe false pyPr)
def sp_partings : SpD := fun ds μ Q _ => ∃ items : List Int, ds = [tupI items] ∧ items ≠ [] ∧ items.length ≤ 12 ∧ Q (.lst ((parts items).map encPr)) μ
theorem pt_len : ∀ (xs : List Int) (f : List (List Int × List Int)), (xs.foldl ptStep f).length = 2 ^ xs.length * f.length
  | [], f => by simp
  | x :: xs, f => by
    rw [List.foldl_cons, pt_len xs (ptStep f x)]
    unfold ptStep
    rw [List.length_append, List.length_map, List.length_map, List.length_cons, Nat.pow_succ, Nat.mul_assoc]
    congr 1
    omega
theorem pt_inv (n m : Nat) : ∀ (xs : List Int) (f : List (List Int × List Int)), (∀ p ∈ f, p.1.length ≤ n ∧ p.2.length ≤ m) → ∀ p ∈ xs.foldl ptStep f, p.1.length ≤ n + xs.length ∧ p.2.length ≤ m + xs.length
  | [], f, h, p, hp => h p hp
  | x :: xs, f, h, p, hp => by
    have := pt_inv (n + 1) (m + 1) xs (ptStep f x) (fun q hq => by
      unfold ptStep at hq
      rcases List.mem_append.mp hq with hq | hq <;> obtain ⟨r, hr, rfl⟩ := List.mem_map.mp hq <;> have := h r hr <;> simp <;> omega) p hp
    rw [List.length_cons]
    omega
/-- xs taken apart into two -/
inductive Mix : List Int → List Int → List Int → Prop
  | nil : Mix [] [] []
  | l {x : Int} {xs l r : List Int} : Mix xs l r → Mix (x :: xs) (x :: l) r
  | r {x : Int} {xs l r : List Int} : Mix xs l r → Mix (x :: xs) l (x :: r)
theorem Mix.len : ∀ {xs l r : List Int}, Mix xs l r → l.length + r.length = xs.length
  | _, _, _, .nil => rfl
  | _, _, _, .l h => by have := h.len; simp only [List.length_cons]; omega
  | _, _, _, .r h => by have := h.len; simp only [List.length_cons]; omega
theorem Mix.subl : ∀ {xs l r : List Int}, Mix xs l r → l.Sublist xs
  | _, _, _, .nil => .slnil
  | _, _, _, .l h => h.subl.cons₂ _
  | _, _, _, .r h => h.subl.cons _
theorem Mix.subr : ∀ {xs l r : List Int}, Mix xs l r → r.Sublist xs
  | _, _, _, .nil => .slnil
  | _, _, _, .l h => h.subr.cons _
  | _, _, _, .r h => h.subr.cons₂ _
theorem Mix.sum (g : Int → Int) : ∀ {xs l r : List Int}, Mix xs l r → (xs.map g).sum = (l.map g).sum + (r.map g).sum
  | _, _, _, .nil => rfl
  | _, _, _, .l h => by have := h.sum g; simp only [List.map_cons, List.sum_cons]; omega
  | _, _, _, .r h => by have := h.sum g; simp only [List.map_cons, List.sum_cons]; omega
theorem Mix.mem {a : Int} : ∀ {xs l r : List Int}, Mix xs l r → (a ∈ xs ↔ a ∈ l ∨ a ∈ r)
  | _, _, _, .nil => by simp
  | _, _, _, .l h => by have := h.mem (a := a); simp only [List.mem_cons, this, or_assoc]
  | _, _, _, .r h => by
    have := h.mem (a := a)
    simp only [List.mem_cons, this]
    constructor
    · rintro (h | h | h)
      · exact .inr (.inl h)
      · exact .inl h
      · exact .inr (.inr h)
    · rintro (h | h | h)
      · exact .inr (.inl h)
      · exact .inl h
      · exact .inr (.inr h)
theorem Mix.none : ∀ xs : List Int, Mix xs [] xs
  | [] => .nil
  | x :: xs => .r (Mix.none xs)
theorem Mix.all : ∀ xs : List Int, Mix xs xs []
  | [] => .nil
  | x :: xs => .l (Mix.all xs)
theorem Mix.perm : ∀ {xs l r : List Int}, Mix xs l r → (l ++ r).Perm xs
  | _, _, _, .nil => .nil
  | _, _, _, .l h => h.perm.cons _
  | _, _, _, .r h => (List.perm_middle).trans (h.perm.cons _)
theorem mem_fold : ∀ (xs : List Int) (F : List (List Int × List Int)) (p : List Int × List Int), p ∈ xs.foldl ptStep F ↔ ∃ q ∈ F, ∃ l r, Mix xs l r ∧ p = (q.1 ++ l, q.2 ++ r)
  | [], F, p => by
    constructor
    · intro h
      exact ⟨p, h, [], [], .nil, by simp⟩
    · rintro ⟨q, hq, l, r, h, rfl⟩
      cases h
      simpa using hq
  | x :: xs, F, p => by
    rw [List.foldl_cons, mem_fold xs]
    constructor
    · rintro ⟨q, hq, l, r, h, rfl⟩
      unfold ptStep at hq
      rcases List.mem_append.mp hq with hq | hq
      · obtain ⟨z, hz, rfl⟩ := List.mem_map.mp hq
        exact ⟨z, hz, x :: l, r, .l h, by simp⟩
      · obtain ⟨z, hz, rfl⟩ := List.mem_map.mp hq
        exact ⟨z, hz, l, x :: r, .r h, by simp⟩
    · rintro ⟨q, hq, l, r, h, rfl⟩
      cases h with
      | l h => exact ⟨(q.1 ++ [x], q.2), by unfold ptStep; exact List.mem_append_left _ (List.mem_map.mpr ⟨q, hq, rfl⟩), _, _, h, by simp⟩
      | r h => exact ⟨(q.1, q.2 ++ [x]), by unfold ptStep; exact List.mem_append_right _ (List.mem_map.mpr ⟨q, hq, rfl⟩), _, _, h, by simp⟩
theorem mem_partsU {x : Int} {xs : List Int} {p : List Int × List Int} : p ∈ partsU (x :: xs) ↔ ∃ l, p.1 = x :: l ∧ Mix xs l p.2 := by
  unfold partsU
  rw [mem_fold]
  constructor
  · rintro ⟨q, hq, l, r, h, rfl⟩
    rw [List.mem_singleton] at hq
    subst hq
    exact ⟨l, rfl, h⟩
  · rintro ⟨l, e, h⟩
    exact ⟨([x], []), List.mem_singleton.mpr rfl, l, p.2, h, Prod.ext e rfl⟩
theorem mem_parts {items : List Int} {p : List Int × List Int} : p ∈ parts items ↔ p ∈ partsU items := by
  unfold parts
  exact (List.mergeSort_perm _ _).mem_iff
theorem part_len {items : List Int} {p : List Int × List Int} (h : p ∈ partsU items) : p.2.length < items.length ∧ p.1 ≠ [] := by
  cases items with
  | nil => cases h
  | cons x xs =>
    obtain ⟨l, e, hm⟩ := mem_partsU.mp h
    have := hm.len
    rw [e, List.length_cons]
    exact ⟨by omega, by simp⟩
theorem part_sub {items : List Int} {p : List Int × List Int} (h : p ∈ partsU items) : p.1.Sublist items ∧ p.2.Sublist items := by
  cases items with
  | nil => cases h
  | cons x xs =>
    obtain ⟨l, e, hm⟩ := mem_partsU.mp h
    rw [e]
    exact ⟨hm.subl.cons₂ _, hm.subr.cons _⟩
/-- a splitting: the first receipt holds the first item -/
inductive Splt : List Int → List (List Int) → Prop
  | nil : Splt [] []
  | cons {items : List Int} {p : List Int × List Int} {S : List (List Int)} : p ∈ partsU items → Splt p.2 S → Splt items (p.1 :: S)
def tot (f : List Int → Int) (S : List (List Int)) : Int := (S.map f).sum
theorem tot_cons (f : List Int → Int) (r : List Int) (S : List (List Int)) : tot f (r :: S) = f r + tot f S := by unfold tot; simp
theorem splt_inv {items : List Int} {S : List (List Int)} (h : Splt items S) : (items = [] ∧ S = []) ∨ ∃ p S', p ∈ partsU items ∧ Splt p.2 S' ∧ S = p.1 :: S' := by
  cases h with
  | nil => exact .inl ⟨rfl, rfl⟩
  | cons a b => exact .inr ⟨_, _, a, b, rfl⟩
/-- all splittings, in Python's order -/
noncomputable def allS : Nat → List Int → List (List (List Int))
  | _, [] => [[]]
  | 0, _ :: _ => []
  | n + 1, x :: xs => (parts (x :: xs)).flatMap fun p => (allS n p.2).map (p.1 :: ·)
theorem mem_allS : ∀ {n : Nat} {items : List Int} {S : List (List Int)}, items.length ≤ n → (S ∈ allS n items ↔ Splt items S)
  | n, [], S, _ => by
    unfold allS
    rw [List.mem_singleton]
    constructor
    · rintro rfl; exact .nil
    · intro h
      rcases splt_inv h with ⟨_, e⟩ | ⟨p, S', hp, _⟩
      · exact e
      · cases hp
  | 0, x :: xs, S, h => by simp at h
  | n + 1, x :: xs, S, h => by
    unfold allS
    rw [List.mem_flatMap]
    constructor
    · rintro ⟨p, hp, hS⟩
      obtain ⟨S', h', rfl⟩ := List.mem_map.mp hS
      have hp' := mem_parts.mp hp
      have := (part_len hp').1
      rw [List.length_cons] at this h
      exact .cons hp' ((mem_allS (by omega)).mp h')
    · intro hs
      rcases splt_inv hs with ⟨e, _⟩ | ⟨p, S', hp, h', rfl⟩
      · cases e
      · have := (part_len hp).1
        rw [List.length_cons] at this h
        exact ⟨p, mem_parts.mpr hp, List.mem_map.mpr ⟨S', (mem_allS (by omega)).mpr h', rfl⟩⟩
theorem allS_fuel : ∀ {n m : Nat} {items : List Int}, items.length ≤ n → items.length ≤ m → allS n items = allS m items
  | n, m, [], _, _ => by cases n <;> cases m <;> rfl
  | 0, _, x :: xs, h, _ => by simp at h
  | _, 0, x :: xs, _, h => by simp at h
  | n + 1, m + 1, x :: xs, h1, h2 => by
    unfold allS
    rw [List.length_cons] at h1 h2
    have e : ∀ p ∈ parts (x :: xs), (allS n p.2).map (p.1 :: ·) = (allS m p.2).map (p.1 :: ·) := fun p hp => by
      have := (part_len (mem_parts.mp hp)).1
      rw [List.length_cons] at this
      rw [allS_fuel (n := n) (m := m) (by omega) (by omega)]
    generalize parts (x :: xs) = L at e
    induction L with
    | nil => rfl
    | cons q L ih =>
      rw [List.flatMap_cons, List.flatMap_cons, e q (List.mem_cons_self ..), ih fun p hp => e p (List.mem_cons_of_mem _ hp)]
abbrev Qd := Int × Int × Int × Int
/-- least, greatest total, fewest receipts of a best one, number of the best -/
structure BOk (f : List Int → Int) (items : List Int) (q : Qd) : Prop where
  loE : ∃ S, Splt items S ∧ tot f S = q.1
  loL : ∀ S, Splt items S → q.1 ≤ tot f S
  hiE : ∃ S, Splt items S ∧ tot f S = q.2.1
  hiL : ∀ S, Splt items S → tot f S ≤ q.2.1
  feE : ∃ S, Splt items S ∧ tot f S = q.1 ∧ (S.length : Int) = q.2.2.1
  feL : ∀ S, Splt items S → tot f S = q.1 → q.2.2.1 ≤ S.length
  wa : q.2.2.2 = (((allS items.length items).filter fun S => decide (tot f S = q.1)).length : Int)
theorem BOk.nil (f : List Int → Int) : BOk f [] (0, 0, 0, 1) := by
  have only : ∀ S, Splt [] S → S = [] := fun S h => by
    rcases splt_inv h with ⟨_, e⟩ | ⟨p, S', hp, _⟩
    · exact e
    · cases hp
  refine ⟨⟨[], .nil, rfl⟩, fun S h => ?_, ⟨[], .nil, rfl⟩, fun S h => ?_, ⟨[], .nil, rfl, rfl⟩, fun S h _ => ?_, ?_⟩
  · rw [only S h]; exact Int.le_refl _
  · rw [only S h]; exact Int.le_refl _
  · rw [only S h]; exact Int.le_refl _
  · simp [allS, tot]
/-- one row: a parting and the values of what is left -/
abbrev Rw := (List Int × List Int) × Qd
def rowQ (f : List Int → Int) (r : Rw) : Qd := (r.2.1 + f r.1.1, r.2.2.1 + f r.1.1, r.2.2.2.1 + 1, r.2.2.2.2)
theorem ways_fold (f : List Int → Int) (lo : Int) (A : List Int → List (List (List Int))) : ∀ R : List Rw, (∀ r ∈ R, (∀ S ∈ A r.1.2, r.2.1 ≤ tot f S) ∧ r.2.2.2.2 = (((A r.1.2).filter fun S => decide (tot f S = r.2.1)).length : Int) ∧ lo ≤ r.2.1 + f r.1.1) →
    ((((R.map (·.1)).flatMap fun p => (A p.2).map (p.1 :: ·)).filter fun S => decide (tot f S = lo)).length : Int) = (((R.map (rowQ f)).filter fun q => decide (q.1 = lo)).map (·.2.2.2)).sum
  | [], _ => rfl
  | r :: R, h => by
    have ih := ways_fold f lo A R fun z hz => h z (List.mem_cons_of_mem _ hz)
    obtain ⟨h1, h2, h3⟩ := h r (List.mem_cons_self ..)
    rw [List.map_cons, List.flatMap_cons, List.filter_append, List.length_append, List.map_cons, List.filter_cons]
    have e0 : (((A r.1.2).map (r.1.1 :: ·)).filter fun S => decide (tot f S = lo)).length = ((A r.1.2).filter fun S => decide (f r.1.1 + tot f S = lo)).length := by
      rw [List.filter_map, List.length_map]
      refine congrArg List.length (List.filter_congr fun S _ => ?_)
      show decide (tot f (r.1.1 :: S) = lo) = _
      rw [tot_cons]
    by_cases hg : r.2.1 + f r.1.1 = lo
    · have e1 : ((A r.1.2).filter fun S => decide (f r.1.1 + tot f S = lo)) = ((A r.1.2).filter fun S => decide (tot f S = r.2.1)) := List.filter_congr fun S _ => by
        have : (f r.1.1 + tot f S = lo) ↔ (tot f S = r.2.1) := by omega
        simp [this]
      rw [if_pos (by show decide (r.2.1 + f r.1.1 = lo) = true; exact decide_eq_true hg), List.map_cons, List.sum_cons, ← ih, e0, e1]
      show _ = r.2.2.2.2 + _
      rw [h2]
      exact Int.natCast_add _ _
    · have e1 : ((A r.1.2).filter fun S => decide (f r.1.1 + tot f S = lo)) = [] := List.filter_eq_nil_iff.mpr fun S hS => by
        have := h1 S hS
        simp
        omega
      rw [if_neg (by show ¬ decide (r.2.1 + f r.1.1 = lo) = true; simpa using hg), ← ih, e0, e1]
      rw [List.length_nil, Nat.zero_add]
theorem BOk.step {f : List Int → Int} {items : List Int} {R : List Rw} {lo hi few : Int} (hne : items ≠ []) (hR : R.map (·.1) = parts items) (hB : ∀ r ∈ R, BOk f r.1.2 r.2)
    (l1 : lo ∈ (R.map (rowQ f)).map (·.1)) (l2 : ∀ y ∈ (R.map (rowQ f)).map (·.1), lo ≤ y) (h1 : hi ∈ (R.map (rowQ f)).map (·.2.1)) (h2 : ∀ y ∈ (R.map (rowQ f)).map (·.2.1), y ≤ hi)
    (f1 : few ∈ ((R.map (rowQ f)).filter fun q => decide (q.1 = lo)).map (·.2.2.1)) (f2 : ∀ y ∈ ((R.map (rowQ f)).filter fun q => decide (q.1 = lo)).map (·.2.2.1), few ≤ y) :
    BOk f items (lo, hi, few, (((R.map (rowQ f)).filter fun q => decide (q.1 = lo)).map (·.2.2.2)).sum) := by
  rw [List.map_map] at l1 l2 h1 h2
  have at_ : ∀ p, p ∈ partsU items → ∃ r ∈ R, r.1 = p := fun p hp => by
    have := mem_parts.mpr hp
    rw [← hR] at this
    obtain ⟨r, hr, e⟩ := List.mem_map.mp this
    exact ⟨r, hr, e⟩
  have of_ : ∀ r ∈ R, r.1 ∈ partsU items := fun r hr => mem_parts.mp (by rw [← hR]; exact List.mem_map.mpr ⟨r, hr, rfl⟩)
  have lo_le : ∀ r ∈ R, lo ≤ r.2.1 + f r.1.1 := fun r hr => l2 _ (List.mem_map.mpr ⟨r, hr, rfl⟩)
  have inv : ∀ S, Splt items S → ∃ r ∈ R, ∃ S', Splt r.1.2 S' ∧ S = r.1.1 :: S' := fun S h => by
    rcases splt_inv h with ⟨e, _⟩ | ⟨p, S', hp, h', rfl⟩
    · exact absurd e hne
    · obtain ⟨r, hr, rfl⟩ := at_ p hp
      exact ⟨r, hr, S', h', rfl⟩
  refine ⟨?_, fun S h => ?_, ?_, fun S h => ?_, ?_, fun S h e => ?_, ?_⟩
  · obtain ⟨r, hr, e⟩ := List.mem_map.mp l1
    obtain ⟨S, hS, eS⟩ := (hB r hr).loE
    refine ⟨r.1.1 :: S, .cons (of_ r hr) hS, ?_⟩
    rw [tot_cons, eS]
    have e : r.2.1 + f r.1.1 = lo := e
    show _ = lo
    omega
  · obtain ⟨r, hr, S', h', rfl⟩ := inv S h
    have := (hB r hr).loL S' h'
    have := lo_le r hr
    rw [tot_cons]
    show lo ≤ _
    omega
  · obtain ⟨r, hr, e⟩ := List.mem_map.mp h1
    obtain ⟨S, hS, eS⟩ := (hB r hr).hiE
    refine ⟨r.1.1 :: S, .cons (of_ r hr) hS, ?_⟩
    rw [tot_cons, eS]
    have e : r.2.2.1 + f r.1.1 = hi := e
    show _ = hi
    omega
  · obtain ⟨r, hr, S', h', rfl⟩ := inv S h
    have a := (hB r hr).hiL S' h'
    have b : r.2.2.1 + f r.1.1 ≤ hi := h2 _ (List.mem_map.mpr ⟨r, hr, rfl⟩)
    rw [tot_cons]
    show _ ≤ hi
    omega
  · obtain ⟨q, hq, e⟩ := List.mem_map.mp f1
    obtain ⟨hq, hl⟩ := List.mem_filter.mp hq
    obtain ⟨r, hr, rfl⟩ := List.mem_map.mp hq
    obtain ⟨S, hS, eS, eL⟩ := (hB r hr).feE
    have hl : r.2.1 + f r.1.1 = lo := of_decide_eq_true hl
    refine ⟨r.1.1 :: S, .cons (of_ r hr) hS, ?_, ?_⟩
    · rw [tot_cons, eS]
      show _ = lo
      omega
    · have e : r.2.2.2.1 + 1 = few := e
      rw [List.length_cons]
      show _ = few
      omega
  · obtain ⟨r, hr, S', h', rfl⟩ := inv S h
    have a := (hB r hr).loL S' h'
    have b := lo_le r hr
    rw [tot_cons] at e
    have e : f r.1.1 + tot f S' = lo := e
    have c := (hB r hr).feL S' h' (by omega)
    have d : few ≤ r.2.2.2.1 + 1 := f2 _ (List.mem_map.mpr ⟨rowQ f r, List.mem_filter.mpr ⟨List.mem_map.mpr ⟨r, hr, rfl⟩, by show decide (r.2.1 + f r.1.1 = lo) = true; exact decide_eq_true (by omega)⟩, rfl⟩)
    rw [List.length_cons]
    show few ≤ _
    omega
  · cases items with
    | nil => exact absurd rfl hne
    | cons x xs =>
      have e : allS (x :: xs).length (x :: xs) = (R.map (·.1)).flatMap fun p => (allS xs.length p.2).map (p.1 :: ·) := by rw [hR]; rfl
      rw [e, ways_fold f lo (allS xs.length) R fun r hr => ⟨fun S hS => ?_, ?_, lo_le r hr⟩]
      · have := (part_len (of_ r hr)).1
        rw [List.length_cons] at this
        exact (hB r hr).loL S ((mem_allS (by omega)).mp hS)
      · have := (part_len (of_ r hr)).1
        rw [List.length_cons] at this
        rw [(hB r hr).wa, allS_fuel (n := xs.length) (m := r.1.2.length) (by omega) (Nat.le_refl _)]
theorem BOk.eq {f : List Int → Int} {items : List Int} {q q' : Qd} (h : BOk f items q) (h' : BOk f items q') : q = q' := by
  obtain ⟨lo, hi, few, w⟩ := q
  obtain ⟨lo', hi', few', w'⟩ := q'
  have e1 : lo = lo' := by
    obtain ⟨S, hS, e⟩ := h.loE
    obtain ⟨S', hS', e'⟩ := h'.loE
    have a := h.loL S' hS'
    have b := h'.loL S hS
    simp only at *
    omega
  have e2 : hi = hi' := by
    obtain ⟨S, hS, e⟩ := h.hiE
    obtain ⟨S', hS', e'⟩ := h'.hiE
    have a := h.hiL S' hS'
    have b := h'.hiL S hS
    simp only at *
    omega
  subst e1 e2
  have e3 : few = few' := by
    obtain ⟨S, hS, e, l⟩ := h.feE
    obtain ⟨S', hS', e', l'⟩ := h'.feE
    have a := h.feL S' hS' e'
    have b := h'.feL S hS e
    simp only at *
    omega
  have e4 : w = w' := by
    have a := h.wa
    have b := h'.wa
    simp only at *
    omega
  subst e3 e4
  rfl
/-- a search: its rule, its basket, the dict at d -/
def srF (K : PySem.W.Frag) (c b : Int) (bk : List Int) (d : Addr) : Mu := .ins (SC K) [("rule_here", .rule c b), ("basket_here", .tup (bk.map .int)), ("known", .ref d)]
def sp_Search_init (K : PySem.W.Frag) : SpD := fun ds μ Q _ => ∃ (p : Addr) (c b : Int) (bk : List Int), ds = [.ref p, .rule c b, .tup (bk.map .int)] ∧ μ p = some (.ins (SC K) []) ∧
  ∀ d μ', μ d = none → μ' p = some (srF K c b bk d) → μ' d = some (.dct []) → (∀ a, a ≠ p → a ≠ d → μ' a = μ a) → Q .non μ'
structure SrOk (c b : Int) (bk : List Int) : Prop where
  ru : Ru c b
  len : bk.length ≤ 10
  amt : ∀ x ∈ bk, Amt x
def sumAt (bk : List Int) (ch : List Int) : Int := (ch.map fun i => bk.getD i.toNat 0).sum
/-- the charge of a receipt -/
def fc (c b : Int) (bk : List Int) (ch : List Int) : Int := rnd c b (sumAt bk ch)
theorem fldS {K : PySem.W.Frag} {C : Addr} {fl : Str} {μ : Mo} {p : Addr} {fs : List (Str × D)} {d : D} (h : μ p = some (.ins C fs)) (hl : fs.lookup fl = some d) : FldIs K C fl μ (.ref p) d := .inr ⟨p, fs, rfl, h, hl⟩
def sp_Search_receipt (K : PySem.W.Frag) : SpD := fun ds μ Q _ => ∃ (p d : Addr) (c b : Int) (bk ch : List Int), ds = [.ref p, tupI ch] ∧ μ p = some (srF K c b bk d) ∧ SrOk c b bk ∧ (∀ i ∈ ch, 0 ≤ i ∧ i < bk.length) ∧ ch.length ≤ 12 ∧ Q (.int (fc c b bk ch)) μ
theorem getD_amt {bk : List Int} (h : ∀ x ∈ bk, Amt x) (i : Nat) : Amt (bk.getD i 0) := by
  rw [List.getD_eq_getElem?_getD]
  cases e : bk[i]? with
  | none => exact ⟨by decide, by decide⟩
  | some x => exact h x (List.mem_of_getElem? e)
theorem sumAt_amt {bk : List Int} (h : ∀ x ∈ bk, Amt x) (ch : List Int) : 0 ≤ sumAt bk ch ∧ sumAt bk ch ≤ 1000000000000 * ch.length := by
  have := sum_amt (ns := ch.map fun i => bk.getD i.toNat 0) (fun n hn => by obtain ⟨i, _, rfl⟩ := List.mem_map.mp hn; exact getD_amt h _)
  rw [List.length_map] at this
  exact this
def encQ (q : Qd) : D := .tup [.int q.1, .int q.2.1, .int q.2.2.1, .int q.2.2.2]
def kys (items : List Int) : List Key := items.map Sum.inl
theorem kys_inj {a b : List Int} (h : kys a = kys b) : a = b := List.map_inj_right (fun x y e => Sum.inl.inj e) |>.mp h
theorem kys_D (items : List Int) : (kys items).map keyD = items.map D.int := by
  unfold kys
  rw [List.map_map] <;> rfl
/-- what the dict holds -/
structure Known (f : List Int → Int) (all : List Int) (kvs : List (List Key × D)) : Prop where
  nd : (kvs.map (·.1)).Nodup
  ok : ∀ kv ∈ kvs, ∃ items q, kv = (kys items, encQ q) ∧ items.Sublist all ∧ BOk f items q
theorem Known.nil (f : List Int → Int) (all : List Int) : Known f all [] := ⟨List.nodup_nil, fun _ h => by cases h⟩
def subs : List Int → List (List Int)
  | [] => [[]]
  | x :: xs => (subs xs).map (x :: ·) ++ subs xs
theorem subs_len : ∀ l : List Int, (subs l).length = 2 ^ l.length
  | [] => rfl
  | x :: xs => by
    unfold subs
    rw [List.length_append, List.length_map, subs_len xs, List.length_cons, Nat.pow_succ]
    omega
theorem mem_subs : ∀ {l m : List Int}, m.Sublist l → m ∈ subs l
  | _, _, .slnil => by simp [subs]
  | _, _, .cons a h => by unfold subs; exact List.mem_append_right _ (mem_subs h)
  | _, _, .cons₂ a h => by unfold subs; exact List.mem_append_left _ (List.mem_map.mpr ⟨_, mem_subs h, rfl⟩)
theorem nodup_le {α : Type} [DecidableEq α] : ∀ {l m : List α}, l.Nodup → (∀ a ∈ l, a ∈ m) → l.length ≤ m.length
  | [], _, _, _ => Nat.zero_le _
  | a :: l, m, nd, h => by
    obtain ⟨n1, n2⟩ := List.nodup_cons.mp nd
    have ha := h a (List.mem_cons_self ..)
    have := nodup_le (l := l) (m := m.erase a) n2 fun x hx => (List.mem_erase_of_ne (fun e => n1 (by rw [← e]; exact hx))).mpr (h x (List.mem_cons_of_mem _ hx))
    rw [List.length_erase_of_mem ha] at this
    have hpos := List.length_pos_of_mem ha
    rw [List.length_cons]
    omega
theorem Known.len {f : List Int → Int} {all : List Int} {kvs : List (List Key × D)} (h : Known f all kvs) (hl : all.length ≤ 10) : kvs.length ≤ 1024 := by
  have h1 : (kvs.map (·.1)).length ≤ ((subs all).map kys).length := nodup_le h.nd fun a ha => by
    obtain ⟨kv, hkv, rfl⟩ := List.mem_map.mp ha
    obtain ⟨items, q, rfl, hs, _⟩ := h.ok kv hkv
    exact List.mem_map.mpr ⟨items, mem_subs hs, rfl⟩
  rw [List.length_map, List.length_map, subs_len] at h1
  have := Nat.pow_le_pow_right (n := 2) (by decide) hl
  omega
theorem getD_mem {kvs : List (List Key × D)} {k : List Key} {d : D} (h : getD kvs k = some d) : (k, d) ∈ kvs := by
  unfold getD at h
  obtain ⟨kv, h1, h2⟩ := Option.map_eq_some_iff.mp h
  have := List.find?_some h1
  have e : kv.1 = k := of_decide_eq_true this
  have hm := List.mem_of_find?_eq_some h1
  rw [← e, ← h2]
  exact hm
theorem Known.get {f : List Int → Int} {all : List Int} {kvs : List (List Key × D)} (h : Known f all kvs) {items : List Int} {d : D} (hg : getD kvs (kys items) = some d) : ∃ q, d = encQ q ∧ BOk f items q := by
  obtain ⟨items', q, e, _, hb⟩ := h.ok _ (getD_mem hg)
  have e1 : kys items = kys items' := congrArg Prod.fst e
  have e2 : d = encQ q := congrArg Prod.snd e
  rw [kys_inj e1]
  exact ⟨q, e2, hb⟩
theorem getD_any {kvs : List (List Key × D)} {k : List Key} (h : getD kvs k = none) : (kvs.any fun kv => decide (kv.1 = k)) = false := by
  unfold getD at h
  rw [Option.map_eq_none_iff, List.find?_eq_none] at h
  rw [List.any_eq_false]
  exact h
theorem getD_repl {k : List Key} {v : D} : ∀ {kvs : List (List Key × D)}, (kvs.any fun kv => decide (kv.1 = k)) = true → getD (kvs.map fun kv => if kv.1 = k then (kv.1, v) else kv) k = some v
  | [], h => by cases h
  | q :: kvs, h => by
    by_cases e : q.1 = k
    · unfold getD
      rw [List.map_cons, if_pos e, List.find?_cons_of_pos (by simpa using e)] <;> rfl
    · have h' : (kvs.any fun kv => decide (kv.1 = k)) = true := by
        rw [List.any_cons, decide_eq_false e, Bool.false_or] at h
        exact h
      have ih := getD_repl (v := v) h'
      unfold getD at ih ⊢
      rw [List.map_cons, if_neg e, List.find?_cons_of_neg (by simpa using e)]
      exact ih
theorem Known.put {f : List Int → Int} {all : List Int} {kvs : List (List Key × D)} (h : Known f all kvs) {items : List Int} {q : Qd} (hs : items.Sublist all) (hb : BOk f items q) :
    Known f all (putT kvs (kys items) (encQ q)) ∧ getD (putT kvs (kys items) (encQ q)) (kys items) = some (encQ q) := by
  unfold putT
  split
  · rename_i ha
    refine ⟨⟨?_, fun kv hkv => ?_⟩, getD_repl ha⟩
    · have e : ((kvs.map fun kv => if kv.1 = kys items then (kv.1, encQ q) else kv).map (·.1)) = kvs.map (·.1) := by
        rw [List.map_map]
        refine List.map_congr_left fun kv _ => ?_
        show (if kv.1 = kys items then (kv.1, encQ q) else kv).1 = kv.1
        split <;> rfl
      rw [e]
      exact h.nd
    · obtain ⟨kv', hkv', rfl⟩ := List.mem_map.mp hkv
      split
      · rename_i e
        exact ⟨items, q, by rw [e], hs, hb⟩
      · exact h.ok kv' hkv'
  · rename_i ha
    have ha : (kvs.any fun kv => decide (kv.1 = kys items)) = false := Bool.not_eq_true _ ▸ ha
    refine ⟨⟨?_, fun kv hkv => ?_⟩, ?_⟩
    · rw [List.map_append, List.nodup_append]
      refine ⟨h.nd, by simp, fun a ha' b hb' => ?_⟩
      rw [List.map_cons, List.map_nil, List.mem_singleton] at hb'
      subst hb'
      intro e2
      obtain ⟨kv, hkv, rfl⟩ := List.mem_map.mp ha'
      rw [List.any_eq_false] at ha
      exact ha kv hkv (decide_eq_true e2)
    · rcases List.mem_append.mp hkv with hkv | hkv
      · exact h.ok kv hkv
      · rw [List.mem_singleton.mp hkv]
        exact ⟨items, q, rfl, hs, hb⟩
    · unfold getD
      have hn : kvs.find? (fun kv => decide (kv.1 = kys items)) = none := by
        rw [List.find?_eq_none]
        rw [List.any_eq_false] at ha
        exact ha
      rw [List.find?_append, hn]
      simp
theorem less_upd {μ μ' : Mo} {d : Addr} {A B : Option Mu} (h : Less (updM μ d A) μ') : Less (updM μ d B) (updM μ' d B) := fun a m e => by
  by_cases ha : a = d
  · subst ha
    rw [updM_same] at e ⊢
    exact e
  · rw [updM_ne ha] at e ⊢
    exact h a m (by rw [updM_ne ha]; exact e)
theorem parts_len {items : List Int} (h : items.length ≤ 12) : (parts items).length ≤ 2048 := by
  unfold parts
  rw [List.length_mergeSort]
  cases items with
  | nil => simp [partsU]
  | cons x xs =>
    unfold partsU
    rw [pt_len]
    rw [List.length_cons] at h
    have := Nat.pow_le_pow_right (n := 2) (by decide) (show xs.length ≤ 11 by omega)
    simp only [List.length_cons, List.length_nil]
    omega
def sp_Search_bounds (K : PySem.W.Frag) (n : Nat) : SpD := fun ds μ Q _ => ∃ (p d : Addr) (c b : Int) (bk items : List Int) (kvs : List (List Key × D)), ds = [.ref p, tupI items] ∧ μ p = some (srF K c b bk d) ∧ μ d = some (.dct kvs) ∧ SrOk c b bk ∧
  items.Sublist (upN bk.length) ∧ items.length < n ∧ Known (fc c b bk) (upN bk.length) kvs ∧ ∀ q kvs', BOk (fc c b bk) items q → Known (fc c b bk) (upN bk.length) kvs' → Q (encQ q) (updM μ d (some (.dct kvs')))
theorem upN_mem {n : Nat} {v : Int} : v ∈ upN n ↔ 0 ≤ v ∧ v < n := by
  unfold upN
  rw [List.mem_map]
  constructor
  · rintro ⟨i, hi, rfl⟩
    have := List.mem_range.mp hi
    omega
  · rintro ⟨h1, h2⟩
    exact ⟨v.toNat, List.mem_range.mpr (by omega), by omega⟩
theorem upN_len (n : Nat) : (upN n).length = n := by unfold upN; rw [List.length_map, List.length_range]
def sp_need_basket : SpD := fun ds μ Q _ => ∃ (bk : List Int) (m : Int), ds = [.tup (bk.map .int), .int m] ∧ bk.length ≤ 1000 ∧ (bk.length : Int) ≤ m ∧ (∀ x ∈ bk, Amt x) ∧ Q .non μ
theorem isInt_amt {x : Int} (h : Amt x) : DL.isInt (.int x) 0 1000000000000 = true := by have := h.1; have := h.2; simp [DL.isInt]; omega
theorem search_go {K : PySem.W.Frag} {c b : Int} {bk : List Int} {μ : Mo} {ξ : Addr → Mo → Prop} {Qf : DK} (hok : SrOk c b bk) (h : ∀ z μ', BOk (fc c b bk) (upN bk.length) z → Less μ μ' → Qf (encQ z) μ') :
    ∀ a : Addr, μ a = none → sp_Search_init K [D.ref a, D.rule c b, D.tup (List.map D.int bk)] (updM μ a (some (Mu.ins (SC K) []))) (MkQ K (SC K) a false fun x μ1 => RcvOk K (SC K) (Str.ofString "bounds") μ1 x ∧
      sp_all_items [D.tup (List.map D.int bk)] μ1 (fun x_1 μ1 => sp_Search_bounds K 12 [x, x_1] μ1 Qf ξ) ξ) ξ := by
  intro a ha
  have hlen := hok.len
  refine ⟨a, c, b, bk, rfl, updM_same, fun d μ' hd hp hdd hoth => ⟨rfl, ?_⟩⟩
  have hda : d ≠ a := fun e => by rw [e, updM_same] at hd; cases hd
  rw [updM_ne hda] at hd
  refine ⟨.inr ⟨a, _, rfl, hp, rfl⟩, bk, rfl, by omega, ?_⟩
  refine ⟨a, d, c, b, bk, upN bk.length, [], rfl, hp, hdd, hok, List.Sublist.refl _, by rw [upN_len]; omega, Known.nil _ _, fun q kvs' hb hk => h q _ hb fun x m e => ?_⟩
  have h1 : x ≠ a := fun z => by rw [z, ha] at e; cases e
  have h2 : x ≠ d := fun z => by rw [z, hd] at e; cases e
  rw [updM_ne h2, hoth x h1 h2, updM_ne h1]
  exact e
def sp_least_total : SpD := fun ds μ Q _ => ∃ (c b : Int) (bk : List Int), ds = [.rule c b, .tup (bk.map .int)] ∧ SrOk c b bk ∧ ∀ z, BOk (fc c b bk) (upN bk.length) z → Q (.int z.1) μ
def sp_greatest_total : SpD := fun ds μ Q _ => ∃ (c b : Int) (bk : List Int), ds = [.rule c b, .tup (bk.map .int)] ∧ SrOk c b bk ∧ ∀ z, BOk (fc c b bk) (upN bk.length) z → Q (.int z.2.1) μ
def sp_splitting_gain : SpD := fun ds μ Q _ => ∃ (c b : Int) (bk : List Int), ds = [.rule c b, .tup (bk.map .int)] ∧ SrOk c b bk ∧ ∀ z, BOk (fc c b bk) (upN bk.length) z → Q (.int (rnd c b bk.sum - z.1)) μ
theorem sum_nm2 {bk : List Int} (hl : bk.length ≤ 1000) (h : ∀ n ∈ bk, Amt n) : Nm bk.sum := sum_nm hl h
def sp_law_basket : SpD := fun ds μ Q _ => ∃ (p : Addr) (c b m : Int), ds = [.ref p, .tup [.int c, .int b], .int m] ∧ Bag μ p ∧ Ru c b ∧ 0 ≤ m ∧ m ≤ 100 ∧ ∀ (bk : List Int) μ', (bk.length : Int) ≤ m → (∀ x ∈ bk, Amt x) → BagStep p μ μ' → Q (.tup (bk.map .int)) μ'
theorem rnd0 {c b : Int} (h : Ru c b) : rnd c b 0 = 0 := by
  rw [rnd_eq h]
  have := h.1; have := h.2.2.1
  unfold rndL
  simp
  omega
theorem splt_whole {items : List Int} (h : items ≠ []) : Splt items [items] := by
  cases items with
  | nil => exact absurd rfl h
  | cons x xs => exact .cons (p := (x :: xs, [])) (mem_partsU.mpr ⟨xs, rfl, Mix.all xs⟩) .nil
theorem splt_apart : ∀ items : List Int, Splt items (items.map fun i => [i])
  | [] => .nil
  | x :: xs => .cons (p := ([x], xs)) (mem_partsU.mpr ⟨[], rfl, Mix.none xs⟩) (splt_apart xs)
theorem splt_one {x : Int} {S : List (List Int)} (h : Splt [x] S) : S = [[x]] := by
  rcases splt_inv h with ⟨e, _⟩ | ⟨p, S', hp, h', rfl⟩
  · cases e
  · obtain ⟨l, e, hm⟩ := mem_partsU.mp hp
    obtain ⟨p1, p2⟩ := p
    cases hm
    have e : p1 = [x] := e
    subst e
    rcases splt_inv h' with ⟨_, rfl⟩ | ⟨q, _, hq, _⟩
    · rfl
    · cases hq
theorem BOk.one {f : List Int → Int} {x : Int} {z : Qd} (h : BOk f [x] z) : z.1 = f [x] ∧ z.2.1 = f [x] := by
  obtain ⟨S, hS, e⟩ := h.loE
  obtain ⟨S', hS', e'⟩ := h.hiE
  rw [splt_one hS] at e
  rw [splt_one hS'] at e'
  simp [tot] at e e'
  exact ⟨e.symm, e'.symm⟩
theorem tot_mono {f g : List Int → Int} (h : ∀ r, f r ≤ g r) : ∀ S : List (List Int), tot f S ≤ tot g S
  | [] => Int.le_refl _
  | r :: S => by
    rw [tot_cons, tot_cons]
    have := h r
    have := tot_mono h S
    omega
theorem BOk.mono {f g : List Int → Int} {items : List Int} {z z' : Qd} (h : ∀ r, f r ≤ g r) (h1 : BOk f items z) (h2 : BOk g items z') : z.1 ≤ z'.1 ∧ z.2.1 ≤ z'.2.1 := by
  obtain ⟨S, hS, e⟩ := h2.loE
  obtain ⟨S', hS', e'⟩ := h1.hiE
  have a := h1.loL S hS
  have b := h2.hiL S' hS'
  have c := tot_mono h S
  have d := tot_mono h S'
  omega
theorem BOk.whole {f : List Int → Int} {items : List Int} {z : Qd} (h : BOk f items z) (hne : items ≠ []) : z.1 ≤ f items := by
  have := h.loL _ (splt_whole hne)
  simpa [tot] using this
theorem BOk.apart {f : List Int → Int} {items : List Int} {z : Qd} (h : BOk f items z) : z.1 ≤ (items.map fun i => f [i]).sum := by
  have := h.loL _ (splt_apart items)
  unfold tot at this
  rw [List.map_map] at this
  exact this
theorem sumAt_mix {bk xs l r : List Int} (h : Mix xs l r) : sumAt bk xs = sumAt bk l + sumAt bk r := h.sum _
theorem sumAt_cons (bk : List Int) (i : Int) (r : List Int) : sumAt bk (i :: r) = bk.getD i.toNat 0 + sumAt bk r := by unfold sumAt; simp
theorem sumAt_part {bk items : List Int} {p : List Int × List Int} (h : p ∈ partsU items) : sumAt bk items = sumAt bk p.1 + sumAt bk p.2 := by
  cases items with
  | nil => cases h
  | cons x xs =>
    obtain ⟨l, e, hm⟩ := mem_partsU.mp h
    rw [e, sumAt_cons, sumAt_cons, sumAt_mix hm]
    omega
theorem rnd_up {c u v : Int} (h : Ru c 1) : rnd c 1 (u + v) ≤ rnd c 1 u + rnd c 1 v := by
  rw [rnd_eq h, rnd_eq h, rnd_eq h]
  unfold rndL
  rcases ru_cases h with rfl | rfl | rfl | rfl | rfl | rfl | rfl | rfl | rfl <;> (repeat' split) <;> omega
theorem rnd_down {c u v : Int} (h : Ru c c) : rnd c c u + rnd c c v ≤ rnd c c (u + v) := by
  rw [rnd_eq h, rnd_eq h, rnd_eq h]
  unfold rndL
  rcases ru_cases h with rfl | rfl | rfl | rfl | rfl | rfl | rfl | rfl | rfl <;> (repeat' split) <;> omega
theorem up_tot {c : Int} {bk : List Int} (h : Ru c 1) : ∀ {items : List Int} {S : List (List Int)}, Splt items S → rnd c 1 (sumAt bk items) ≤ tot (fc c 1 bk) S
  | _, _, .nil => by
    show rnd c 1 0 ≤ 0
    rw [rnd0 h]
    exact Int.le_refl _
  | _, _, @Splt.cons items p S hp hS => by
    have ih := up_tot (bk := bk) h hS
    rw [sumAt_part hp, tot_cons]
    have := rnd_up (u := sumAt bk p.1) (v := sumAt bk p.2) h
    unfold fc at ih ⊢
    exact Int.le_trans this (by omega)
theorem down_rec {c : Int} {bk : List Int} (h : Ru c c) : ∀ r : List Int, (r.map fun i => fc c c bk [i]).sum ≤ fc c c bk r
  | [] => by
    show (0 : Int) ≤ rnd c c 0
    rw [rnd0 h]
    exact Int.le_refl _
  | i :: r => by
    have ih := down_rec (bk := bk) h r
    rw [List.map_cons, List.sum_cons]
    have e : sumAt bk (i :: r) = sumAt bk [i] + sumAt bk r := by rw [sumAt_cons, sumAt_cons]; simp [sumAt]
    have := rnd_down (u := sumAt bk [i]) (v := sumAt bk r) h
    show _ ≤ rnd c c (sumAt bk (i :: r))
    rw [e]
    unfold fc at ih ⊢
    omega
theorem down_tot {c : Int} {bk : List Int} (h : Ru c c) : ∀ {items : List Int} {S : List (List Int)}, Splt items S → (items.map fun i => fc c c bk [i]).sum ≤ tot (fc c c bk) S
  | _, _, .nil => Int.le_refl _
  | items, _, .cons hp hS => by
    have ih := down_tot (bk := bk) h hS
    rw [tot_cons]
    cases items with
    | nil => cases hp
    | cons x xs =>
      obtain ⟨l, e, hm⟩ := mem_partsU.mp hp
      have e2 := hm.sum fun i => fc c c bk [i]
      have r1 := down_rec (bk := bk) h (x :: l)
      rw [e]
      rw [List.map_cons, List.sum_cons] at r1 ⊢
      omega
theorem map_upN {α : Type} (bk : List Int) (g : Int → α) : (upN bk.length).map (fun i => g (bk.getD i.toNat 0)) = bk.map g := by
  apply List.ext_getElem?
  intro k
  unfold upN
  rw [List.map_map, List.getElem?_map, List.getElem?_map]
  by_cases hk : k < bk.length
  · rw [List.getElem?_range hk, List.getElem?_eq_getElem hk]
    simp [List.getD_eq_getElem?_getD, List.getElem?_eq_getElem hk]
  · rw [List.getElem?_eq_none (by simpa using hk), List.getElem?_eq_none (by simpa using hk)] <;> rfl
theorem sumAt_all (bk : List Int) : sumAt bk (upN bk.length) = bk.sum := by
  unfold sumAt
  rw [map_upN bk (fun x => x), List.map_id']
theorem fc_one (c b : Int) (bk : List Int) (i : Int) : fc c b bk [i] = rnd c b (bk.getD i.toNat 0) := by
  unfold fc
  rw [sumAt_cons]
  simp [sumAt]
theorem apart_all (c b : Int) (bk : List Int) : ((upN bk.length).map fun i => fc c b bk [i]).sum = (bk.map (rnd c b)).sum := by
  rw [← map_upN bk (rnd c b)]
  congr 1
  exact List.map_congr_left fun i _ => fc_one c b bk i
theorem low_up {c : Int} {bk : List Int} {z : Qd} (h : Ru c 1) (hb : BOk (fc c 1 bk) (upN bk.length) z) : z.1 = rnd c 1 bk.sum := by
  obtain ⟨S, hS, e⟩ := hb.loE
  have a := up_tot (bk := bk) h hS
  rw [sumAt_all] at a
  by_cases hne : upN bk.length = []
  · rw [hne] at hb
    have e2 := hb.eq (BOk.nil _)
    have hz : bk = [] := by
      have := congrArg List.length hne
      rw [upN_len] at this
      exact List.eq_nil_of_length_eq_zero this
    rw [e2, hz]
    show (0 : Int) = rnd c 1 0
    rw [rnd0 h]
  · have := hb.whole hne
    unfold fc at this
    rw [sumAt_all] at this
    omega
theorem low_down {c : Int} {bk : List Int} {z : Qd} (h : Ru c c) (hb : BOk (fc c c bk) (upN bk.length) z) : z.1 = (bk.map (rnd c c)).sum := by
  obtain ⟨S, hS, e⟩ := hb.loE
  have a := down_tot (bk := bk) h hS
  have b := hb.apart
  rw [apart_all] at a b
  omega
theorem low_one {c b s : Int} {z : Qd} (h : BOk (fc c b [s]) (upN [s].length) z) : z.1 = rnd c b s := by
  have e : upN [s].length = [0] := rfl
  rw [e] at h
  rw [h.one.1, fc_one]
  rfl
def sp_law_amount : SpD := fun ds μ Q _ => ∃ p : Addr, ds = [.ref p] ∧ Bag μ p ∧ ∀ a μ', Amt a → BagStep p μ μ' → Q (.int a) μ'
/-- 0, 1, .., n - 1 -/
def upTo (n : Nat) : List Int := (List.range n).map fun (i : Nat) => (i : Int)
def gapL (c b c' b' : Int) : List Int := (upTo (c * c').toNat).map fun w => rnd c b w - rnd c' b' w
theorem ru_prod {c b c' b' : Int} (h1 : Ru c b) (h2 : Ru c' b') : 4 ≤ c * c' ∧ c * c' ≤ 100 := by
  have a1 := h1.1; have a2 := h1.2.1; have a3 := h2.1; have a4 := h2.2.1
  have l1 : 2 * c' ≤ c * c' := Int.mul_le_mul_of_nonneg_right a1 (by omega)
  have l2 : c * c' ≤ 10 * c' := Int.mul_le_mul_of_nonneg_right a2 (by omega)
  omega
def sp_extras : SpD := fun ds μ Q _ => ∃ (c b c' b' : Int), ds = [.rule c b, .rule c' b'] ∧ Ru c b ∧ Ru c' b' ∧ Q (.lst ((gapL c b c' b').map .int)) μ
theorem gapL_len {c b c' b' : Int} (h1 : Ru c b) (h2 : Ru c' b') : 0 < (gapL c b c' b').length := by
  have := ru_prod h1 h2
  unfold gapL upTo
  simp
  omega
theorem rnd_add {c b w : Int} (h : Ru c b) (k : Int) : rnd c b (w + c * k) = rnd c b w + c * k := by
  have h0 := h.1
  unfold rnd
  rw [show w + c * k + c - b = (w + c - b) + c * k by omega, Int.add_mul_ediv_left _ _ (by omega), Int.add_mul, Int.mul_comm k c]
def gp (c b c' b' w : Int) : Int := rnd c b w - rnd c' b' w
theorem gp_mod {c b c' b' w : Int} (h1 : Ru c b) (h2 : Ru c' b') : gp c b c' b' w = gp c b c' b' (w % (c * c')) := by
  have e := Int.emod_add_mul_ediv w (c * c')
  have a1 := rnd_add (w := w % (c * c')) h1 (c' * (w / (c * c')))
  have a2 := rnd_add (w := w % (c * c')) h2 (c * (w / (c * c')))
  rw [← Int.mul_assoc, e] at a1
  rw [← Int.mul_assoc, Int.mul_comm c' c, e] at a2
  unfold gp
  rw [a1, a2]
  omega
theorem upTo_mem {n : Nat} {v : Int} : v ∈ upTo n ↔ 0 ≤ v ∧ v < n := by
  unfold upTo
  rw [List.mem_map]
  constructor
  · rintro ⟨i, hi, rfl⟩
    have := List.mem_range.mp hi
    omega
  · rintro ⟨h1, h2⟩
    exact ⟨v.toNat, List.mem_range.mpr (by omega), by omega⟩
theorem gp_memL {c b c' b' : Int} (h1 : Ru c b) (h2 : Ru c' b') (w : Int) : gp c b c' b' w ∈ gapL c b c' b' := by
  have hp := ru_prod h1 h2
  rw [gp_mod h1 h2]
  unfold gapL
  exact List.mem_map.mpr ⟨w % (c * c'), upTo_mem.mpr ⟨Int.emod_nonneg _ (by omega), by have := Int.emod_lt_of_pos w (b := c * c') (by omega); omega⟩, rfl⟩
theorem gp_ofL {c b c' b' m : Int} (h : m ∈ gapL c b c' b') : ∃ w, 0 ≤ w ∧ w < c * c' ∧ m = gp c b c' b' w := by
  unfold gapL at h
  obtain ⟨w, hw, e⟩ := List.mem_map.mp h
  have := upTo_mem.mp hw
  exact ⟨w, this.1, by omega, e.symm⟩
/-- the largest of 200 gaps is the largest of a period -/
def MaxG (c b c' b' m : Int) : Prop := (∃ w, m = gp c b c' b' w) ∧ ∀ w, gp c b c' b' w ≤ m
theorem maxG_L {c b c' b' m : Int} (h1 : Ru c b) (h2 : Ru c' b') (hm : m ∈ gapL c b c' b') (hy : ∀ y ∈ gapL c b c' b', y ≤ m) : MaxG c b c' b' m := by
  obtain ⟨w, _, _, e⟩ := gp_ofL hm
  exact ⟨⟨w, e⟩, fun v => hy _ (gp_memL h1 h2 v)⟩
theorem maxG_200 {c b c' b' m : Int} (h1 : Ru c b) (h2 : Ru c' b') (hm : m ∈ (upTo 200).map (gp c b c' b')) (hy : ∀ y ∈ (upTo 200).map (gp c b c' b'), y ≤ m) : MaxG c b c' b' m := by
  have hp := ru_prod h1 h2
  obtain ⟨w, _, e⟩ := List.mem_map.mp hm
  refine ⟨⟨w, e.symm⟩, fun v => ?_⟩
  rw [gp_mod h1 h2]
  have := Int.emod_lt_of_pos v (b := c * c') (by omega)
  exact hy _ (List.mem_map.mpr ⟨_, upTo_mem.mpr ⟨Int.emod_nonneg _ (by omega), by omega⟩, rfl⟩)
theorem MaxG.eq {c b c' b' m n : Int} (h : MaxG c b c' b' m) (h' : MaxG c b c' b' n) : m = n := by
  obtain ⟨⟨w, e⟩, a⟩ := h
  obtain ⟨⟨w', e'⟩, a'⟩ := h'
  have := a w'; have := a' w
  omega
theorem MaxG.two {c b c' b' m n : Int} (h : MaxG c b c' b' m) (h' : MaxG c' b' c b n) : 0 ≤ m + n := by
  have a := h.2 0; have a' := h'.2 0
  unfold gp at a a'
  omega
theorem MaxG.coin {c b b' m : Int} (h1 : Ru c b) (h2 : Ru c b') (h : MaxG c b c b' m) : m ≤ 0 ↔ b' ≤ b := by
  have k1 := h1.1; have k2 := h1.2.2.1; have k3 := h2.2.2.2
  constructor
  · intro hm
    have a := h.2 b
    unfold gp at a
    rw [rnd_eq h1, rnd_eq h2] at a
    by_cases hb : b' ≤ b
    · exact hb
    · exfalso
      unfold rndL at a
      have : b % c = b := Int.emod_eq_of_lt (by omega) (by omega)
      rw [this] at a
      rw [if_neg (by omega), if_pos (by omega)] at a
      omega
  · intro hb
    obtain ⟨⟨w, rfl⟩, _⟩ := h
    unfold gp
    rw [rnd_eq h1, rnd_eq h2]
    unfold rndL
    split <;> split <;> omega
/-- the first whole where the two differ -/
theorem due_none {c b c' b' : Int} (h1 : Ru c b) (h2 : Ru c' b') (h : ∀ w : Int, 0 ≤ w → w < c * c' → rnd c b w = rnd c' b' w) (w : Int) : gp c b c' b' w = 0 := by
  have hp := ru_prod h1 h2
  rw [gp_mod h1 h2]
  have := h (w % (c * c')) (Int.emod_nonneg _ (by omega)) (Int.emod_lt_of_pos _ (by omega))
  unfold gp
  omega
theorem same_eq {c b c' b' : Int} (h1 : Ru c b) (h2 : Ru c' b') (h : ∀ w : Int, gp c b c' b' w = 0) : c = c' ∧ b = b' := by
  have z : ∀ w, rndL c b w = rndL c' b' w := fun w => by have := h w; unfold gp at this; rw [rnd_eq h1, rnd_eq h2] at this; omega
  obtain ⟨a1, a2, a3, a4⟩ := h1
  obtain ⟨b1, b2, b3, b4⟩ := h2
  have e : ∀ (c b : Int), 2 ≤ c → 1 ≤ b → b ≤ c → rndL c b b = c ∨ (b = c ∧ rndL c b b = c) := fun c b h0 h1 h2 => by
    by_cases hb : b = c
    · subst hb; right; unfold rndL; simp; omega
    · left; unfold rndL; rw [Int.emod_eq_of_lt (by omega) (by omega), if_neg (by omega)]; omega
  have e0 : ∀ (c b v : Int), 2 ≤ c → 1 ≤ b → b ≤ c → 0 ≤ v → v < b → rndL c b v = 0 := fun c b v h0 h1 h2 h3 h4 => by
    unfold rndL; rw [Int.emod_eq_of_lt (by omega) (by omega), if_pos (by omega)]; omega
  have hb : b = b' := by
    rcases Int.lt_trichotomy b b' with hlt | he | hlt
    · have := e0 c' b' b b1 b3 b4 (by omega) hlt; rw [← z] at this; rcases e c b a1 a3 a4 with h | h <;> omega
    · exact he
    · have := e0 c b b' a1 a3 a4 (by omega) hlt; rw [z] at this; rcases e c' b' b1 b3 b4 with h | h <;> omega
  subst hb
  have := z b
  rcases e c b a1 a3 a4 with h | h <;> rcases e c' b b1 b3 b4 with h' | h' <;> omega
def sp_never_more : SpD := fun ds μ Q _ => ∃ (c b c' b' : Int), ds = [.rule c b, .rule c' b'] ∧ Ru c b ∧ Ru c' b' ∧ ∀ m, MaxG c b c' b' m → Q (.bl (decide (m ≤ 0))) μ
def sp_largest_extra : SpD := fun ds μ Q _ => ∃ (c b c' b' : Int), ds = [.rule c b, .rule c' b'] ∧ Ru c b ∧ Ru c' b' ∧ ∀ m, MaxG c b c' b' m → Q (.int m) μ
/-- sizes of receipts -/
structure CompL (n : Nat) (L : List Nat) : Prop where
  sum : L.sum = n
  pos : ∀ s ∈ L, 1 ≤ s
def ct (f : Nat → Int) (L : List Nat) : Int := (L.map f).sum
theorem ct_cons (f : Nat → Int) (s : Nat) (L : List Nat) : ct f (s :: L) = f s + ct f L := by unfold ct; simp
theorem ct_append (f : Nat → Int) (L M : List Nat) : ct f (L ++ M) = ct f L + ct f M := by unfold ct; simp
theorem ct_rep (f : Nat → Int) (k s : Nat) : ct f (List.replicate k s) = k * f s := by
  induction k with
  | zero => simp [ct]
  | succ k ih => rw [List.replicate_succ, ct_cons, ih, Int.natCast_add, Int.add_mul]; omega
/-- the least total of n equal items -/
structure EqM (f : Nat → Int) (n : Nat) (v : Int) : Prop where
  ex : ∃ L, CompL n L ∧ ct f L = v
  le : ∀ L, CompL n L → v ≤ ct f L
theorem EqM.uniq {f : Nat → Int} {n : Nat} {v w : Int} (h : EqM f n v) (h' : EqM f n w) : v = w := by
  obtain ⟨L, a, b⟩ := h.ex
  obtain ⟨L', a', b'⟩ := h'.ex
  have := h.le L' a'
  have := h'.le L a
  omega
theorem CompL.nil : CompL 0 [] := ⟨rfl, fun s h => by cases h⟩
theorem CompL.cons {n s : Nat} {L : List Nat} (h : CompL n L) (hs : 1 ≤ s) : CompL (s + n) (s :: L) := ⟨by rw [List.sum_cons, h.sum], fun t ht => by
  rcases List.mem_cons.mp ht with e | ht
  · rw [e]; exact hs
  · exact h.pos t ht⟩
theorem CompL.tail {n s : Nat} {L : List Nat} (h : CompL n (s :: L)) : 1 ≤ s ∧ s ≤ n ∧ CompL (n - s) L := by
  have e := h.sum
  rw [List.sum_cons] at e
  exact ⟨h.pos s (List.mem_cons_self ..), by omega, ⟨by omega, fun t ht => h.pos t (List.mem_cons_of_mem _ ht)⟩⟩
theorem EqM.zero (f : Nat → Int) : EqM f 0 0 := by
  refine ⟨⟨[], .nil, rfl⟩, fun L h => ?_⟩
  cases L with
  | nil => exact Int.le_refl _
  | cons s L => have := h.tail; omega
/-- one more item; sizes up to c are enough -/
theorem EqM.step {f : Nat → Int} {n c : Nat} {w : Int} {v : Nat → Int} (hn : 1 ≤ n) (hc : 1 ≤ c) (ha : ∀ s, c < s → s ≤ n → f s = f c + f (s - c)) (hv : ∀ m, m < n → EqM f m (v m))
    (h1 : ∃ s, 1 ≤ s ∧ s ≤ c ∧ s ≤ n ∧ w = f s + v (n - s)) (h2 : ∀ s, 1 ≤ s → s ≤ c → s ≤ n → w ≤ f s + v (n - s)) : EqM f n w := by
  refine ⟨?_, fun L h => ?_⟩
  · obtain ⟨s, a, b, d, e⟩ := h1
    obtain ⟨L, hL, eL⟩ := (hv (n - s) (by omega)).ex
    refine ⟨s :: L, ?_, by rw [ct_cons, eL, e]⟩
    have := hL.cons a
    rwa [Nat.add_sub_cancel' d] at this
  · cases L with
    | nil => have := h.sum; simp at this; omega
    | cons s L =>
      obtain ⟨a, b, hL⟩ := h.tail
      rw [ct_cons]
      by_cases hs : s ≤ c
      · have := h2 s a hs b
        have := (hv (n - s) (by omega)).le L hL
        omega
      · have e := ha s (by omega) b
        have x := h2 c hc (Nat.le_refl _) (by omega)
        have hL2 : CompL (n - c) ((s - c) :: L) := by
          have := hL.cons (s := s - c) (by omega)
          have e2 : s - c + (n - s) = n - c := by omega
          rwa [e2] at this
        have := (hv (n - c) (by omega)).le _ hL2
        rw [ct_cons] at this
        omega
theorem ct_mod {f : Nat → Int} {k : Int} (h : ∀ s, f s % k = 0) : ∀ L : List Nat, ct f L % k = 0
  | [] => by simp [ct]
  | s :: L => by
    rw [ct_cons, Int.add_emod, h s, ct_mod h L]
    simp
theorem ct_mono {f g : Nat → Int} (h : ∀ s, f s ≤ g s) : ∀ L : List Nat, ct f L ≤ ct g L
  | [] => Int.le_refl _
  | s :: L => by
    rw [ct_cons, ct_cons]
    have := h s
    have := ct_mono h L
    omega
theorem EqM.sub {f : Nat → Int} {n m : Nat} {v w u : Int} (h : EqM f n v) (h' : EqM f m w) (hu : EqM f (n + m) u) : u ≤ v + w := by
  obtain ⟨L, a, b⟩ := h.ex
  obtain ⟨M, c, d⟩ := h'.ex
  have := hu.le (L ++ M) ⟨by rw [List.sum_append, a.sum, c.sum], fun s hs => (List.mem_append.mp hs).elim (a.pos s) (c.pos s)⟩
  rw [ct_append, b, d] at this
  exact this
theorem EqM.ones {f : Nat → Int} {n : Nat} {v : Int} (h : EqM f n v) : v ≤ n * f 1 := by
  have := h.le (List.replicate n 1) ⟨by rw [List.sum_replicate_nat]; omega, fun s hs => by rw [(List.mem_replicate.mp hs).2]; exact Nat.le_refl _⟩
  rwa [ct_rep] at this
theorem EqM.whole {f : Nat → Int} {n : Nat} {v : Int} (h : EqM f n v) (h0 : f 0 = 0) : v ≤ f n := by
  by_cases hn : n = 0
  · subst hn
    have := h.le [] .nil
    rw [h0]
    exact this
  · have := h.le [n] ⟨by simp, fun s hs => by rw [List.mem_singleton.mp hs]; omega⟩
    simpa [ct] using this
theorem EqM.modc {f : Nat → Int} {n : Nat} {v k : Int} (h : EqM f n v) (hk : ∀ s, f s % k = 0) : v % k = 0 := by
  obtain ⟨L, _, rfl⟩ := h.ex
  exact ct_mod hk L
theorem EqM.mono {f g : Nat → Int} {n : Nat} {v w : Int} (hfg : ∀ s, f s ≤ g s) (h : EqM f n v) (h' : EqM g n w) : v ≤ w := by
  obtain ⟨L, a, rfl⟩ := h'.ex
  exact Int.le_trans (h.le L a) (ct_mono hfg L)
theorem ct_zero : ∀ L : List Nat, ct (fun _ => (0 : Int)) L = 0
  | [] => rfl
  | s :: L => by rw [ct_cons, ct_zero L] <;> rfl
theorem EqM.pos {f : Nat → Int} {n : Nat} {v : Int} (h : EqM f n v) (h0 : ∀ s, 0 ≤ f s) : 0 ≤ v := by
  obtain ⟨L, _, rfl⟩ := h.ex
  have := ct_mono (f := fun _ => 0) (g := f) h0 L
  rwa [ct_zero] at this
theorem sum_le_mul {c : Nat} : ∀ {L : List Nat}, (∀ s ∈ L, s ≤ c) → L.sum ≤ c * L.length
  | [], _ => by simp
  | s :: L, h => by
    have := sum_le_mul fun t ht => h t (List.mem_cons_of_mem _ ht)
    have := h s (List.mem_cons_self ..)
    rw [List.sum_cons, List.length_cons, Nat.mul_succ]
    omega
/-- a piece as pieces up to c -/
theorem piece {f : Nat → Int} {c : Nat} (hc : 1 ≤ c) (ha : ∀ s, c < s → f s = f c + f (s - c)) : ∀ (k s : Nat), s ≤ k → 1 ≤ s → ∃ L, CompL s L ∧ (∀ t ∈ L, t ≤ c) ∧ ct f L = f s
  | 0, s, h, h1 => by omega
  | k + 1, s, h, h1 => by
    by_cases hs : s ≤ c
    · exact ⟨[s], ⟨by simp, fun t ht => by rw [List.mem_singleton.mp ht]; exact h1⟩, fun t ht => by rw [List.mem_singleton.mp ht]; exact hs, by simp [ct]⟩
    · obtain ⟨L, a, b, e⟩ := piece hc ha k (s - c) (by omega) (by omega)
      refine ⟨c :: L, ?_, fun t ht => ?_, by rw [ct_cons, e, ha s (by omega)]⟩
      · have := a.cons hc
        rwa [Nat.add_sub_cancel' (by omega)] at this
      · rcases List.mem_cons.mp ht with e | ht
        · rw [e]; exact Nat.le_refl _
        · exact b t ht
theorem small {f : Nat → Int} {c : Nat} (hc : 1 ≤ c) (ha : ∀ s, c < s → f s = f c + f (s - c)) : ∀ (L : List Nat) (n : Nat), CompL n L → ∃ L', CompL n L' ∧ (∀ t ∈ L', t ≤ c) ∧ ct f L' = ct f L
  | [], n, h => ⟨[], h, (fun t ht => by cases ht), rfl⟩
  | s :: L, n, h => by
    obtain ⟨a, b, hL⟩ := h.tail
    obtain ⟨L1, x1, y1, z1⟩ := piece hc ha s s (Nat.le_refl _) a
    obtain ⟨L2, x2, y2, z2⟩ := small hc ha L _ hL
    refine ⟨L1 ++ L2, ⟨by rw [List.sum_append, x1.sum, x2.sum]; omega, fun t ht => ?_⟩, fun t ht => ?_, by rw [ct_append, z1, z2, ct_cons]⟩
    · rcases List.mem_append.mp ht with h | h
      · exact x1.pos t h
      · exact x2.pos t h
    · rcases List.mem_append.mp ht with h | h
      · exact y1 t h
      · exact y2 t h
/-- some receipts in a row hold a multiple of β items -/
theorem pigeon {β : Nat} (hβ : 1 ≤ β) {L : List Nat} (hl : β ≤ L.length) : ∃ i j, i < j ∧ j ≤ L.length ∧ (L.take i).sum % β = (L.take j).sum % β := by
  refine Classical.byContradiction fun hno => ?_
  have nd : ((List.range (β + 1)).map fun i => (L.take i).sum % β).Nodup := by
    unfold List.Nodup
    rw [List.pairwise_map, List.pairwise_iff_getElem]
    intro i j hi hj hij
    rw [List.getElem_range, List.getElem_range]
    rw [List.length_range] at hj
    intro e
    exact hno ⟨i, j, hij, by omega, e⟩
  have := nodup_le (m := List.range β) nd fun a ha => by
    obtain ⟨i, _, rfl⟩ := List.mem_map.mp ha
    exact List.mem_range.mpr (Nat.mod_lt _ (by omega))
  rw [List.length_map, List.length_range, List.length_range] at this
  omega
theorem rate {f : Nat → Int} {β : Nat} (hr : ∀ s, 1 ≤ s → f β * s ≤ f s * β) : ∀ L : List Nat, (∀ s ∈ L, 1 ≤ s) → f β * (L.sum : Nat) ≤ ct f L * β
  | [], _ => by simp [ct]
  | s :: L, h => by
    have ih := rate hr L fun t ht => h t (List.mem_cons_of_mem _ ht)
    have := hr s (h s (List.mem_cons_self ..))
    rw [List.sum_cons, ct_cons, Int.natCast_add, Int.mul_add, Int.add_mul]
    omega
/-- far off: a receipt of the best size more -/
theorem EqM.far {f : Nat → Int} {n c β : Nat} {v : Int} (hc : 1 ≤ c) (hβ : 1 ≤ β) (ha : ∀ s, c < s → f s = f c + f (s - c)) (hr : ∀ s, 1 ≤ s → f β * s ≤ f s * β) (hn : β * c ≤ n) (hn2 : β ≤ n) (h : EqM f (n - β) v) : EqM f n (v + f β) := by
  refine ⟨?_, fun L hL => ?_⟩
  · obtain ⟨L, a, b⟩ := h.ex
    have := a.cons hβ
    rw [Nat.add_sub_cancel' hn2] at this
    exact ⟨_, this, by rw [ct_cons, b]; omega⟩
  · obtain ⟨M, x, y, z⟩ := small hc ha L n hL
    rw [← z]
    have hlen : β ≤ M.length := by
      have h1 := sum_le_mul y
      rw [x.sum, Nat.mul_comm] at h1
      exact Nat.le_of_mul_le_mul_right (Nat.le_trans hn h1) (by omega)
    obtain ⟨i, j, hij, hj, e⟩ := pigeon hβ hlen
    -- the piece between
    have e1 : M = M.take i ++ ((M.take j).drop i ++ M.drop j) := by
      rw [← List.append_assoc]
      have : M.take i = (M.take j).take i := by rw [List.take_take, Nat.min_eq_left (by omega)]
      rw [this, List.take_append_drop, List.take_append_drop]
    have e2 : M.take j = M.take i ++ (M.take j).drop i := by
      have : M.take i = (M.take j).take i := by rw [List.take_take, Nat.min_eq_left (by omega)]
      rw [this, List.take_append_drop]
    generalize hA : M.take i = A at e1 e2 e
    generalize hD : M.drop j = D at e1
    generalize hB : (M.take j).drop i = B at e1 e2
    have hBl : 0 < B.length := by rw [← hB, List.length_drop, List.length_take]; omega
    have hBp : ∀ s ∈ B, 1 ≤ s := fun s hs => x.pos s (by rw [e1]; simp [hs])
    rw [e2, List.sum_append] at e
    obtain ⟨k, hk⟩ : ∃ k, B.sum = β * k := by
      have h3 : (A.sum + B.sum) % β = A.sum % β := e.symm
      have h4 := Nat.mod_add_div A.sum β
      have h5 := Nat.mod_add_div (A.sum + B.sum) β
      refine ⟨(A.sum + B.sum) / β - A.sum / β, ?_⟩
      have h6 : A.sum / β ≤ (A.sum + B.sum) / β := Nat.div_le_div_right (by omega)
      rw [Nat.mul_sub]
      omega
    have hk1 : 1 ≤ k := by
      cases k with
      | zero =>
        cases hq : B with
        | nil => rw [hq] at hBl; simp at hBl
        | cons s r =>
          have := hBp s (by rw [hq]; exact List.mem_cons_self ..)
          rw [hq, List.sum_cons] at hk
          omega
      | succ k => omega
    have hrt := rate hr B hBp
    rw [hk] at hrt
    have hrt2 : f β * k ≤ ct f B := by
      have e3 : f β * ((β * k : Nat) : Int) = (f β * k) * β := by rw [Int.natCast_mul, ← Int.mul_assoc, Int.mul_assoc, Int.mul_comm (β : Int) k, ← Int.mul_assoc]
      rw [e3] at hrt
      exact Int.le_of_mul_le_mul_right hrt (by omega)
    have hcomp : CompL (n - β) (A ++ (List.replicate (k - 1) β ++ D)) := by
      refine ⟨?_, fun s hs => ?_⟩
      · have := x.sum
        rw [e1, List.sum_append, List.sum_append, hk] at this
        rw [List.sum_append, List.sum_append, List.sum_replicate_nat]
        have : β * k = (k - 1) * β + β := by
          obtain ⟨k', rfl⟩ : ∃ k', k = k' + 1 := ⟨k - 1, by omega⟩
          rw [Nat.add_sub_cancel, Nat.mul_succ, Nat.mul_comm]
        omega
      · rcases List.mem_append.mp hs with h | h
        · exact x.pos s (by rw [e1]; simp [h])
        · rcases List.mem_append.mp h with h | h
          · rw [(List.mem_replicate.mp h).2]; exact hβ
          · exact x.pos s (by rw [e1]; simp [h])
    have fin := h.le _ hcomp
    rw [ct_append, ct_append, ct_rep] at fin
    rw [e1, ct_append, ct_append]
    have e4 : (k : Int) = ((k - 1 : Nat) : Int) + 1 := by omega
    rw [e4, Int.mul_add, Int.mul_comm] at hrt2
    omega
theorem EqM.rated {f : Nat → Int} {n β : Nat} {v : Int} (h : EqM f n v) (hr : ∀ s, 1 ≤ s → f β * s ≤ f s * β) : f β * n ≤ v * β := by
  obtain ⟨L, a, rfl⟩ := h.ex
  have := rate hr L a.pos
  rwa [a.sum] at this
theorem EqM.turns {f : Nat → Int} {c β : Nat} (hc : 1 ≤ c) (hβ : 1 ≤ β) (ha : ∀ s, c < s → f s = f c + f (s - c)) (hr : ∀ s, 1 ≤ s → f β * s ≤ f s * β) {r : Nat} {v : Int} (h : EqM f r v) (hl : β * c < r + β) : ∀ t : Nat, EqM f (r + t * β) (v + t * f β)
  | 0 => by simpa using h
  | t + 1 => by
    have ih := EqM.turns hc hβ ha hr h hl t
    have e1 : r + (t + 1) * β = (r + t * β) + β := by rw [Nat.succ_mul]; omega
    have e2 : v + ((t + 1 : Nat) : Int) * f β = (v + t * f β) + f β := by rw [Int.natCast_add, Int.add_mul]; omega
    rw [e1, e2]
    refine EqM.far hc hβ ha hr ?_ (by omega) (by rw [Nat.add_sub_cancel]; exact ih)
    have : 0 ≤ t * β := Nat.zero_le _
    omega
/-- a better rate -/
theorem rate_lt {x y z : Int} {s t u : Nat} (hs : 1 ≤ s) (ht : 1 ≤ t) (hu : 1 ≤ u) (h1 : x * t < y * s) (h2 : y * u ≤ z * t) : x * u < z * s := by
  have a : x * t * u < y * s * u := Int.mul_lt_mul_of_pos_right h1 (by omega)
  have b : y * u * s ≤ z * t * s := Int.mul_le_mul_of_nonneg_right h2 (by omega)
  have e1 : x * t * u = x * u * t := by rw [Int.mul_assoc, Int.mul_comm (t : Int), ← Int.mul_assoc]
  have e2 : y * s * u = y * u * s := by rw [Int.mul_assoc, Int.mul_comm (s : Int), ← Int.mul_assoc]
  have e3 : z * t * s = z * s * t := by rw [Int.mul_assoc, Int.mul_comm (t : Int), ← Int.mul_assoc]
  rw [e1, e2] at a
  rw [e3] at b
  exact Int.lt_of_mul_lt_mul_right (Int.lt_of_lt_of_le a b) (by omega)
theorem rate_le {x y z : Int} {s t u : Nat} (hs : 1 ≤ s) (ht : 1 ≤ t) (hu : 1 ≤ u) (h1 : x * t ≤ y * s) (h2 : y * u ≤ z * t) : x * u ≤ z * s := by
  have a : x * t * u ≤ y * s * u := Int.mul_le_mul_of_nonneg_right h1 (by omega)
  have b : y * u * s ≤ z * t * s := Int.mul_le_mul_of_nonneg_right h2 (by omega)
  have e1 : x * t * u = x * u * t := by rw [Int.mul_assoc, Int.mul_comm (t : Int), ← Int.mul_assoc]
  have e2 : y * s * u = y * u * s := by rw [Int.mul_assoc, Int.mul_comm (s : Int), ← Int.mul_assoc]
  have e3 : z * t * s = z * s * t := by rw [Int.mul_assoc, Int.mul_comm (t : Int), ← Int.mul_assoc]
  rw [e1, e2] at a
  rw [e3] at b
  exact Int.le_of_mul_le_mul_right (Int.le_trans a b) (by omega)
/-- the smallest of the sizes up to m with the least rate -/
structure Best (f : Nat → Int) (m β : Nat) : Prop where
  p1 : 1 ≤ β
  p2 : β ≤ m
  lt : ∀ s, 1 ≤ s → s < β → f β * s < f s * β
  le : ∀ s, 1 ≤ s → s ≤ m → f β * s ≤ f s * β
theorem Best.one (f : Nat → Int) : Best f 1 1 := ⟨by omega, by omega, fun s h1 h2 => by omega, fun s h1 h2 => by
  have : s = 1 := by omega
  subst this
  exact Int.le_refl _⟩
theorem Best.up {f : Nat → Int} {m β : Nat} (h : Best f m β) : (f (m + 1) * β < f β * (m + 1 : Nat) → Best f (m + 1) (m + 1)) ∧ (¬ f (m + 1) * β < f β * (m + 1 : Nat) → Best f (m + 1) β) := by
  have p1 := h.p1
  have p2 := h.p2
  refine ⟨fun hlt => ⟨by omega, by omega, fun s h1 h2 => rate_lt (by omega) p1 h1 hlt (h.le s h1 (by omega)), fun s h1 h2 => ?_⟩, fun hge => ⟨p1, by omega, h.lt, fun s h1 h2 => ?_⟩⟩
  · by_cases e : s = m + 1
    · rw [e]; exact Int.le_refl _
    · exact Int.le_of_lt (rate_lt (by omega) p1 h1 hlt (h.le s h1 (by omega)))
  · by_cases e : s = m + 1
    · rw [e]; omega
    · exact h.le s h1 (by omega)
theorem Best.uniq {f : Nat → Int} {m β γ : Nat} (h : Best f m β) (h' : Best f m γ) : β = γ := by
  rcases Nat.lt_trichotomy β γ with hl | he | hl
  · have := h'.lt β h.p1 hl
    have := h.le γ h'.p1 h'.p2
    omega
  · exact he
  · have := h.lt γ h'.p1 hl
    have := h'.le β h.p1 h.p2
    omega
theorem Best.all {f : Nat → Int} {c β : Nat} (h : Best f c β) (hc : 1 ≤ c) (ha : ∀ s, c < s → f s = f c + f (s - c)) : ∀ (k s : Nat), s ≤ k → 1 ≤ s → f β * s ≤ f s * β
  | 0, s, h0, h1 => by omega
  | k + 1, s, h0, h1 => by
    by_cases hs : s ≤ c
    · exact h.le s h1 hs
    · have a := Best.all h hc ha k (s - c) (by omega) (by omega)
      have b := h.le c hc (Nat.le_refl _)
      rw [ha s (by omega), Int.add_mul]
      have e : f β * (s : Int) = f β * c + f β * ((s - c : Nat) : Int) := by rw [← Int.mul_add]; congr 1; omega
      rw [e]
      omega
theorem Best.more {f : Nat → Int} {c β m : Nat} (h : Best f c β) (hc : 1 ≤ c) (ha : ∀ s, c < s → f s = f c + f (s - c)) (hm : c ≤ m) : Best f m β :=
  ⟨h.p1, by have := h.p2; omega, h.lt, fun s h1 _ => Best.all h hc ha s s (Nat.le_refl _) h1⟩
/-- the charge of s items of the amount a -/
def fe (c b a : Int) (s : Nat) : Int := rnd c b (s * a)
theorem rnd_zero {c b : Int} (h : Ru c b) : rnd c b 0 = 0 := by
  rw [rnd_eq h]
  have := h.1; have := h.2.2.1
  unfold rndL
  simp
  omega
theorem fe_add {c b a : Int} (h : Ru c b) (s : Nat) (hs : c.toNat < s) : fe c b a s = fe c b a c.toNat + fe c b a (s - c.toNat) := by
  have h1 := h.1
  unfold fe
  have e : (s : Int) * a = ((s - c.toNat : Nat) : Int) * a + c * a := by
    rw [← Int.add_mul]
    congr 1
    omega
  have e2 : (c.toNat : Int) * a = 0 + c * a := by rw [Int.toNat_of_nonneg (by omega)]; omega
  rw [e, rnd_add h, e2, rnd_add h, rnd_zero h]
  omega
theorem fe_bd {c b a : Int} (h : Ru c b) (ha : Amt a) (s : Nat) (hs : s ≤ 1000) : 0 ≤ fe c b a s ∧ fe c b a s < 1000000000000000 + 10 := by
  unfold fe
  rw [rnd_eq h]
  have h0 : 0 ≤ (s : Int) * a := Int.mul_nonneg (by omega) ha.1
  have h1 : (s : Int) * a ≤ 1000 * 1000000000000 := Int.mul_le_mul (by omega) ha.2 ha.1 (by decide)
  have hn := rndL_near (w := (s : Int) * a) h
  have := h.2.1
  exact ⟨hn.2.2 h0, by omega⟩
def pieces (c b a : Int) : List D := (List.range c.toNat).map fun (i : Nat) => D.tup [.int (1 + (i : Int)), .int (fe c b a (i + 1))]
def sp_pieces_of : SpD := fun ds μ Q _ => ∃ c b a : Int, ds = [.rule c b, .int a] ∧ Ru c b ∧ Amt a ∧ Q (.lst (pieces c b a)) μ
def sgn (sg : Int) (f : Nat → Int) (s : Nat) : Int := sg * f s
def sp_size_of_best : SpD := fun ds μ Q _ => ∃ c b a sg : Int, ds = [.rule c b, .int a, .int sg] ∧ Ru c b ∧ Amt a ∧ (sg = 1 ∨ sg = -1) ∧ ∀ β : Nat, Best (sgn sg (fe c b a)) c.toNat β → Q (.tup [.int β, .int (fe c b a β)]) μ
def gv (l : List Int) (k : Nat) : Int := l.getD k 0
theorem sgn_add {c b a sg : Int} (h : Ru c b) (s : Nat) (hs : c.toNat < s) : sgn sg (fe c b a) s = sgn sg (fe c b a) c.toNat + sgn sg (fe c b a) (s - c.toNat) := by
  unfold sgn
  rw [fe_add h s hs, Int.mul_add]
def sp_total_of_equal : SpD := fun ds μ Q _ => ∃ c b a n sg : Int, ds = [.rule c b, .int a, .int n, .int sg] ∧ Ru c b ∧ Amt a ∧ 0 ≤ n ∧ n ≤ 1000000000000000 ∧ (sg = 1 ∨ sg = -1) ∧ ∀ v, EqM (sgn sg (fe c b a)) n.toNat (sg * v) → Q (.int v) μ
/-- what is left, how often the best size -/
theorem rest_ok {n : Int} {c β : Nat} (hc : 2 ≤ c) (hβ : 1 ≤ β) (hn : 0 ≤ n) : ∃ t r : Nat, max 0 ((n - (β : Int) * c + β - 1) / β) = (t : Int) ∧ n - (t : Int) * β = r ∧ n.toNat = r + t * β ∧ r ≤ β * c ∧ (t = 0 ∨ β * c < r + β) := by
  have hb : (0 : Int) < β := by omega
  have e1 := Int.mul_ediv_add_emod (n - (β : Int) * c + β - 1) β
  have e2 := Int.emod_nonneg (n - (β : Int) * c + β - 1) (b := (β : Int)) (by omega)
  have e3 := Int.emod_lt_of_pos (n - (β : Int) * c + β - 1) hb
  generalize hd : (n - (β : Int) * c + β - 1) / β = d at e1
  generalize (n - (β : Int) * c + β - 1) % β = m at e1 e2 e3
  generalize hbc : (β : Int) * c = bc at e1
  have hbcn : ((β * c : Nat) : Int) = bc := by rw [← hbc, Int.natCast_mul]
  by_cases h0 : d ≤ 0
  · have hd0 : (β : Int) * d ≤ 0 := Int.mul_nonpos_of_nonneg_of_nonpos (by omega) h0
    refine ⟨0, n.toNat, by omega, by omega, by omega, by omega, .inl rfl⟩
  · have hdm : (β : Int) * d = d * β := Int.mul_comm _ _
    have hbc2 : (β : Int) ≤ bc := by
      rw [← hbc]
      have : (β : Int) * 1 ≤ β * c := Int.mul_le_mul_of_nonneg_left (by omega) (by omega)
      omega
    refine ⟨d.toNat, (n - d * β).toNat, by omega, ?_, ?_, ?_, .inr ?_⟩
    · rw [Int.toNat_of_nonneg (by omega)]; omega
    · have : ((d.toNat * β : Nat) : Int) = d * β := by rw [Int.natCast_mul, Int.toNat_of_nonneg (by omega)]
      omega
    · omega
    · omega
theorem mn_of {ns : List Int} {x : D} {μ : Mo} {Q : DK} (e : x = .lst (ns.map .int)) (hp : 0 < ns.length) (h : ∀ m, m ∈ ns → (∀ y ∈ ns, m ≤ y) → Q (.int m) μ) : fMin [x] μ Q := .inr ⟨x, ns, rfl, (by rw [e]; intro z; cases z), by rw [e] <;> rfl, hp, h⟩
theorem mx_of {ns : List Int} {x : D} {μ : Mo} {Q : DK} (e : x = .lst (ns.map .int)) (hp : 0 < ns.length) (h : ∀ m, m ∈ ns → (∀ y ∈ ns, y ≤ m) → Q (.int m) μ) : fMax [x] μ Q := .inr ⟨x, ns, rfl, (by rw [e]; intro z; cases z), by rw [e] <;> rfl, hp, h⟩
def sp_need_count : SpD := fun ds μ Q _ => ∃ n : Int, ds = [.int n] ∧ 0 ≤ n ∧ n ≤ 1000000000000000 ∧ Q .non μ
theorem eq_pos {c b a : Int} {n : Nat} {v : Int} (h : EqM (sgn 1 (fe c b a)) n (1 * v)) : EqM (fe c b a) n v := by
  have e : sgn 1 (fe c b a) = fe c b a := funext fun s => Int.one_mul _
  rw [e, Int.one_mul] at h
  exact h
def sp_least_of_equal : SpD := fun ds μ Q _ => ∃ c b a n : Int, ds = [.rule c b, .int a, .int n] ∧ Ru c b ∧ Amt a ∧ 0 ≤ n ∧ n ≤ 1000000000000000 ∧ ∀ v, EqM (fe c b a) n.toNat v → Q (.int v) μ
/-- the greatest total of n equal items -/
def EqX (f : Nat → Int) (n : Nat) (v : Int) : Prop := EqM (sgn (-1) f) n (-1 * v)
def sp_greatest_of_equal : SpD := fun ds μ Q _ => ∃ c b a n : Int, ds = [.rule c b, .int a, .int n] ∧ Ru c b ∧ Amt a ∧ 0 ≤ n ∧ n ≤ 1000000000000000 ∧ ∀ v, EqX (fe c b a) n.toNat v → Q (.int v) μ
theorem best_pos1 {c b a : Int} {n β : Nat} (h : Best (sgn 1 (fe c b a)) n β) : Best (fe c b a) n β := by
  have e : sgn 1 (fe c b a) = fe c b a := funext fun s => Int.one_mul _
  rw [e] at h
  exact h
def sp_best_size : SpD := fun ds μ Q _ => ∃ c b a : Int, ds = [.rule c b, .int a] ∧ Ru c b ∧ Amt a ∧ ∀ β : Nat, Best (fe c b a) c.toNat β → Q (.int β) μ
theorem EqX.all1 {f : Nat → Int} {n : Nat} {v : Int} (h : EqX f n v) (h0 : f 0 = 0) : f n ≤ v ∧ n * f 1 ≤ v := by
  have a := EqM.whole h (by unfold sgn; rw [h0]; rfl)
  have b := EqM.ones h
  unfold sgn at a b
  have e : (n : Int) * (-1 * f 1) = -(n * f 1) := by rw [Int.neg_one_mul, Int.mul_neg]
  rw [e] at b
  constructor <;> omega
theorem EqX.sub {f : Nat → Int} {n m : Nat} {v w u : Int} (h : EqX f n v) (h' : EqX f m w) (hu : EqX f (n + m) u) : v + w ≤ u := by
  have := EqM.sub h h' hu
  omega
theorem EqX.modc {f : Nat → Int} {n : Nat} {v k : Int} (h : EqX f n v) (hk : ∀ s, f s % k = 0) : v % k = 0 := by
  have := EqM.modc (k := k) h fun s => by
    unfold sgn
    have := Int.dvd_of_emod_eq_zero (hk s)
    exact Int.emod_eq_zero_of_dvd (Int.dvd_mul_of_dvd_right this)
  have d := Int.dvd_of_emod_eq_zero this
  have d2 := Int.dvd_neg.mpr d
  have e : -(-1 * v) = v := by omega
  rw [e] at d2
  exact Int.emod_eq_zero_of_dvd d2
theorem fe_mod {c b a : Int} (h : Ru c b) (s : Nat) : fe c b a s % c = 0 := by unfold fe; rw [rnd_eq h]; exact rndL_mod h
theorem fe_zero {c b a : Int} (h : Ru c b) : fe c b a 0 = 0 := by
  unfold fe
  rw [show ((0 : Nat) : Int) * a = 0 by simp]
  exact rnd_zero h
theorem rnd_mono {c b v w : Int} (h : Ru c b) (hvw : v ≤ w) : rnd c b v ≤ rnd c b w := by
  have := h.1
  unfold rnd
  have h1 : (v + c - b) / c ≤ (w + c - b) / c := Int.ediv_le_ediv (by omega) (by omega)
  exact Int.mul_le_mul_of_nonneg_right h1 (by omega)
theorem fe_nonneg {c b a : Int} (h : Ru c b) (ha : Amt a) (s : Nat) : 0 ≤ fe c b a s := by
  unfold fe
  rw [rnd_eq h]
  exact (rndL_near h).2.2 (Int.mul_nonneg (by omega) ha.1)
theorem fe_mono {c b a : Int} (h : Ru c b) (s : Nat) : fe c b a s ≤ fe c b (a + 1) s := by
  unfold fe
  exact rnd_mono h (Int.mul_le_mul_of_nonneg_left (by omega) (by omega))
theorem mix_of : ∀ (xs : List Int) (k : Nat), Mix xs (xs.take k) (xs.drop k)
  | [], k => by rw [List.take_nil, List.drop_nil]; exact .nil
  | x :: xs, 0 => Mix.none _
  | x :: xs, k + 1 => .l (mix_of xs k)
theorem splt_len : ∀ {items : List Int} {S : List (List Int)}, Splt items S → CompL items.length (S.map List.length)
  | _, _, .nil => .nil
  | items, _, .cons hp hS => by
    have ih := splt_len hS
    cases items with
    | nil => cases hp
    | cons x xs =>
      obtain ⟨l, e, hm⟩ := mem_partsU.mp hp
      have := hm.len
      rw [List.map_cons, e, List.length_cons, List.length_cons]
      have := ih.cons (s := l.length + 1) (by omega)
      have e2 := hm.len
      refine Eq.mp (congrArg (CompL · _) ?_) this
      omega
theorem splt_of : ∀ (L : List Nat) (items : List Int), CompL items.length L → ∃ S, Splt items S ∧ S.map List.length = L
  | [], items, h => by
    have := h.sum
    have : items = [] := List.eq_nil_of_length_eq_zero this.symm
    subst this
    exact ⟨[], .nil, rfl⟩
  | s :: L, items, h => by
    obtain ⟨a, b, hL⟩ := h.tail
    cases items with
    | nil => simp at b; omega
    | cons x xs =>
      rw [List.length_cons] at b hL
      have hm := mix_of xs (s - 1)
      obtain ⟨S, hS, eS⟩ := splt_of L (xs.drop (s - 1)) (by rw [List.length_drop]; have e : xs.length + 1 - s = xs.length - (s - 1) := by omega
                                                            rwa [e] at hL)
      refine ⟨(x :: xs.take (s - 1)) :: S, .cons (p := (x :: xs.take (s - 1), xs.drop (s - 1))) (mem_partsU.mpr ⟨_, rfl, hm⟩) hS, ?_⟩
      rw [List.map_cons, eS, List.length_cons, List.length_take]
      congr 1
      omega
theorem splt_sub : ∀ {items : List Int} {S : List (List Int)}, Splt items S → ∀ r ∈ S, r.Sublist items
  | _, _, .nil, r, hr => by cases hr
  | items, _, .cons hp hS, r, hr => by
    obtain ⟨h1, h2⟩ := part_sub hp
    rcases List.mem_cons.mp hr with e | hr
    · rw [e]; exact h1
    · exact (splt_sub hS r hr).trans h2
theorem tot_len {f : List Int → Int} {g : Nat → Int} : ∀ {S : List (List Int)}, (∀ r ∈ S, f r = g r.length) → tot f S = ct g (S.map List.length)
  | [], _ => rfl
  | r :: S, h => by rw [tot_cons, List.map_cons, ct_cons, h r (List.mem_cons_self ..), tot_len fun x hx => h x (List.mem_cons_of_mem _ hx)]
theorem sumAt_rep {n : Nat} {a : Int} : ∀ {r : List Int}, (∀ i ∈ r, 0 ≤ i ∧ i < n) → sumAt (List.replicate n a) r = r.length * a
  | [], _ => by simp [sumAt]
  | i :: r, h => by
    obtain ⟨h1, h2⟩ := h i (List.mem_cons_self ..)
    rw [sumAt_cons, sumAt_rep fun x hx => h x (List.mem_cons_of_mem _ hx), List.getD_eq_getElem?_getD, List.getElem?_replicate, if_pos (by omega), List.length_cons]
    rw [Int.natCast_add, Int.add_mul]
    simp
    omega
theorem fc_rep {c b a : Int} {n : Nat} {S : List (List Int)} (h : Splt (upN n) S) : tot (fc c b (List.replicate n a)) S = ct (fe c b a) (S.map List.length) :=
  tot_len fun r hr => by
    unfold fc fe
    rw [sumAt_rep fun i hi => upN_mem.mp ((splt_sub h r hr).subset hi)]
theorem bok_equal {c b a : Int} {n : Nat} {z : Qd} (h : BOk (fc c b (List.replicate n a)) (upN n) z) : EqM (fe c b a) n z.1 ∧ EqX (fe c b a) n z.2.1 := by
  have key : ∀ L, CompL n L → ∃ S, Splt (upN n) S ∧ tot (fc c b (List.replicate n a)) S = ct (fe c b a) L := fun L hL => by
    obtain ⟨S, hS, e⟩ := splt_of L (upN n) (by rw [upN_len]; exact hL)
    exact ⟨S, hS, by rw [fc_rep hS, e]⟩
  have key2 : ∀ S, Splt (upN n) S → CompL n (S.map List.length) := fun S hS => by
    have := splt_len hS
    rwa [upN_len] at this
  have hs : ∀ L, ct (sgn (-1) (fe c b a)) L = - ct (fe c b a) L := fun L => by
    induction L with
    | nil => rfl
    | cons s L ih => rw [ct_cons, ct_cons, ih]; unfold sgn; omega
  refine ⟨⟨?_, fun L hL => ?_⟩, ⟨?_, fun L hL => ?_⟩⟩
  · obtain ⟨S, hS, e⟩ := h.loE
    exact ⟨_, key2 S hS, by rw [← e, fc_rep hS]⟩
  · obtain ⟨S, hS, e⟩ := key L hL
    rw [← e]
    exact h.loL S hS
  · obtain ⟨S, hS, e⟩ := h.hiE
    refine ⟨_, key2 S hS, ?_⟩
    rw [hs, ← fc_rep hS, e]
    omega
  · obtain ⟨S, hS, e⟩ := key L hL
    have := h.hiL S hS
    rw [hs, ← e]
    omega

/-- all ways to cut a belt -/
def cmp : Nat → List Int → List (List (List Int))
  | _, [] => [[]]
  | 0, _ :: _ => []
  | f + 1, x :: xs => (List.range (xs.length + 1)).flatMap fun j => (cmp f ((x :: xs).take (xs.length - j))).map (· ++ [(x :: xs).drop (xs.length - j)])
theorem mem_cmp : ∀ {f : Nat} {l : List Int} {S : List (List Int)}, l.length ≤ f → (S ∈ cmp f l ↔ S.flatten = l ∧ [] ∉ S)
  | f, [], S, _ => by
    have e : cmp f [] = [[]] := by cases f <;> rfl
    rw [e, List.mem_singleton]
    constructor
    · rintro rfl; exact ⟨rfl, by simp⟩
    · rintro ⟨h1, h2⟩
      cases S with
      | nil => rfl
      | cons B S =>
        have : B = [] := by
          have := congrArg List.length h1
          simp at this
          exact this.1
        subst this
        exact absurd (List.mem_cons_self ..) h2
  | 0, x :: xs, S, h => by simp at h
  | f + 1, x :: xs, S, h => by
    rw [List.length_cons] at h
    unfold cmp
    rw [List.mem_flatMap]
    constructor
    · rintro ⟨j, hj, hS⟩
      have hj := List.mem_range.mp hj
      obtain ⟨S', h', rfl⟩ := List.mem_map.mp hS
      obtain ⟨h1, h2⟩ := (mem_cmp (by rw [List.length_take, List.length_cons]; omega)).mp h'
      refine ⟨by rw [List.flatten_append, h1]; simp, fun hm => ?_⟩
      rcases List.mem_append.mp hm with hm | hm
      · exact h2 hm
      · have := congrArg List.length (List.mem_singleton.mp hm)
        simp at this
        omega
    · rintro ⟨h1, h2⟩
      rcases List.eq_nil_or_concat S with rfl | ⟨S', B, rfl⟩
      · cases h1
      · rw [List.concat_eq_append] at h1 h2 ⊢
        rw [List.flatten_append] at h1
        simp only [List.flatten_cons, List.flatten_nil, List.append_nil] at h1
        have hB : B ≠ [] := fun e => h2 (by rw [e]; simp)
        have hBl : 0 < B.length := List.length_pos_iff.mpr hB
        have hlen := congrArg List.length h1
        rw [List.length_append, List.length_cons] at hlen
        have e1 : xs.length - (B.length - 1) = S'.flatten.length := by omega
        refine ⟨B.length - 1, List.mem_range.mpr (by omega), List.mem_map.mpr ⟨S', (mem_cmp (by rw [List.length_take, List.length_cons]; omega)).mpr ⟨?_, fun hm => h2 (List.mem_append_left _ hm)⟩, ?_⟩⟩
        · rw [e1, ← h1, List.take_left]
        · rw [e1, ← h1, List.drop_left]
theorem nodup_flatMap' {α β : Type} {f : α → List β} : ∀ {L : List α}, L.Nodup → (∀ a ∈ L, (f a).Nodup) → (∀ a ∈ L, ∀ b ∈ L, ∀ t, t ∈ f a → t ∈ f b → a = b) → (L.flatMap f).Nodup
  | [], _, _, _ => by simp
  | a :: L, nd, h1, h2 => by
    obtain ⟨n1, n2⟩ := List.nodup_cons.mp nd
    rw [List.flatMap_cons, List.nodup_append]
    refine ⟨h1 a (List.mem_cons_self ..), nodup_flatMap' n2 (fun b hb => h1 b (List.mem_cons_of_mem _ hb)) fun b hb d hd => h2 b (List.mem_cons_of_mem _ hb) d (List.mem_cons_of_mem _ hd), fun t ht u hu e => ?_⟩
    subst e
    obtain ⟨b, hb, htb⟩ := List.mem_flatMap.mp hu
    exact n1 (by rw [h2 a (List.mem_cons_self ..) b (List.mem_cons_of_mem _ hb) t ht htb]; exact hb)
theorem nodup_map' {α β : Type} {f : α → β} (hf : ∀ a b, f a = f b → a = b) {L : List α} (h : L.Nodup) : (L.map f).Nodup := by
  unfold List.Nodup at h ⊢
  rw [List.pairwise_map]
  exact h.imp fun {a b} hne e => hne (hf a b e)
theorem cmp_nodup : ∀ (f : Nat) (l : List Int), (cmp f l).Nodup
  | f, [] => by
    have e : cmp f [] = [[]] := by cases f <;> rfl
    rw [e]; simp
  | 0, x :: xs => by unfold cmp; simp
  | f + 1, x :: xs => by
    unfold cmp
    refine nodup_flatMap' List.nodup_range (fun j _ => nodup_map' (fun a b e => List.append_cancel_right e) (cmp_nodup f _)) fun a ha b hb t hta htb => ?_
    have ha := List.mem_range.mp ha
    have hb := List.mem_range.mp hb
    obtain ⟨A, _, rfl⟩ := List.mem_map.mp hta
    obtain ⟨B, _, e⟩ := List.mem_map.mp htb
    have e2 := (List.append_inj' e rfl).2
    have e3 : (x :: xs).drop (xs.length - b) = (x :: xs).drop (xs.length - a) := by simpa using e2
    have := congrArg List.length e3
    rw [List.length_drop, List.length_drop, List.length_cons] at this
    omega
def cmps (l : List Int) : List (List (List Int)) := cmp l.length l
theorem mem_cmps {l : List Int} {S : List (List Int)} : S ∈ cmps l ↔ S.flatten = l ∧ [] ∉ S := mem_cmp (Nat.le_refl _)
theorem cmps_nodup (l : List Int) : (cmps l).Nodup := cmp_nodup _ _
/-- the best ways -/
def bestC (g : List Int → Int) (l : List Int) (m : Int) : List (List (List Int)) := (cmps l).filter fun S => decide (tot g S = m)
theorem bestC_nodup (g : List Int → Int) (l : List Int) (m : Int) : (bestC g l m).Nodup := (cmps_nodup l).filter _
theorem mem_bestC {g : List Int → Int} {l : List Int} {m : Int} {S : List (List Int)} : S ∈ bestC g l m ↔ (S.flatten = l ∧ [] ∉ S) ∧ tot g S = m := by
  unfold bestC
  rw [List.mem_filter, mem_cmps, decide_eq_true_iff]
/-- least total and number of ways of a belt -/
structure BtOk (g : List Int → Int) (l : List Int) (q : Int × Int) : Prop where
  ex : ∃ S, (S.flatten = l ∧ [] ∉ S) ∧ tot g S = q.1
  le : ∀ S, S.flatten = l → [] ∉ S → q.1 ≤ tot g S
  wa : q.2 = ((bestC g l q.1).length : Int)
theorem BtOk.uniq {g : List Int → Int} {l : List Int} {q q' : Int × Int} (h : BtOk g l q) (h' : BtOk g l q') : q = q' := by
  obtain ⟨S, ⟨a, b⟩, e⟩ := h.ex
  obtain ⟨S', ⟨a', b'⟩, e'⟩ := h'.ex
  have := h.le S' a' b'
  have := h'.le S a b
  have e1 : q.1 = q'.1 := by omega
  exact Prod.ext e1 (by rw [h.wa, h'.wa, e1])
theorem BtOk.nil (g : List Int → Int) : BtOk g [] (0, 1) := by
  refine ⟨⟨[], ⟨rfl, by simp⟩, rfl⟩, fun S h1 h2 => ?_, ?_⟩
  · have : S = [] := by
      have := (mem_cmps (l := [])).mpr ⟨h1, h2⟩
      exact List.mem_singleton.mp this
    subst this
    exact Int.le_refl _
  · simp [bestC, cmps, cmp, tot]
theorem tot_append (f : List Int → Int) (S T : List (List Int)) : tot f (S ++ T) = tot f S + tot f T := by unfold tot; simp
theorem tot_one (f : List Int → Int) (B : List Int) : tot f [B] = f B := by unfold tot; simp
/-- one item more at the end: the last receipt has j + 1 items -/
theorem BtOk.step {g : List Int → Int} {l : List Int} {x : Int} {q : Nat → Int × Int} {lo w : Int} (hq : ∀ s, s ≤ l.length → BtOk g ((l ++ [x]).take s) (q s))
    (h1 : ∃ s, s ≤ l.length ∧ lo = (q s).1 + g ((l ++ [x]).drop s)) (h2 : ∀ s, s ≤ l.length → lo ≤ (q s).1 + g ((l ++ [x]).drop s))
    (h3 : w = (((List.range (l.length + 1)).filter fun j => decide ((q (l.length - j)).1 + g ((l ++ [x]).drop (l.length - j)) = lo)).map fun j => (q (l.length - j)).2).sum) : BtOk g (l ++ [x]) (lo, w) := by
  generalize hL : l ++ [x] = L at hq h1 h2 h3
  have hlen : L.length = l.length + 1 := by rw [← hL]; simp
  have hc : bestC g L lo = (cmp (l.length + 1) L).filter fun S => decide (tot g S = lo) := by unfold bestC cmps; rw [hlen]
  obtain ⟨y, ys, rfl⟩ : ∃ y ys, L = y :: ys := by
    cases L with
    | nil => simp at hlen
    | cons y ys => exact ⟨y, ys, rfl⟩
  have hys : ys.length = l.length := by simpa using hlen
  refine ⟨?_, fun S a b => ?_, ?_⟩
  · obtain ⟨s, hs, rfl⟩ := h1
    obtain ⟨S, ⟨a, b⟩, e⟩ := (hq s hs).ex
    refine ⟨S ++ [(y :: ys).drop s], ⟨by rw [List.flatten_append, a]; simp, fun hm => ?_⟩, by rw [tot_append, tot_one, e]⟩
    rcases List.mem_append.mp hm with hm | hm
    · exact b hm
    · have := congrArg List.length (List.mem_singleton.mp hm)
      simp at this
      omega
  · rcases List.eq_nil_or_concat S with rfl | ⟨S', B, rfl⟩
    · cases a
    · rw [List.concat_eq_append] at a b ⊢
      rw [List.flatten_append] at a
      simp only [List.flatten_cons, List.flatten_nil, List.append_nil] at a
      have hB : B ≠ [] := fun e => b (by rw [e]; simp)
      have hBl : 0 < B.length := List.length_pos_iff.mpr hB
      have hl2 := congrArg List.length a
      rw [List.length_append, hlen] at hl2
      have x1 := h2 S'.flatten.length (by omega)
      have e1 : (y :: ys).take S'.flatten.length = S'.flatten := by rw [← a, List.take_left]
      have e2 : (y :: ys).drop S'.flatten.length = B := by rw [← a, List.drop_left]
      have x2 := (hq S'.flatten.length (by omega)).le S' e1.symm fun hm => b (List.mem_append_left _ hm)
      rw [e2] at x1
      rw [tot_append, tot_one]
      exact Int.le_trans x1 (by omega)
  · show w = _
    rw [hc, h3]
    unfold cmp
    rw [hys]
    have key : ∀ R : List Nat, (∀ j ∈ R, j ≤ l.length) → ((R.filter fun j => decide ((q (l.length - j)).1 + g ((y :: ys).drop (l.length - j)) = lo)).map fun j => (q (l.length - j)).2).sum =
        (((R.flatMap fun j => (cmp l.length ((y :: ys).take (l.length - j))).map (· ++ [(y :: ys).drop (l.length - j)])).filter fun S => decide (tot g S = lo)).length : Int) := fun R => by
      induction R with
      | nil => intro _; rfl
      | cons j R ih =>
        intro hR
        have ih := ih fun i hi => hR i (List.mem_cons_of_mem _ hi)
        have hj := hR j (List.mem_cons_self ..)
        have hQ := hq (l.length - j) (by omega)
        rw [List.flatMap_cons, List.filter_append, List.length_append, Int.natCast_add, ← ih, List.filter_cons]
        have e0 : (((cmp l.length ((y :: ys).take (l.length - j))).map (· ++ [(y :: ys).drop (l.length - j)])).filter fun S => decide (tot g S = lo)).length = ((cmp l.length ((y :: ys).take (l.length - j))).filter fun S => decide (tot g S + g ((y :: ys).drop (l.length - j)) = lo)).length := by
          rw [List.filter_map, List.length_map]
          refine congrArg List.length (List.filter_congr fun S _ => ?_)
          simp only [Function.comp, tot_append, tot_one]
        rw [e0]
        have hfu : ∀ S, S ∈ cmp l.length ((y :: ys).take (l.length - j)) ↔ S.flatten = (y :: ys).take (l.length - j) ∧ [] ∉ S := fun S => mem_cmp (by rw [List.length_take]; omega)
        by_cases he : (q (l.length - j)).1 + g ((y :: ys).drop (l.length - j)) = lo
        · rw [if_pos (decide_eq_true he), List.map_cons, List.sum_cons, hQ.wa]
          congr 2
          apply Nat.le_antisymm
          · refine nodup_le (bestC_nodup _ _ _) fun S hS => ?_
            obtain ⟨hm, ht⟩ := mem_bestC.mp hS
            exact List.mem_filter.mpr ⟨(hfu S).mpr hm, decide_eq_true (by rw [ht]; exact he)⟩
          · refine nodup_le ((cmp_nodup _ _).filter _) fun S hS => ?_
            obtain ⟨hm, ht⟩ := List.mem_filter.mp hS
            have ht := of_decide_eq_true ht
            exact mem_bestC.mpr ⟨(hfu S).mp hm, by omega⟩
        · rw [if_neg (by simpa using he)]
          have hz : ((cmp l.length ((y :: ys).take (l.length - j))).filter fun S => decide (tot g S + g ((y :: ys).drop (l.length - j)) = lo)) = [] := by
            rw [List.filter_eq_nil_iff]
            intro S hS
            obtain ⟨a, b⟩ := (hfu S).mp hS
            have := hQ.le S a b
            have := h2 (l.length - j) (by omega)
            simp only [decide_eq_true_iff]
            omega
          rw [hz]
          simp
    exact key _ fun j hj => by have := List.mem_range.mp hj; omega
/-! ### a belt from behind -/
theorem flat_rev : ∀ S : List (List Int), ((S.map List.reverse).reverse).flatten = S.flatten.reverse
  | [] => rfl
  | B :: S => by rw [List.map_cons, List.reverse_cons, List.flatten_append, flat_rev S]; simp
def revS (S : List (List Int)) : List (List Int) := (S.map List.reverse).reverse
theorem revS_revS (S : List (List Int)) : revS (revS S) = S := by
  unfold revS
  rw [List.map_reverse, List.reverse_reverse, List.map_map]
  have : (List.reverse ∘ List.reverse : List Int → List Int) = id := funext fun x => List.reverse_reverse x
  rw [this, List.map_id]
theorem revS_ok {l : List Int} {S : List (List Int)} (h : S.flatten = l ∧ [] ∉ S) : (revS S).flatten = l.reverse ∧ [] ∉ revS S := by
  refine ⟨by unfold revS; rw [flat_rev, h.1], fun hm => h.2 ?_⟩
  unfold revS at hm
  obtain ⟨B, hB, e⟩ := List.mem_map.mp (List.mem_reverse.mp hm)
  have : B = [] := by simpa using e
  rw [← this]; exact hB
theorem tot_rev {g : List Int → Int} (hg : ∀ B, g B.reverse = g B) (S : List (List Int)) : tot g (revS S) = tot g S := by
  unfold tot revS
  rw [List.map_reverse, List.map_map]
  have e : (g ∘ List.reverse) = g := funext hg
  rw [e]
  generalize S.map g = M
  induction M with
  | nil => rfl
  | cons a M ih => rw [List.reverse_cons, List.sum_append, ih]; simp; omega
theorem bestC_le {g : List Int → Int} {l l' : List Int} {m m' : Int} (F : List (List Int) → List (List Int)) (hi : ∀ S T, S ∈ bestC g l m → T ∈ bestC g l m → F S = F T → S = T) (h : ∀ S, S ∈ bestC g l m → F S ∈ bestC g l' m') : (bestC g l m).length ≤ (bestC g l' m').length := by
  have nd : ((bestC g l m).map F).Nodup := by
    have h0 := bestC_nodup g l m
    generalize bestC g l m = L at h0 hi
    clear h
    induction L with
    | nil => simp
    | cons a L ih =>
      obtain ⟨n1, n2⟩ := List.nodup_cons.mp h0
      rw [List.map_cons, List.nodup_cons]
      refine ⟨fun hm => ?_, ih n2 fun S T hS hT => hi S T (List.mem_cons_of_mem _ hS) (List.mem_cons_of_mem _ hT)⟩
      obtain ⟨T, hT, e⟩ := List.mem_map.mp hm
      have := hi T a (List.mem_cons_of_mem _ hT) (List.mem_cons_self ..) e
      exact n1 (by rw [← this]; exact hT)
  have := nodup_le (m := bestC g l' m') nd fun T hT => by
    obtain ⟨S, hS, rfl⟩ := List.mem_map.mp hT
    exact h S hS
  rwa [List.length_map] at this
theorem BtOk.rev {g : List Int → Int} (hg : ∀ B, g B.reverse = g B) {l : List Int} {q : Int × Int} (h : BtOk g l q) : BtOk g l.reverse q := by
  refine ⟨?_, fun S a b => ?_, ?_⟩
  · obtain ⟨S, a, e⟩ := h.ex
    exact ⟨revS S, revS_ok a, by rw [tot_rev hg, e]⟩
  · obtain ⟨x, y⟩ := revS_ok ⟨a, b⟩
    rw [List.reverse_reverse] at x
    have := h.le _ x y
    rwa [tot_rev hg] at this
  · rw [h.wa]
    congr 1
    have inj : ∀ S T, revS S = revS T → S = T := fun S T e => by rw [← revS_revS S, e, revS_revS]
    apply Nat.le_antisymm
    · refine bestC_le revS (fun S T _ _ e => inj S T e) fun S hS => ?_
      obtain ⟨a, b⟩ := mem_bestC.mp hS
      exact mem_bestC.mpr ⟨revS_ok a, by rw [tot_rev hg, b]⟩
    · refine bestC_le revS (fun S T _ _ e => inj S T e) fun S hS => ?_
      obtain ⟨a, b⟩ := mem_bestC.mp hS
      have := revS_ok a
      rw [List.reverse_reverse] at this
      exact mem_bestC.mpr ⟨this, by rw [tot_rev hg, b]⟩
/-! ### belts joined -/
theorem ok_append {l m : List Int} {S T : List (List Int)} (h : S.flatten = l ∧ [] ∉ S) (h' : T.flatten = m ∧ [] ∉ T) : (S ++ T).flatten = l ++ m ∧ [] ∉ S ++ T :=
  ⟨by rw [List.flatten_append, h.1, h'.1], fun hm => (List.mem_append.mp hm).elim h.2 h'.2⟩
theorem BtOk.join_le {g : List Int → Int} {l m : List Int} {q q' r : Int × Int} (h : BtOk g l q) (h' : BtOk g m q') (hr : BtOk g (l ++ m) r) : r.1 ≤ q.1 + q'.1 := by
  obtain ⟨S, a, e⟩ := h.ex
  obtain ⟨T, b, d⟩ := h'.ex
  obtain ⟨x, y⟩ := ok_append a b
  have := hr.le _ x y
  rw [tot_append] at this
  omega
/-- a cut at one place -/
theorem cut_at {g : List Int → Int} {k : Int} (hk : 0 ≤ k) (hg : ∀ u v, u ≠ [] → v ≠ [] → g u + g v ≤ g (u ++ v) + k) : ∀ (S : List (List Int)) (l m : List Int), S.flatten = l ++ m → [] ∉ S → ∃ A B, (A.flatten = l ∧ [] ∉ A) ∧ (B.flatten = m ∧ [] ∉ B) ∧ tot g A + tot g B ≤ tot g S + k
  | [], l, m, h, _ => by
    have h1 : l ++ m = [] := h.symm
    obtain ⟨rfl, rfl⟩ := List.append_eq_nil_iff.mp h1
    exact ⟨[], [], ⟨rfl, by simp⟩, ⟨rfl, by simp⟩, by simp [tot]; exact hk⟩
  | C :: S, l, m, h, hn => by
    have hC : C ≠ [] := fun e => hn (by rw [e]; exact List.mem_cons_self ..)
    have hS : [] ∉ S := fun hm => hn (List.mem_cons_of_mem _ hm)
    rw [List.flatten_cons] at h
    rcases List.append_eq_append_iff.mp h with ⟨u, e1, e2⟩ | ⟨u, e1, e2⟩
    · -- l = C ++ u, S.flatten = u ++ m
      obtain ⟨A, B, ⟨a1, a2⟩, b, e⟩ := cut_at hk hg S u m e2 hS
      refine ⟨C :: A, B, ⟨by rw [List.flatten_cons, a1, e1], fun hm => ?_⟩, b, by rw [tot_cons, tot_cons]; omega⟩
      rcases List.mem_cons.mp hm with e | hm
      · exact hC e.symm
      · exact a2 hm
    · -- C = l ++ u, m = u ++ S.flatten
      by_cases hl : l = []
      · subst hl
        have e1 : C = u := e1
        subst e1
        exact ⟨[], C :: S, ⟨rfl, by simp⟩, ⟨by rw [List.flatten_cons]; exact e2.symm, hn⟩, by have e0 : tot g [] = 0 := rfl; omega⟩
      · by_cases hu : u = []
        · subst hu
          rw [List.append_nil] at e1
          refine ⟨[C], S, ⟨by simp [e1], by simpa using fun e : [] = C => hC e.symm⟩, ⟨e2.symm, hS⟩, by rw [tot_cons, tot_cons]; have e0 : tot g [] = 0 := rfl; omega⟩
        · refine ⟨[l], u :: S, ⟨by simp, by simpa using fun e : [] = l => hl e.symm⟩, ⟨by rw [List.flatten_cons]; exact e2.symm, fun hm => ?_⟩, ?_⟩
          · rcases List.mem_cons.mp hm with e | hm
            · exact hu e.symm
            · exact hS hm
          · rw [tot_cons, tot_cons, tot_cons, e1]
            have := hg l u hl hu
            have e0 : tot g [] = 0 := rfl
            omega
theorem BtOk.join_ge {g : List Int → Int} {k : Int} (hk : 0 ≤ k) (hg : ∀ u v, u ≠ [] → v ≠ [] → g u + g v ≤ g (u ++ v) + k) {l m : List Int} {q q' r : Int × Int} (h : BtOk g l q) (h' : BtOk g m q') (hr : BtOk g (l ++ m) r) : q.1 + q'.1 - k ≤ r.1 := by
  obtain ⟨S, ⟨a, b⟩, e⟩ := hr.ex
  obtain ⟨A, B, ⟨a1, a2⟩, ⟨b1, b2⟩, e2⟩ := cut_at hk hg S l m a b
  have := h.le A a1 a2
  have := h'.le B b1 b2
  omega
theorem append_inj_ok : ∀ {S S' T T' : List (List Int)}, S.flatten = S'.flatten → [] ∉ S → [] ∉ S' → S ++ T = S' ++ T' → S = S' ∧ T = T'
  | [], [], T, T', _, _, _, e => ⟨rfl, e⟩
  | [], B :: S', T, T', h, _, h2, _ => by
    have : B = [] := by
      have := congrArg List.length h
      rw [List.flatten_cons, List.length_append] at this
      exact List.eq_nil_of_length_eq_zero (by have e0 : ([] : List (List Int)).flatten.length = 0 := rfl
                                              omega)
    exact absurd (by rw [this]; exact List.mem_cons_self ..) h2
  | B :: S, [], T, T', h, h1, _, _ => by
    have : B = [] := by
      have := congrArg List.length h
      rw [List.flatten_cons, List.length_append] at this
      exact List.eq_nil_of_length_eq_zero (by have e0 : ([] : List (List Int)).flatten.length = 0 := rfl
                                              omega)
    exact absurd (by rw [this]; exact List.mem_cons_self ..) h1
  | B :: S, B' :: S', T, T', h, h1, h2, e => by
    rw [List.cons_append, List.cons_append] at e
    injection e with e1 e2
    subst e1
    rw [List.flatten_cons, List.flatten_cons] at h
    obtain ⟨x, y⟩ := append_inj_ok (List.append_cancel_left h) (fun hm => h1 (List.mem_cons_of_mem _ hm)) (fun hm => h2 (List.mem_cons_of_mem _ hm)) e2
    exact ⟨by rw [x], y⟩
theorem BtOk.join_ways {g : List Int → Int} {l m : List Int} {q q' r : Int × Int} (h : BtOk g l q) (h' : BtOk g m q') (hr : BtOk g (l ++ m) r) (e : r.1 = q.1 + q'.1) : q.2 * q'.2 ≤ r.2 := by
  have nd : ((bestC g l q.1).flatMap fun S => (bestC g m q'.1).map fun T => S ++ T).Nodup := by
    refine nodup_flatMap' (bestC_nodup _ _ _) (fun S _ => nodup_map' (fun a b e => List.append_cancel_left e) (bestC_nodup _ _ _)) fun S hS S' hS' t ht ht' => ?_
    obtain ⟨T, hT, rfl⟩ := List.mem_map.mp ht
    obtain ⟨T', hT', e⟩ := List.mem_map.mp ht'
    obtain ⟨⟨a, b⟩, _⟩ := mem_bestC.mp hS
    obtain ⟨⟨a', b'⟩, _⟩ := mem_bestC.mp hS'
    exact (append_inj_ok (by rw [a, a']) b' b e).1.symm ▸ rfl
  have := nodup_le (m := bestC g (l ++ m) r.1) nd fun t ht => by
    obtain ⟨S, hS, ht⟩ := List.mem_flatMap.mp ht
    obtain ⟨T, hT, rfl⟩ := List.mem_map.mp ht
    obtain ⟨a, b⟩ := mem_bestC.mp hS
    obtain ⟨c, d⟩ := mem_bestC.mp hT
    exact mem_bestC.mpr ⟨ok_append a c, by rw [tot_append, b, d, e]⟩
  rw [h.wa, h'.wa, hr.wa, ← Int.natCast_mul]
  have e2 : ((bestC g l q.1).flatMap fun S => (bestC g m q'.1).map fun T => S ++ T).length = (bestC g l q.1).length * (bestC g m q'.1).length := by
    generalize bestC g l q.1 = L
    clear nd this
    induction L with
    | nil => simp
    | cons a L ih => rw [List.flatMap_cons, List.length_append, List.length_map, ih, List.length_cons, Nat.succ_mul]; omega
  omega
/-! ### one more item, a multiple of the coin -/
/-- into the last one -/
def intoLast : List (List Int) → Int → List (List Int)
  | [], x => [[x]]
  | [B], x => [B ++ [x]]
  | B :: C :: S, x => B :: intoLast (C :: S) x
theorem intoLast_concat (S : List (List Int)) (B : List Int) (x : Int) : intoLast (S ++ [B]) x = S ++ [B ++ [x]] := by
  induction S with
  | nil => rfl
  | cons A S ih =>
    cases S with
    | nil => rfl
    | cons C S => show A :: intoLast (C :: S ++ [B]) x = _; rw [ih]; rfl
theorem BtOk.more {g : List Int → Int} {x k : Int} (hg : ∀ u, u ≠ [] → g (u ++ [x]) = g u + k) (hx : g [x] = k) {l : List Int} {q r : Int × Int} (hl : l ≠ []) (h : BtOk g l q) (hr : BtOk g (l ++ [x]) r) : r.1 = q.1 + k ∧ r.2 = 2 * q.2 := by
  have alone : ∀ S, S.flatten = l → [] ∉ S → (S ++ [[x]]).flatten = l ++ [x] ∧ [] ∉ S ++ [[x]] := fun S a b => ⟨by rw [List.flatten_append, a]; simp, fun hm => (List.mem_append.mp hm).elim b (by simp)⟩
  -- every way of the longer belt
  have back : ∀ S, S.flatten = l ++ [x] → [] ∉ S → ∃ S', (S'.flatten = l ∧ [] ∉ S') ∧ (S = S' ++ [[x]] ∨ S = intoLast S' x) ∧ tot g S = tot g S' + k := fun S a b => by
    rcases List.eq_nil_or_concat S with rfl | ⟨S', B, rfl⟩
    · have := congrArg List.length a
      simp at this
    · rw [List.concat_eq_append] at a b ⊢
      rw [List.flatten_append] at a
      simp only [List.flatten_cons, List.flatten_nil, List.append_nil] at a
      have hB : B ≠ [] := fun e => b (by rw [e]; simp)
      have hS' : [] ∉ S' := fun hm => b (List.mem_append_left _ hm)
      rcases List.eq_nil_or_concat B with e | ⟨u, y, rfl⟩
      · exact absurd e hB
      · rw [List.concat_eq_append] at a ⊢
        rw [← List.append_assoc] at a
        obtain ⟨a1, a2⟩ := List.append_inj' a rfl
        have : y = x := by simpa using a2
        subst this
        by_cases hu : u = []
        · subst hu
          refine ⟨S', ⟨by rw [← a1]; simp, hS'⟩, .inl (by simp), ?_⟩
          rw [tot_append, tot_one]
          simp [hx]
        · refine ⟨S' ++ [u], ⟨by rw [List.flatten_append]; simpa using a1, fun hm => (List.mem_append.mp hm).elim hS' fun e => hu (List.mem_singleton.mp e).symm⟩, .inr (by rw [intoLast_concat]), ?_⟩
          rw [tot_append, tot_one, tot_append, tot_one, hg u hu]
          omega
  have into : ∀ S, S.flatten = l → [] ∉ S → ((intoLast S x).flatten = l ++ [x] ∧ [] ∉ intoLast S x) ∧ tot g (intoLast S x) = tot g S + k := fun S a b => by
    rcases List.eq_nil_or_concat S with rfl | ⟨S', B, rfl⟩
    · exact absurd a.symm hl
    · rw [List.concat_eq_append] at a b ⊢
      have hB : B ≠ [] := fun e => b (by rw [e]; simp)
      rw [intoLast_concat]
      refine ⟨⟨by rw [← a]; simp, fun hm => (List.mem_append.mp hm).elim (fun h => b (List.mem_append_left _ h)) (by simp)⟩, ?_⟩
      rw [tot_append, tot_one, tot_append, tot_one, hg B hB]
      omega
  have e1 : r.1 = q.1 + k := by
    obtain ⟨S, ⟨a, b⟩, e⟩ := hr.ex
    obtain ⟨S', ⟨a', b'⟩, _, e2⟩ := back S a b
    have := h.le S' a' b'
    obtain ⟨T, ⟨c, d⟩, f⟩ := h.ex
    obtain ⟨y, z⟩ := alone T c d
    have h3 := hr.le _ y z
    rw [tot_append, tot_one, hx] at h3
    omega
  refine ⟨e1, ?_⟩
  rw [h.wa, hr.wa]
  have nd : ((bestC g l q.1).map (· ++ [[x]]) ++ (bestC g l q.1).map (intoLast · x)).Nodup := by
    rw [List.nodup_append]
    refine ⟨nodup_map' (fun a b e => List.append_cancel_right e) (bestC_nodup _ _ _), ?_, ?_⟩
    · have h0 := bestC_nodup g l q.1
      have h1 : ∀ S ∈ bestC g l q.1, S ≠ [] := fun S hS e => by
        obtain ⟨⟨a, b⟩, _⟩ := mem_bestC.mp hS
        rw [e] at a
        exact hl a.symm
      generalize bestC g l q.1 = L at h0 h1
      induction L with
      | nil => simp
      | cons S L ih =>
        obtain ⟨n1, n2⟩ := List.nodup_cons.mp h0
        rw [List.map_cons, List.nodup_cons]
        refine ⟨fun hm => ?_, ih n2 fun T hT => h1 T (List.mem_cons_of_mem _ hT)⟩
        obtain ⟨T, hT, e⟩ := List.mem_map.mp hm
        rcases List.eq_nil_or_concat S with e0 | ⟨S', B, e0⟩
        · exact h1 S (List.mem_cons_self ..) e0
        · rcases List.eq_nil_or_concat T with e3 | ⟨T', C, e3⟩
          · exact h1 T (List.mem_cons_of_mem _ hT) e3
          · rw [List.concat_eq_append] at e0 e3
            have e : intoLast T x = intoLast S x := e
            rw [e0, e3, intoLast_concat, intoLast_concat] at e
            obtain ⟨y1, y2⟩ := List.append_inj' e rfl
            have y3 : C ++ [x] = B ++ [x] := by simpa using y2
            have y4 := List.append_cancel_right y3
            exact n1 (by rw [e0, ← y1, ← y4, ← e3]; exact hT)
    · intro s hs t ht e
      subst e
      obtain ⟨S, hS, rfl⟩ := List.mem_map.mp hs
      obtain ⟨T, hT, e⟩ := List.mem_map.mp ht
      obtain ⟨⟨a, b⟩, _⟩ := mem_bestC.mp hT
      rcases List.eq_nil_or_concat T with rfl | ⟨T', C, rfl⟩
      · exact absurd a.symm hl
      · rw [List.concat_eq_append] at b e
        have e : intoLast (T' ++ [C]) x = S ++ [[x]] := e
        rw [intoLast_concat] at e
        obtain ⟨_, y2⟩ := List.append_inj' e rfl
        have y3 : C ++ [x] = [x] := by simpa using y2
        have y4 : C = [] := by simpa using y3
        exact b (by rw [y4]; simp)
  have l1 := nodup_le (m := bestC g (l ++ [x]) r.1) nd fun t ht => by
    rcases List.mem_append.mp ht with ht | ht
    · obtain ⟨S, hS, rfl⟩ := List.mem_map.mp ht
      obtain ⟨⟨a, b⟩, c⟩ := mem_bestC.mp hS
      exact mem_bestC.mpr ⟨alone S a b, by rw [tot_append, tot_one, hx, c, e1]⟩
    · obtain ⟨S, hS, rfl⟩ := List.mem_map.mp ht
      obtain ⟨⟨a, b⟩, c⟩ := mem_bestC.mp hS
      obtain ⟨y, z⟩ := into S a b
      exact mem_bestC.mpr ⟨y, by rw [z, c, e1]⟩
  have l2 := nodup_le (m := (bestC g l q.1).map (· ++ [[x]]) ++ (bestC g l q.1).map (intoLast · x)) (bestC_nodup g (l ++ [x]) r.1) fun t ht => by
    obtain ⟨⟨a, b⟩, c⟩ := mem_bestC.mp ht
    obtain ⟨S', hok, hS, e2⟩ := back t a b
    have hm : S' ∈ bestC g l q.1 := mem_bestC.mpr ⟨hok, by omega⟩
    rcases hS with rfl | rfl
    · exact List.mem_append_left _ (List.mem_map.mpr ⟨S', hm, rfl⟩)
    · exact List.mem_append_right _ (List.mem_map.mpr ⟨S', hm, rfl⟩)
  rw [List.length_append, List.length_map, List.length_map] at l1 l2
  omega
/-- one more item never makes the total smaller -/
theorem BtOk.longer {g : List Int → Int} {x : Int} (hg : ∀ u, g u ≤ g (u ++ [x])) (hx : 0 ≤ g [x]) {l : List Int} {q r : Int × Int} (h : BtOk g l q) (hr : BtOk g (l ++ [x]) r) : q.1 ≤ r.1 := by
  obtain ⟨S, ⟨a, b⟩, e⟩ := hr.ex
  rcases List.eq_nil_or_concat S with rfl | ⟨S', B, rfl⟩
  · have := congrArg List.length a
    simp at this
  · rw [List.concat_eq_append] at a b e
    rw [List.flatten_append] at a
    simp only [List.flatten_cons, List.flatten_nil, List.append_nil] at a
    have hS' : [] ∉ S' := fun hm => b (List.mem_append_left _ hm)
    rw [tot_append, tot_one] at e
    rcases List.eq_nil_or_concat B with e0 | ⟨u, y, rfl⟩
    · exact absurd (by rw [e0]; simp) b
    · rw [List.concat_eq_append] at a e
      rw [← List.append_assoc] at a
      obtain ⟨a1, a2⟩ := List.append_inj' a rfl
      have : y = x := by simpa using a2
      subst this
      by_cases hu : u = []
      · subst hu
        have := h.le S' (by simpa using a1) hS'
        simp only [List.nil_append] at e
        omega
      · have := h.le (S' ++ [u]) (by rw [List.flatten_append]; simpa using a1) fun hm => (List.mem_append.mp hm).elim hS' fun e => hu (List.mem_singleton.mp e).symm
        rw [tot_append, tot_one] at this
        have := hg u
        omega
/-- the charge of a piece of a belt -/
def bg (c b : Int) (B : List Int) : Int := rnd c b B.sum
theorem sum_rev : ∀ B : List Int, B.reverse.sum = B.sum
  | [] => rfl
  | x :: B => by rw [List.reverse_cons, List.sum_append, sum_rev B]; simp; omega
theorem bg_rev (c b : Int) (B : List Int) : bg c b B.reverse = bg c b B := by unfold bg; rw [sum_rev]
/-- the row of each beginning of a belt -/
def RowsOk (c b : Int) (bk : List Int) (R : List (Int × Int)) : Prop := ∀ s, s < R.length → BtOk (bg c b) (bk.take s) (R.getD s (0, 0))
def encR (q : Int × Int) : D := .tup [.int q.1, .int q.2]
def sp_belt_rows : SpD := fun ds μ Q _ => ∃ (c b : Int) (bk : List Int), ds = [.rule c b, .tup (bk.map .int)] ∧ Ru c b ∧ bk.length ≤ 100 ∧ (∀ x ∈ bk, Amt x) ∧ ∀ R : List (Int × Int), R.length = bk.length + 1 → RowsOk c b bk R → Q (.lst (R.map encR)) μ
/-- one option: the last receipt begins t places before the last item -/
def optO (c b : Int) (bk : List Int) (R : List (Int × Int)) (i t : Nat) : Int × Int := ((R.getD (i - t) (0, 0)).1 + bg c b ((bk.take (i + 1)).drop (i - t)), (R.getD (i - t) (0, 0)).2)
theorem atI_R {R : List (Int × Int)} {i : Int} (h0 : 0 ≤ i) (h1 : i < R.length) : atI (R.map encR) i = some (encR (R.getD i.toNat (0, 0))) := by
  rw [atI_eq h0 (by rw [List.length_map]; exact h1), List.getElem?_map, List.getD_eq_getElem?_getD, List.getElem?_eq_getElem (by omega)]
  rfl
theorem atI_Rm1 {R : List (Int × Int)} {n : Nat} (h : R.length = n + 1) : atI (R.map encR) (-1) = some (encR (R.getD n (0, 0))) := by
  have e : ixN (R.map encR).length (-1) = some n := by
    rw [List.length_map, h]
    unfold ixN
    rw [if_neg (by decide), if_pos (by omega)]
    congr 1
    omega
  unfold atI
  rw [e]
  show (R.map encR)[n]? = _
  rw [List.getElem?_map, List.getD_eq_getElem?_getD, List.getElem?_eq_getElem (by omega)]
  rfl
theorem drop_sum {L : List Int} {k : Nat} (h : k < L.length) : (L.drop k).sum = L.getD k 0 + (L.drop (k + 1)).sum := by
  rw [List.drop_eq_getElem_cons h, List.sum_cons, List.getD_eq_getElem?_getD, List.getElem?_eq_getElem h]
  rfl
theorem atI_I {L : List Int} {i : Int} (h0 : 0 ≤ i) (h1 : i < L.length) : atI (L.map D.int) i = some (.int (L.getD i.toNat 0)) := by
  rw [atI_eq h0 (by rw [List.length_map]; exact h1), List.getElem?_map, List.getD_eq_getElem?_getD, List.getElem?_eq_getElem (by omega)]
  rfl
def sp_least_on_belt : SpD := fun ds μ Q _ => ∃ (c b : Int) (bk : List Int), ds = [.rule c b, .tup (bk.map .int)] ∧ Ru c b ∧ bk.length ≤ 100 ∧ (∀ x ∈ bk, Amt x) ∧ ∀ z, BtOk (bg c b) bk z → Q (.int z.1) μ
def sp_count_on_belt : SpD := fun ds μ Q _ => ∃ (c b : Int) (bk : List Int), ds = [.rule c b, .tup (bk.map .int)] ∧ Ru c b ∧ bk.length ≤ 100 ∧ (∀ x ∈ bk, Amt x) ∧ ∀ z, BtOk (bg c b) bk z → Q (.int z.2) μ
def sp_Rule_eq : SpD := fun ds μ Q _ => ∃ c b c' b' : Int, ds = [.rule c b, .rule c' b'] ∧ Q (.bl (decide (c = c') && decide (b = b'))) μ
theorem zipD_map : ∀ xs ys : List Int, zipD (xs.map D.int) (ys.map D.int) = (xs.zip ys).map encR
  | [], ys => by simp [zipD]
  | x :: xs, [] => by simp [zipD]
  | x :: xs, y :: ys => by
    simp only [List.map_cons, zipD, List.zip_cons_cons]
    rw [zipD_map xs ys]
    rfl
theorem zip_asc : ∀ {x : Int} {xs : List Int}, (x :: xs).Pairwise (· < ·) → ∀ p ∈ (x :: xs).zip xs, p.1 < p.2
  | x, [], _, p, hp => by simp at hp
  | x, y :: ys, h, p, hp => by
    rw [List.zip_cons_cons] at hp
    obtain ⟨h1, h2⟩ := List.pairwise_cons.mp h
    rcases List.mem_cons.mp hp with rfl | hp
    · exact h1 y (List.mem_cons_self ..)
    · exact zip_asc h2 p hp
def sp_is_receipt : SpD := fun ds μ Q _ => ∃ (n : Int) (r : List Int), ds = [.int n, tupI r] ∧ r ≠ [] ∧ r.Pairwise (· < ·) ∧ (∀ i ∈ r, 0 ≤ i ∧ i < n) ∧ r.length ≤ 1000 ∧ Q (.bl true) μ
/-- a splitting of n items as the program wants it -/
structure ValidS (n : Nat) (S : List (List Int)) : Prop where
  ne : ∀ r ∈ S, r ≠ []
  asc : ∀ r ∈ S, r.Pairwise (· < ·)
  perm : S.flatten.Perm (upN n)
  srt : S.Pairwise fun p q => PySem.W.dataLe false (fun r : List Int => PyData.tuple (r.map .int)) p q = true
theorem ValidS.lens {n : Nat} {S : List (List Int)} (h : ValidS n S) : S.flatten.length = n ∧ S.length ≤ n ∧ (∀ r ∈ S, r.length ≤ n) ∧ ∀ r ∈ S, ∀ i ∈ r, 0 ≤ i ∧ i < n := by
  have e := h.perm.length_eq
  rw [upN_len] at e
  refine ⟨e, ?_, fun r hr => ?_, fun r hr i hi => ?_⟩
  · have key : ∀ T : List (List Int), (∀ r ∈ T, r ≠ []) → T.length ≤ T.flatten.length := fun T => by
      induction T with
      | nil => intro _; exact Nat.le_refl _
      | cons r T ih =>
        intro hT
        have := ih fun x hx => hT x (List.mem_cons_of_mem _ hx)
        have := List.length_pos_iff.mpr (hT r (List.mem_cons_self ..))
        rw [List.flatten_cons, List.length_append, List.length_cons]
        omega
    have := key S h.ne
    omega
  · have := (List.sublist_flatten_of_mem hr).length_le
    omega
  · exact upN_mem.mp (h.perm.subset (List.mem_flatten.mpr ⟨r, hr, hi⟩))
theorem sort_upN {n : Nat} {L : List Int} (h : L.Perm (upN n)) : L.mergeSort (PySem.W.dataLe false PyData.int) = upN n := by
  have e : PySem.W.dataLe false PyData.int = fun a b : Int => decide (a ≤ b) := PySem.W.dataLe_int (β := Int) fun b => b
  rw [e]
  refine List.Perm.eq_of_pairwise (le := fun a b : Int => a ≤ b) (fun a b _ _ h1 h2 => Int.le_antisymm h1 h2) ?_ ?_ ((List.mergeSort_perm L _).trans h)
  · have := List.pairwise_mergeSort (le := fun a b : Int => decide (a ≤ b)) (fun a b c h1 h2 => decide_eq_true (Int.le_trans (of_decide_eq_true h1) (of_decide_eq_true h2))) (fun a b => by
      rcases Int.le_total a b with h | h <;> simp [h]) L
    exact this.imp fun h => of_decide_eq_true h
  · unfold upN
    rw [List.pairwise_map]
    exact List.pairwise_lt_range.imp fun h => by omega
def sp_splits : SpD := fun ds μ Q _ => ∃ (n : Nat) (S : List (List Int)), ds = [.int n, .tup (S.map tupI)] ∧ ValidS n S ∧ n ≤ 1000 ∧ Q (.bl true) μ
theorem lc_mapM {α : Type} {g : DG} {dte : DE} {vs : List Nat} {δ : Slots} {μ : Mo} {Q : DK} {l : List α} {enc : α → D} (f : α → D) (hz : l.length ≤ 16777215)
    (hs : ∀ a ∈ l, ∀ (μ' : Mo) (Qy : D → Mo → Prop), Less μ μ' → (∀ μ2, Less μ' μ2 → Qy (f a) μ2) → g (enc a) (wipeD δ vs) μ' fun δ2 μ2 => dte δ2 μ2 Qy)
    (hQ : ∀ μ', Less μ μ' → Q (.lst (l.map f)) μ') : LcIn g dYes dte vs Q (l.map enc) δ μ := by
  intro L hL
  have h0 : ∀ {x : Option Mu}, Less μ (updM μ L x) := Less.new hL
  refine ⟨fun i μ' => μ' L = some (.lst ((l.take i).map f)) ∧ Less μ μ', ⟨updM_same, h0⟩, ?_, ?_⟩
  · rintro i x μ' hx ⟨h1, h2⟩
    rw [List.getElem?_map] at hx
    cases q : l[i]? with
    | none => rw [q] at hx; cases hx
    | some a =>
      rw [q] at hx
      cases hx
      have e := take_snoc q
      refine hs a (List.mem_of_getElem? q) μ' _ h2 fun μ2 hl2 => ⟨_, hl2 _ _ h1, ?_, ?_, (h2.trans hl2).put hL⟩
      · rw [List.length_map, List.length_take, sizeLine_eq]
        omega
      · rw [updM_same, e]; simp
  · rintro μ' ⟨h1, h2⟩
    rw [List.length_map, List.take_length] at h1
    exact ⟨_, h1, hQ _ (h2.put hL)⟩
def sp_total_of : SpD := fun ds μ Q _ => ∃ (c b : Int) (bk : List Int) (S : List (List Int)), ds = [.rule c b, .tup (bk.map .int), .tup (S.map tupI)] ∧ Ru c b ∧ bk.length ≤ 1000 ∧ (∀ x ∈ bk, Amt x) ∧ ValidS bk.length S ∧ Q (.int (tot (fc c b bk) S)) μ
def sp_total : SpD := fun ds μ Q _ => ∃ (c b : Int) (bk : List Int) (S : List (List Int)), ds = [.rule c b, .tup (bk.map .int), .tup (S.map tupI)] ∧ Ru c b ∧ bk.length ≤ 10 ∧ (∀ x ∈ bk, Amt x) ∧ ValidS bk.length S ∧ Q (.int (tot (fc c b bk) S)) μ
/-- lo, lo + c, .., at most m of them -/
def stepsI (lo c : Int) (m : Nat) : List Int := (List.range m).map fun i : Nat => lo + (i : Int) * c
def sp_all_totals : SpD := fun ds μ Q _ => ∃ (c b : Int) (bk : List Int), ds = [.rule c b, .tup (bk.map .int)] ∧ SrOk c b bk ∧ ∀ z, BOk (fc c b bk) (upN bk.length) z → Q (.lst ((stepsI z.1 c ((z.2.1 - z.1) / c + 1).toNat).map .int)) μ
theorem comp_len {n : Nat} {L : List Nat} (h : CompL n L) : L.length ≤ n := by
  have key : ∀ M : List Nat, (∀ s ∈ M, 1 ≤ s) → M.length ≤ M.sum := fun M => by
    induction M with
    | nil => intro _; exact Nat.le_refl _
    | cons s M ih =>
      intro hM
      have := ih fun x hx => hM x (List.mem_cons_of_mem _ hx)
      have := hM s (List.mem_cons_self ..)
      rw [List.length_cons, List.sum_cons]
      omega
  have := key L h.pos
  rw [h.sum] at this
  exact this
theorem tot_near {c b : Int} {bk : List Int} (h : Ru c b) : ∀ {items : List Int} {S : List (List Int)}, Splt items S → sumAt bk items - c * S.length ≤ tot (fc c b bk) S ∧ tot (fc c b bk) S ≤ sumAt bk items + c * S.length
  | _, _, .nil => by simp [sumAt, tot]
  | _, _, @Splt.cons items p S hp hS => by
    have ih := tot_near (bk := bk) h hS
    rw [sumAt_part hp, tot_cons, List.length_cons, Int.natCast_add, Int.mul_add]
    have hn := rndL_near (w := sumAt bk p.1) h
    have h1 := h.2.2.1; have h2 := h.2.2.2
    rw [← rnd_eq h] at hn
    unfold fc at ih ⊢
    have e : c * ((1 : Nat) : Int) = c := by simp
    rw [e]
    omega
theorem bok_near {c b : Int} {bk : List Int} {z : Qd} (hok : SrOk c b bk) (h : BOk (fc c b bk) (upN bk.length) z) : bk.sum - 100 ≤ z.1 ∧ z.1 ≤ z.2.1 ∧ z.2.1 ≤ bk.sum + 100 := by
  obtain ⟨S, hS, e⟩ := h.loE
  obtain ⟨T, hT, e'⟩ := h.hiE
  have h1 := tot_near (bk := bk) hok.ru hS
  have h2 := tot_near (bk := bk) hok.ru hT
  have l1 := comp_len (splt_len hS)
  have l2 := comp_len (splt_len hT)
  rw [List.length_map, upN_len] at l1 l2
  have hl := hok.len
  have c1 : c * (S.length : Int) ≤ 10 * 10 := Int.mul_le_mul hok.ru.2.1 (by omega) (by omega) (by decide)
  have c2 : c * (T.length : Int) ≤ 10 * 10 := Int.mul_le_mul hok.ru.2.1 (by omega) (by omega) (by decide)
  rw [sumAt_all] at h1 h2
  have := h.loL T hT
  omega
/-- a splitting of n items in any order -/
structure MixS (n : Nat) (S : List (List Int)) : Prop where
  ne : ∀ r ∈ S, r ≠ []
  asc : ∀ r ∈ S, r.Pairwise (· < ·)
  lt : ∀ r ∈ S, ∀ i ∈ r, 0 ≤ i ∧ i < n
  perm : S.flatten.Perm (upN n)
def sp_law_mixed : SpD := fun ds μ Q _ => ∃ (p : Addr) (n : Nat), ds = [.ref p, .int n] ∧ Bag μ p ∧ n ≤ 100 ∧ ∀ S μ', MixS n S → BagStep p μ μ' → Q (.tup (S.map tupI)) μ'
theorem MixS.zero : MixS 0 [] := ⟨fun r h => (by cases h), fun r h => (by cases h), fun r h => (by cases h), List.Perm.refl _⟩
theorem upN_succ (n : Nat) : upN (n + 1) = upN n ++ [(n : Int)] := by unfold upN; rw [List.range_succ, List.map_append]; rfl
theorem MixS.alone {n : Nat} {S : List (List Int)} (h : MixS n S) : MixS (n + 1) (S ++ [[(n : Int)]]) := by
  refine ⟨fun r hr => ?_, fun r hr => ?_, fun r hr i hi => ?_, ?_⟩
  · rcases List.mem_append.mp hr with hr | hr
    · exact h.ne r hr
    · rw [List.mem_singleton.mp hr]; simp
  · rcases List.mem_append.mp hr with hr | hr
    · exact h.asc r hr
    · rw [List.mem_singleton.mp hr]; simp
  · rcases List.mem_append.mp hr with hr | hr
    · have := h.lt r hr i hi; omega
    · rw [List.mem_singleton.mp hr] at hi
      rw [List.mem_singleton.mp hi]
      omega
  · rw [List.flatten_append, upN_succ]
    have e : ([[(n : Int)]] : List (List Int)).flatten = [(n : Int)] := by simp
    rw [e]
    exact h.perm.append_right _
theorem MixS.into {n : Nat} {A B : List (List Int)} {r : List Int} (h : MixS n (A ++ r :: B)) : MixS (n + 1) (A ++ (r ++ [(n : Int)]) :: B) := by
  have hr : r ∈ A ++ r :: B := List.mem_append_right _ (List.mem_cons_self ..)
  have mem : ∀ x, x ∈ A ++ (r ++ [(n : Int)]) :: B → x = r ++ [(n : Int)] ∨ x ∈ A ++ r :: B := fun x hx => by
    rcases List.mem_append.mp hx with hx | hx
    · exact .inr (List.mem_append_left _ hx)
    · rcases List.mem_cons.mp hx with hx | hx
      · exact .inl hx
      · exact .inr (List.mem_append_right _ (List.mem_cons_of_mem _ hx))
  refine ⟨fun x hx => ?_, fun x hx => ?_, fun x hx i hi => ?_, ?_⟩
  · rcases mem x hx with rfl | hx
    · simp
    · exact h.ne x hx
  · rcases mem x hx with rfl | hx
    · rw [List.pairwise_append]
      refine ⟨h.asc r hr, by simp, fun a ha b hb => ?_⟩
      rw [List.mem_singleton.mp hb]
      exact (h.lt r hr a ha).2
    · exact h.asc x hx
  · rcases mem x hx with rfl | hx
    · rcases List.mem_append.mp hi with hi | hi
      · have := h.lt r hr i hi; omega
      · rw [List.mem_singleton.mp hi]; omega
    · have := h.lt x hx i hi; omega
  · rw [upN_succ]
    refine List.Perm.trans ?_ (h.perm.append_right _)
    rw [List.flatten_append, List.flatten_append, List.flatten_cons, List.flatten_cons, List.append_assoc, List.append_assoc, List.append_assoc]
    exact (List.Perm.append_left _ (List.Perm.append_left _ List.perm_append_comm))
/-! splittings in any order -/
theorem mix_of_perm : ∀ {xs l0 r0 : List Int}, (l0 ++ r0).Perm xs → ∃ l r, Mix xs l r ∧ l.Perm l0 ∧ r.Perm r0
  | [], l0, r0, h => by
    have := h.eq_nil
    obtain ⟨rfl, rfl⟩ := List.append_eq_nil_iff.mp this
    exact ⟨[], [], .nil, .nil, .nil⟩
  | x :: xs, l0, r0, h => by
    have hx : x ∈ l0 ++ r0 := h.symm.subset (List.mem_cons_self ..)
    by_cases hl : x ∈ l0
    · have e := List.perm_cons_erase hl
      have h2 : (l0.erase x ++ r0).Perm xs := by
        have : (x :: (l0.erase x ++ r0)).Perm (x :: xs) := ((e.append_right r0).symm).trans h
        exact this.cons_inv
      obtain ⟨l, r, hm, h3, h4⟩ := mix_of_perm h2
      exact ⟨x :: l, r, .l hm, (h3.cons x).trans e.symm, h4⟩
    · have hr : x ∈ r0 := (List.mem_append.mp hx).resolve_left hl
      have e := List.perm_cons_erase hr
      have h2 : (l0 ++ r0.erase x).Perm xs := by
        have : (x :: (l0 ++ r0.erase x)).Perm (x :: xs) := (List.perm_middle.symm.trans ((e.append_left l0).symm)).trans h
        exact this.cons_inv
      obtain ⟨l, r, hm, h3, h4⟩ := mix_of_perm h2
      exact ⟨l, x :: r, .r hm, h3, (h4.cons x).trans e.symm⟩
theorem tot_perm {f : List Int → Int} {S T : List (List Int)} (h : S.Perm T) : tot f S = tot f T := by
  induction h with
  | nil => rfl
  | cons x _ ih => rw [tot_cons, tot_cons, ih]
  | swap x y l => rw [tot_cons, tot_cons, tot_cons, tot_cons]; omega
  | trans _ _ h1 h2 => exact h1.trans h2
theorem flat_perm {S T : List (List Int)} (h : S.Perm T) : S.flatten.Perm T.flatten := h.flatten
/-- a charge does not ask for the order -/
def Sym (f : List Int → Int) : Prop := ∀ a b : List Int, a.Perm b → f a = f b
/-- any receipts of these items -/
structure Rcp (items : List Int) (S : List (List Int)) : Prop where
  ne : ∀ r ∈ S, r ≠ []
  perm : S.flatten.Perm items
theorem Rcp.swap {items : List Int} {S T : List (List Int)} (h : Rcp items S) (p : S.Perm T) : Rcp items T := ⟨fun r hr => h.ne r (p.mem_iff.mpr hr), p.flatten.symm.trans h.perm⟩
theorem Rcp.canon {f : List Int → Int} (hf : Sym f) : ∀ {n : Nat} {items : List Int} {S : List (List Int)}, items.length ≤ n → Rcp items S → ∃ S', Splt items S' ∧ S'.length = S.length ∧ tot f S' = tot f S
  | n, [], S, _, h => by
    have e := h.perm.eq_nil
    cases S with
    | nil => exact ⟨[], .nil, rfl, rfl⟩
    | cons r S =>
      rw [List.flatten_cons] at e
      exact absurd (List.append_eq_nil_iff.mp e).1 (h.ne r (List.mem_cons_self ..))
  | 0, x :: xs, S, hn, _ => by simp at hn
  | n + 1, x :: xs, S, hn, h => by
    have hx : x ∈ S.flatten := h.perm.symm.subset (List.mem_cons_self ..)
    obtain ⟨R, hR, hxR⟩ := List.mem_flatten.mp hx
    have pS := List.perm_cons_erase hR
    have h2 := h.swap pS
    generalize S.erase R = S0 at pS h2
    have pR := List.perm_cons_erase hxR
    have hp : (R.erase x ++ S0.flatten).Perm xs := by
      have a : (R ++ S0.flatten).Perm (x :: xs) := h2.perm
      have b : (x :: (R.erase x ++ S0.flatten)).Perm (x :: xs) := ((pR.append_right S0.flatten).symm).trans a
      exact b.cons_inv
    obtain ⟨l, r, hm, hl, hr⟩ := mix_of_perm hp
    have hlen := hm.len
    rw [List.length_cons] at hn
    obtain ⟨S', hS', e1, e2⟩ := Rcp.canon hf (n := n) (items := r) (S := S0) (by omega) ⟨fun q hq => h2.ne q (List.mem_cons_of_mem _ hq), hr.symm⟩
    refine ⟨(x :: l) :: S', .cons (p := (x :: l, r)) (mem_partsU.mpr ⟨l, rfl, hm⟩) hS', ?_, ?_⟩
    · rw [List.length_cons, e1, pS.length_eq, List.length_cons]
    · rw [tot_cons, e2, tot_perm pS, tot_cons, hf (x :: l) R ((hl.cons x).trans pR.symm)]
theorem part_perm {items : List Int} {p : List Int × List Int} (h : p ∈ partsU items) : (p.1 ++ p.2).Perm items := by
  cases items with
  | nil => cases h
  | cons x xs =>
    obtain ⟨l, e, hm⟩ := mem_partsU.mp h
    rw [e]
    exact hm.perm.cons x
theorem Splt.rcp : ∀ {items : List Int} {S : List (List Int)}, Splt items S → Rcp items S
  | _, _, .nil => ⟨(fun r h => by cases h), List.Perm.refl _⟩
  | items, _, @Splt.cons _ p S hp hS => by
    have ih := hS.rcp
    refine ⟨fun r hr => ?_, ?_⟩
    · rcases List.mem_cons.mp hr with rfl | hr
      · exact (part_len hp).2
      · exact ih.ne r hr
    · rw [List.flatten_cons]
      exact (ih.perm.append_left _).trans (part_perm hp)
theorem Rcp.len {items : List Int} {S : List (List Int)} (h : Rcp items S) : S.length ≤ items.length := by
  have e := h.perm.length_eq
  have key : ∀ T : List (List Int), (∀ r ∈ T, r ≠ []) → T.length ≤ T.flatten.length := fun T => by
    induction T with
    | nil => intro _; exact Nat.le_refl _
    | cons r T ih =>
      intro hT
      have := ih fun x hx => hT x (List.mem_cons_of_mem _ hx)
      have := List.length_pos_iff.mpr (hT r (List.mem_cons_self ..))
      rw [List.flatten_cons, List.length_append, List.length_cons]
      omega
  have := key S h.ne
  omega
/-- as many receipts as items: each alone -/
theorem Rcp.full {items : List Int} {S : List (List Int)} (h : Rcp items S) (e : S.length = items.length) : ∀ r ∈ S, r.length = 1 := by
  have e2 := h.perm.length_eq
  have key : ∀ T : List (List Int), (∀ r ∈ T, r ≠ []) → T.flatten.length ≤ T.length → ∀ r ∈ T, r.length = 1 := fun T => by
    induction T with
    | nil => intro _ _ r hr; cases hr
    | cons r T ih =>
      intro hT hl
      have h1 := List.length_pos_iff.mpr (hT r (List.mem_cons_self ..))
      rw [List.flatten_cons, List.length_append, List.length_cons] at hl
      have h2 := (⟨fun x hx => hT x (List.mem_cons_of_mem _ hx), .refl _⟩ : Rcp T.flatten T).len
      intro q hq
      rcases List.mem_cons.mp hq with rfl | hq
      · omega
      · exact ih (fun x hx => hT x (List.mem_cons_of_mem _ hx)) (by omega) q hq
  exact key S h.ne (by omega)
/-- fewer receipts than items: one has two -/
theorem Rcp.two {items : List Int} {S : List (List Int)} (h : Rcp items S) (hl : S.length < items.length) : ∃ x y R T, S.Perm ((x :: y :: R) :: T) := by
  have e2 := h.perm.length_eq
  have key : ∀ T : List (List Int), T.length < T.flatten.length → ∃ r ∈ T, 2 ≤ r.length := fun T => by
    induction T with
    | nil => intro h; simp at h
    | cons r T ih =>
      intro h
      rw [List.flatten_cons, List.length_append, List.length_cons] at h
      by_cases h2 : 2 ≤ r.length
      · exact ⟨r, List.mem_cons_self .., h2⟩
      · obtain ⟨q, hq, hl⟩ := ih (by omega)
        exact ⟨q, List.mem_cons_of_mem _ hq, hl⟩
  obtain ⟨r, hr, h2⟩ := key S (by omega)
  obtain ⟨x, y, R, rfl⟩ : ∃ x y R, r = x :: y :: R := by
    match r, h2 with
    | x :: y :: R, _ => exact ⟨x, y, R, rfl⟩
  exact ⟨x, y, R, _, List.perm_cons_erase hr⟩
/-- a receipt taken apart, two joined -/
theorem Rcp.cut {items R1 R2 : List Int} {T : List (List Int)} (h : Rcp items ((R1 ++ R2) :: T)) (h1 : R1 ≠ []) (h2 : R2 ≠ []) : Rcp items (R1 :: R2 :: T) := by
  refine ⟨fun r hr => ?_, ?_⟩
  · rcases List.mem_cons.mp hr with rfl | hr
    · exact h1
    · rcases List.mem_cons.mp hr with rfl | hr
      · exact h2
      · exact h.ne r (List.mem_cons_of_mem _ hr)
  · have := h.perm
    rw [List.flatten_cons] at this
    rw [List.flatten_cons, List.flatten_cons, ← List.append_assoc]
    exact this
theorem Rcp.join {items R1 R2 : List Int} {T : List (List Int)} (h : Rcp items (R1 :: R2 :: T)) : Rcp items ((R1 ++ R2) :: T) := by
  refine ⟨fun r hr => ?_, ?_⟩
  · rcases List.mem_cons.mp hr with rfl | hr
    · exact fun e => h.ne R1 (List.mem_cons_self ..) (List.append_eq_nil_iff.mp e).1
    · exact h.ne r (List.mem_cons_of_mem _ (List.mem_cons_of_mem _ hr))
  · have := h.perm
    rw [List.flatten_cons, List.flatten_cons, ← List.append_assoc] at this
    rw [List.flatten_cons]
    exact this
theorem sumAt_perm {bk : List Int} {a b : List Int} (h : a.Perm b) : sumAt bk a = sumAt bk b := by
  induction h with
  | nil => rfl
  | cons x _ ih => rw [sumAt_cons, sumAt_cons, ih]
  | swap x y l => rw [sumAt_cons, sumAt_cons, sumAt_cons, sumAt_cons]; omega
  | trans _ _ h1 h2 => exact h1.trans h2
theorem fc_sym (c b : Int) (bk : List Int) : Sym (fc c b bk) := fun x y h => by unfold fc; rw [sumAt_perm h]
theorem sumAt_app {bk : List Int} (a b : List Int) : sumAt bk (a ++ b) = sumAt bk a + sumAt bk b := by
  induction a with
  | nil => simp [sumAt]
  | cons x a ih => rw [List.cons_append, sumAt_cons, sumAt_cons, ih]; omega
theorem rnd_two {c b u v : Int} (h : Ru c b) : rnd c b (u + v) - c ≤ rnd c b u + rnd c b v ∧ rnd c b u + rnd c b v ≤ rnd c b (u + v) + c := by
  rw [rnd_eq h, rnd_eq h, rnd_eq h]
  obtain ⟨h1, h2, h3, h4⟩ := id h
  unfold rndL
  rcases ru_cases h with rfl | rfl | rfl | rfl | rfl | rfl | rfl | rfl | rfl <;> (repeat' split) <;> omega
theorem fc_two {c b : Int} {bk R1 R2 : List Int} (h : Ru c b) : fc c b bk (R1 ++ R2) - c ≤ fc c b bk R1 + fc c b bk R2 ∧ fc c b bk R1 + fc c b bk R2 ≤ fc c b bk (R1 ++ R2) + c := by
  unfold fc
  rw [sumAt_app]
  exact rnd_two h
/-- the parting that a best splitting with the fewest receipts begins with -/
theorem BOk.first {f : List Int → Int} {items : List Int} {q : Qd} (hne : items ≠ []) (h : BOk f items q) : ∃ p ∈ partsU items, ∀ q', BOk f p.2 q' → f p.1 + q'.1 = q.1 ∧ q'.2.2.1 + 1 = q.2.2.1 := by
  obtain ⟨S, hS, e, el⟩ := h.feE
  rcases splt_inv hS with ⟨e0, _⟩ | ⟨p, S', hp, hS', rfl⟩
  · exact absurd e0 hne
  · refine ⟨p, hp, fun q' hq => ?_⟩
    rw [tot_cons] at e
    rw [List.length_cons] at el
    obtain ⟨T, hT, eT, elT⟩ := hq.feE
    have a := hq.loL S' hS'
    have b := h.loL (p.1 :: T) (.cons hp hT)
    rw [tot_cons] at b
    have c := hq.feL S' hS' (by omega)
    have d := h.feL (p.1 :: T) (.cons hp hT) (by rw [tot_cons]; omega)
    rw [List.length_cons] at d
    omega
/-- a best splitting with the fewest receipts -/
structure BestS (f : List Int → Int) (items : List Int) (S : List (List Int)) : Prop where
  sp : Splt items S
  lo : ∀ T, Splt items T → tot f S ≤ tot f T
  fe : ∀ T, Splt items T → tot f T = tot f S → S.length ≤ T.length
theorem BestS.cons {f : List Int → Int} {items : List Int} {p : List Int × List Int} {S : List (List Int)} {q q' : Qd} (hp : p ∈ partsU items) (h : BOk f items q) (h' : BOk f p.2 q') (e1 : f p.1 + q'.1 = q.1) (e2 : q'.2.2.1 + 1 = q.2.2.1) (hS : BestS f p.2 S) : BestS f items (p.1 :: S) := by
  obtain ⟨T, hT, eT, elT⟩ := h'.feE
  have a := hS.lo T hT
  have b := h'.loL S hS.sp
  have c := hS.fe T hT (by omega)
  have d := h'.feL S hS.sp (by omega)
  refine ⟨.cons hp hS.sp, fun U hU => ?_, fun U hU e => ?_⟩
  · have := h.loL U hU
    rw [tot_cons]
    omega
  · rw [tot_cons] at e
    have := h.feL U hU (by omega)
    rw [List.length_cons]
    omega
theorem BestS.nil (f : List Int → Int) : BestS f [] [] := by
  have only : ∀ S, Splt [] S → S = [] := fun S h => by
    rcases splt_inv h with ⟨_, e⟩ | ⟨p, S', hp, _⟩
    · exact e
    · cases hp
  refine ⟨.nil, fun T hT => ?_, fun T hT _ => ?_⟩
  · rw [only T hT]; exact Int.le_refl _
  · rw [only T hT]; exact Nat.le_refl _
theorem BestS.bok {f : List Int → Int} {items : List Int} {S : List (List Int)} {q : Qd} (h : BestS f items S) (hq : BOk f items q) : tot f S = q.1 ∧ (S.length : Int) = q.2.2.1 := by
  obtain ⟨T, hT, eT, elT⟩ := hq.feE
  have a := h.lo T hT
  have b := hq.loL S h.sp
  have c := h.fe T hT (by omega)
  have d := hq.feL S h.sp (by omega)
  omega
/-- the least total with exactly k receipts -/
def LwOk (f : List Int → Int) (items : List Int) (k : Nat) : Option Int → Prop
  | none => ∀ S, Splt items S → S.length ≠ k
  | some v => (∃ S, Splt items S ∧ S.length = k ∧ tot f S = v) ∧ ∀ S, Splt items S → S.length = k → v ≤ tot f S
theorem LwOk.eq {f : List Int → Int} {items : List Int} {k : Nat} {o o' : Option Int} (h : LwOk f items k o) (h' : LwOk f items k o') : o = o' := by
  cases o with
  | none =>
    cases o' with
    | none => rfl
    | some v => obtain ⟨⟨S, a, b, _⟩, _⟩ := h'; exact absurd b (h S a)
  | some v =>
    obtain ⟨⟨S, a, b, c⟩, d⟩ := h
    cases o' with
    | none => exact absurd b (h' S a)
    | some v' =>
      obtain ⟨⟨S', a', b', c'⟩, d'⟩ := h'
      have := d S' a' b'
      have := d' S a b
      exact congrArg some (by omega)
theorem splt_nil {S : List (List Int)} (h : Splt [] S) : S = [] := by
  rcases splt_inv h with ⟨_, e⟩ | ⟨p, S', hp, _⟩
  · exact e
  · cases hp
theorem splt_pos {items : List Int} {S : List (List Int)} (hne : items ≠ []) (h : Splt items S) : 0 < S.length := by
  rcases splt_inv h with ⟨e, _⟩ | ⟨p, S', hp, _, rfl⟩
  · exact absurd e hne
  · exact Nat.succ_pos _
theorem LwOk.zero (f : List Int → Int) : LwOk f [] 0 (some 0) := ⟨⟨[], .nil, rfl, rfl⟩, fun S h _ => by rw [splt_nil h]; exact Int.le_refl _⟩
theorem LwOk.no {f : List Int → Int} {items : List Int} {k : Nat} (h : items = [] ∧ k ≠ 0 ∨ items ≠ [] ∧ k = 0) : LwOk f items k none := by
  intro S hS e
  rcases h with ⟨rfl, hk⟩ | ⟨hne, rfl⟩
  · rw [splt_nil hS] at e
    exact hk e.symm
  · have := splt_pos hne hS
    omega
/-- the rows of the partings that give something -/
def lwRows (f : List Int → Int) (R : List ((List Int × List Int) × Option Int)) : List Int := R.filterMap fun r => r.2.map (· + f r.1.1)
theorem LwOk.step {f : List Int → Int} {items : List Int} {k : Nat} {R : List ((List Int × List Int) × Option Int)} (hne : items ≠ []) (hR : R.map (·.1) = parts items) (hB : ∀ r ∈ R, LwOk f r.1.2 k r.2) :
    (lwRows f R = [] → LwOk f items (k + 1) none) ∧ ∀ m ∈ lwRows f R, (∀ y ∈ lwRows f R, m ≤ y) → LwOk f items (k + 1) (some m) := by
  have inv : ∀ S, Splt items S → ∃ r ∈ R, ∃ S', Splt r.1.2 S' ∧ S = r.1.1 :: S' := fun S h => by
    rcases splt_inv h with ⟨e, _⟩ | ⟨p, S', hp, h', rfl⟩
    · exact absurd e hne
    · have := mem_parts.mpr hp
      rw [← hR] at this
      obtain ⟨r, hr, rfl⟩ := List.mem_map.mp this
      exact ⟨r, hr, S', h', rfl⟩
  have row : ∀ S, Splt items S → S.length = k + 1 → ∃ y ∈ lwRows f R, y ≤ tot f S := fun S hS hl => by
    obtain ⟨r, hr, S', h', rfl⟩ := inv S hS
    rw [List.length_cons] at hl
    have b := hB r hr
    cases e : r.2 with
    | none => rw [e] at b; exact absurd (by omega) (b S' h')
    | some v =>
      rw [e] at b
      have := b.2 S' h' (by omega)
      refine ⟨v + f r.1.1, List.mem_filterMap.mpr ⟨r, hr, by rw [e] <;> rfl⟩, ?_⟩
      rw [tot_cons]
      omega
  refine ⟨fun h0 S hS hl => ?_, fun m hm hy => ⟨?_, fun S hS hl => ?_⟩⟩
  · obtain ⟨y, hy, _⟩ := row S hS hl
    rw [h0] at hy
    cases hy
  · obtain ⟨r, hr, e⟩ := List.mem_filterMap.mp hm
    have b := hB r hr
    cases e2 : r.2 with
    | none => rw [e2] at e; cases e
    | some v =>
      rw [e2] at e b
      obtain ⟨⟨S', a1, a2, a3⟩, _⟩ := b
      have e : some (v + f r.1.1) = some m := e
      cases e
      refine ⟨r.1.1 :: S', .cons (mem_parts.mp (by rw [← hR]; exact List.mem_map.mpr ⟨r, hr, rfl⟩)) a1, by rw [List.length_cons, a2], ?_⟩
      rw [tot_cons]
      omega
  · obtain ⟨y, hy', hle⟩ := row S hS hl
    have := hy y hy'
    omega
theorem LwOk.bok {f : List Int → Int} {items : List Int} {k : Nat} {v : Int} {q : Qd} (h : LwOk f items k (some v)) (hq : BOk f items q) : q.1 ≤ v ∧ v ≤ q.2.1 := by
  obtain ⟨⟨S, a, b, e⟩, _⟩ := h
  have := hq.loL S a
  have := hq.hiL S a
  omega
/-- there is one with k receipts: from 1 to as many as items -/
theorem splt_some {f : List Int → Int} (hf : Sym f) {items : List Int} (hne : items ≠ []) : ∀ {k : Nat}, k < items.length → ∃ S, Splt items S ∧ S.length = k + 1
  | 0, _ => ⟨[items], splt_whole hne, rfl⟩
  | k + 1, h => by
    obtain ⟨S, hS, e⟩ := splt_some hf hne (k := k) (by omega)
    obtain ⟨x, y, R, T, hp⟩ := hS.rcp.two (by omega)
    have h2 := hS.rcp.swap hp
    have h3 := Rcp.cut (R1 := [x]) (R2 := y :: R) h2 (by simp) (by simp)
    obtain ⟨S', hS', el, _⟩ := h3.canon hf (Nat.le_refl _)
    refine ⟨S', hS', ?_⟩
    have := hp.length_eq
    rw [List.length_cons] at this
    rw [el, List.length_cons, List.length_cons]
    omega
theorem LwOk.there {f : List Int → Int} (hf : Sym f) {items : List Int} {k : Nat} {o : Option Int} (h : LwOk f items k o) : o = none ↔ k > items.length ∨ k = 0 ∧ items ≠ [] := by
  constructor
  · intro e
    subst e
    by_cases h0 : items = []
    · subst h0
      by_cases hk : k = 0
      · subst hk; exact absurd rfl (h [] .nil)
      · exact .inl (by simp; omega)
    · by_cases hk : k = 0
      · exact .inr ⟨hk, h0⟩
      · by_cases hl : k > items.length
        · exact .inl hl
        · obtain ⟨S, hS, e⟩ := splt_some hf h0 (k := k - 1) (by omega)
          exact absurd (by omega) (h S hS)
  · intro hk
    cases o with
    | none => rfl
    | some v =>
      obtain ⟨⟨S, a, b, _⟩, _⟩ := h
      have := a.rcp.len
      rcases hk with hk | ⟨hk, h0⟩
      · omega
      · have := splt_pos h0 a
        omega
theorem LwOk.near {c b : Int} {bk items : List Int} {k : Nat} {v v' : Int} (hru : Ru c b) (h : LwOk (fc c b bk) items (k + 1) (some v)) (h' : LwOk (fc c b bk) items (k + 2) (some v')) : v - c ≤ v' ∧ v' ≤ v + c := by
  have hf := fc_sym c b bk
  obtain ⟨⟨S, a1, a2, a3⟩, a4⟩ := h
  obtain ⟨⟨S', b1, b2, b3⟩, b4⟩ := h'
  have hl := b1.rcp.len
  constructor
  · obtain ⟨R1, R2, T, e⟩ : ∃ R1 R2 T, S' = R1 :: R2 :: T := by
      match S', b2 with
      | R1 :: R2 :: T, _ => exact ⟨_, _, _, rfl⟩
    have h3 := (e ▸ b1.rcp).join
    obtain ⟨U, hU, el, et⟩ := h3.canon hf (Nat.le_refl _)
    rw [e] at b2 b3
    have := a4 U hU (by rw [el]; simp at b2 ⊢; omega)
    rw [et, tot_cons] at this
    rw [tot_cons, tot_cons] at b3
    have := fc_two (bk := bk) (R1 := R1) (R2 := R2) hru
    omega
  · obtain ⟨x, y, R, T, hp⟩ := a1.rcp.two (by omega)
    have h3 := Rcp.cut (R1 := [x]) (R2 := y :: R) (a1.rcp.swap hp) (by simp) (by simp)
    obtain ⟨U, hU, el, et⟩ := h3.canon hf (Nat.le_refl _)
    have := b4 U hU (by rw [el]; have := hp.length_eq; simp at this ⊢; omega)
    rw [et, tot_cons, tot_cons] at this
    rw [tot_perm hp, tot_cons] at a3
    have := fc_two (bk := bk) (R1 := [x]) (R2 := y :: R) hru
    rw [show [x] ++ y :: R = x :: y :: R from rfl] at this
    omega
/-- one receipt for all; each alone -/
theorem LwOk.one {f : List Int → Int} {items : List Int} {v : Int} (hf : Sym f) (hne : items ≠ []) (h : LwOk f items 1 (some v)) : v = f items := by
  obtain ⟨⟨S, a, b, e⟩, d⟩ := h
  obtain ⟨R, rfl⟩ : ∃ R, S = [R] := by
    match S, b with
    | [R], _ => exact ⟨R, rfl⟩
  have := a.rcp.perm
  rw [show [R].flatten = R by simp] at this
  rw [tot_cons, hf R items this] at e
  rw [← e]
  simp [tot]
theorem LwOk.all {f : List Int → Int} {items : List Int} {v : Int} (hf : Sym f) (h : LwOk f items items.length (some v)) : v = (items.map fun i => f [i]).sum := by
  obtain ⟨⟨S, a, b, e⟩, d⟩ := h
  have h1 := a.rcp.full b
  have key : ∀ T : List (List Int), (∀ r ∈ T, r.length = 1) → tot f T = (T.flatten.map fun i => f [i]).sum := fun T => by
    induction T with
    | nil => intro _; rfl
    | cons r T ih =>
      intro hT
      obtain ⟨x, rfl⟩ : ∃ x, r = [x] := by
        match r, hT r (List.mem_cons_self ..) with
        | [x], _ => exact ⟨x, rfl⟩
      rw [tot_cons, ih fun q hq => hT q (List.mem_cons_of_mem _ hq), List.flatten_cons, List.map_append, List.sum_append]
      simp
  rw [← e, key S h1]
  have hp := a.rcp.perm.map fun i => f [i]
  generalize List.map (fun i => f [i]) S.flatten = A at hp
  generalize List.map (fun i => f [i]) items = B at hp
  induction hp with
  | nil => rfl
  | cons x _ ih => rw [List.sum_cons, List.sum_cons, ih]
  | swap x y l => rw [List.sum_cons, List.sum_cons, List.sum_cons, List.sum_cons]; omega
  | trans _ _ h1 h2 => exact h1.trans h2

def encO : Option Int → D
  | none => .non
  | some v => .int v
theorem encO_inj {a b : Option Int} (h : encO a = encO b) : a = b := by
  cases a <;> cases b <;> simp [encO] at h ⊢
  exact h
/-- what the dict holds -/
structure KnownL (f : List Int → Int) (all : List Int) (kvs : DE2) : Prop where
  nd : (kvs.map (·.1)).Nodup
  ok : ∀ kv ∈ kvs, ∃ items k o, kv = ((items, k), encO o) ∧ items.Sublist all ∧ 0 ≤ k ∧ k ≤ 20 ∧ LwOk f items k.toNat o
theorem KnownL.nil (f : List Int → Int) (all : List Int) : KnownL f all [] := ⟨List.nodup_nil, fun _ h => by cases h⟩
theorem KnownL.len {f : List Int → Int} {all : List Int} {kvs : DE2} (h : KnownL f all kvs) (hl : all.length ≤ 10) : kvs.length ≤ 21504 := by
  have h1 : (kvs.map (·.1)).length ≤ ((subs all).flatMap fun s => (List.range 21).map fun i : Nat => (s, (i : Int))).length := nodup_le h.nd fun a ha => by
    obtain ⟨kv, hkv, rfl⟩ := List.mem_map.mp ha
    obtain ⟨items, k, o, rfl, hs, h0, h1, _⟩ := h.ok kv hkv
    exact List.mem_flatMap.mpr ⟨items, mem_subs hs, List.mem_map.mpr ⟨k.toNat, List.mem_range.mpr (by omega), by rw [Int.toNat_of_nonneg h0]⟩⟩
  have h2 : ∀ L : List (List Int), (L.flatMap fun s => (List.range 21).map fun i : Nat => (s, (i : Int))).length = 21 * L.length := fun L => by
    induction L with
    | nil => rfl
    | cons a L ih => rw [List.flatMap_cons, List.length_append, ih, List.length_map, List.length_range, List.length_cons]; omega
  rw [List.length_map, h2, subs_len] at h1
  have := Nat.pow_le_pow_right (n := 2) (by decide) hl
  omega
theorem lookN_mem {kvs : DE2} {k : List Int × Int} {d : D} (h : lookN kvs k = some d) : (k, d) ∈ kvs := by
  unfold lookN at h
  obtain ⟨kv, h1, h2⟩ := Option.map_eq_some_iff.mp h
  have := List.find?_some h1
  have e : kv.1 = k := of_decide_eq_true this
  have hm := List.mem_of_find?_eq_some h1
  rw [← e, ← h2]
  exact hm
theorem KnownL.get {f : List Int → Int} {all : List Int} {kvs : DE2} (h : KnownL f all kvs) {items : List Int} {k : Int} {d : D} (hg : lookN kvs (items, k) = some d) : ∃ o, d = encO o ∧ LwOk f items k.toNat o := by
  obtain ⟨items', k', o, e, _, _, _, hb⟩ := h.ok _ (lookN_mem hg)
  cases e
  exact ⟨o, rfl, hb⟩
theorem lookN_repl {k : List Int × Int} {v : D} : ∀ {kvs : DE2}, (kvs.any fun kv => decide (kv.1 = k)) = true → lookN (kvs.map fun kv => if kv.1 = k then (kv.1, v) else kv) k = some v
  | [], h => by cases h
  | q :: kvs, h => by
    by_cases e : q.1 = k
    · unfold lookN
      rw [List.map_cons, if_pos e, List.find?_cons_of_pos (by simpa using e)] <;> rfl
    · have h' : (kvs.any fun kv => decide (kv.1 = k)) = true := by
        rw [List.any_cons, decide_eq_false e, Bool.false_or] at h
        exact h
      have ih := lookN_repl (v := v) h'
      unfold lookN at ih ⊢
      rw [List.map_cons, if_neg e, List.find?_cons_of_neg (by simpa using e)]
      exact ih
theorem KnownL.put {f : List Int → Int} {all : List Int} {kvs : DE2} (h : KnownL f all kvs) {items : List Int} {k : Int} {o : Option Int} (hs : items.Sublist all) (h0 : 0 ≤ k) (h1 : k ≤ 20) (hb : LwOk f items k.toNat o) :
    KnownL f all (storeN kvs (items, k) (encO o)) ∧ lookN (storeN kvs (items, k) (encO o)) (items, k) = some (encO o) := by
  unfold storeN
  split
  · rename_i ha
    refine ⟨⟨?_, fun kv hkv => ?_⟩, lookN_repl ha⟩
    · have e : ((kvs.map fun kv => if kv.1 = (items, k) then (kv.1, encO o) else kv).map (·.1)) = kvs.map (·.1) := by
        rw [List.map_map]
        refine List.map_congr_left fun kv _ => ?_
        show (if kv.1 = (items, k) then (kv.1, encO o) else kv).1 = kv.1
        split <;> rfl
      rw [e]
      exact h.nd
    · obtain ⟨kv', hkv', rfl⟩ := List.mem_map.mp hkv
      split
      · rename_i e
        exact ⟨items, k, o, by rw [e], hs, h0, h1, hb⟩
      · exact h.ok kv' hkv'
  · rename_i ha
    have ha : (kvs.any fun kv => decide (kv.1 = (items, k))) = false := Bool.not_eq_true _ ▸ ha
    refine ⟨⟨?_, fun kv hkv => ?_⟩, ?_⟩
    · rw [List.map_append, List.nodup_append]
      refine ⟨h.nd, by simp, fun a ha' b hb' => ?_⟩
      rw [List.map_cons, List.map_nil, List.mem_singleton] at hb'
      subst hb'
      intro e2
      obtain ⟨kv, hkv, rfl⟩ := List.mem_map.mp ha'
      rw [List.any_eq_false] at ha
      exact ha kv hkv (decide_eq_true e2)
    · rcases List.mem_append.mp hkv with hkv | hkv
      · exact h.ok kv hkv
      · rw [List.mem_singleton.mp hkv]
        exact ⟨items, k, o, rfl, hs, h0, h1, hb⟩
    · unfold lookN
      have hn : kvs.find? (fun kv => decide (kv.1 = (items, k))) = none := by
        rw [List.find?_eq_none]
        rw [List.any_eq_false] at ha
        exact ha
      rw [List.find?_append, hn]
      simp
def sp_least_with_least (P : Program) (w : World) (K : PySem.W.Frag) (n : Nat) : SpN := fun f cs ds μ Q _ => ∃ (p d dS : Addr) (c b : Int) (bk items : List Int) (many : Int) (kvs : DE2), ds = [tupI items, .int many] ∧ cs = [.ref d, .ref f, .ref p] ∧ μ p = some (srF K c b bk dS) ∧ μ d = some (nkM P w K kvs) ∧ f ≠ d ∧ SrOk c b bk ∧
  items.Sublist (upN bk.length) ∧ items.length < n ∧ 0 ≤ many ∧ many ≤ 20 ∧ KnownL (fc c b bk) (upN bk.length) kvs ∧ ∀ o kvs', LwOk (fc c b bk) items many.toNat o → KnownL (fc c b bk) (upN bk.length) kvs' → Q (encO o) (updM μ d (some (nkM P w K kvs')))
def sp_least_with (K : PySem.W.Frag) : SpD := fun ds μ Q _ => ∃ (c b : Int) (bk : List Int) (r : Int), ds = [.rule c b, .tup (bk.map .int), .int r] ∧ SrOk c b bk ∧ 0 ≤ r ∧ r ≤ 10 ∧ μ (tabA K (He.ga K "least_with")) = some (.tbl "least_with.<locals>.least") ∧ ∀ o, LwOk (fc c b bk) (upN bk.length) r.toNat o → Q (encO o) μ
def encS (S : List (List Int)) : D := .tup (S.map tupI)
def sp_Search_best (K : PySem.W.Frag) (n : Nat) : SpD := fun ds μ Q _ => ∃ (p d : Addr) (c b : Int) (bk items : List Int) (kvs : List (List Key × D)), ds = [.ref p, tupI items] ∧ μ p = some (srF K c b bk d) ∧ μ d = some (.dct kvs) ∧ SrOk c b bk ∧
  items.Sublist (upN bk.length) ∧ items.length < n ∧ Known (fc c b bk) (upN bk.length) kvs ∧ ∀ S kvs', BestS (fc c b bk) items S → Known (fc c b bk) (upN bk.length) kvs' → Q (encS S) (updM μ d (some (.dct kvs')))
def sp_best_splitting : SpD := fun ds μ Q _ => ∃ (c b : Int) (bk : List Int) (fw : Bool), ds = [.rule c b, .tup (bk.map .int), .bl fw] ∧ SrOk c b bk ∧ ∀ S, BestS (fc c b bk) (upN bk.length) S → Q (encS S) μ
theorem dataLe_tups : PySem.W.dataLe false (fun r : List Int => PyData.tuple (r.map .int)) = fun (p q : List Int) => decide (p ≤ q) := by
  funext p q
  show (!PySem.W.dataLt (.tuple (q.map .int)) (.tuple (p.map .int))) = _
  rw [PySem.W.dataLt_tuple]
  show (!PySem.W.rowLt (q.map .int) (p.map .int)) = _
  rw [PySem.W.dataLt_ints]
  by_cases h : q < p
  · have h' : ¬ p ≤ q := fun r => List.not_lt.mpr r h
    simp [h, h']
  · have h' : p ≤ q := List.not_lt.mp h
    simp [h, h']
theorem mixS_valid {n : Nat} {S : List (List Int)} (h : MixS n S) : ValidS n (S.mergeSort (PySem.W.dataLe false fun r : List Int => PyData.tuple (r.map .int))) := by
  have hp := List.mergeSort_perm S (PySem.W.dataLe false fun r : List Int => PyData.tuple (r.map .int))
  refine ⟨fun r hr => h.ne r (hp.mem_iff.mp hr), fun r hr => h.asc r (hp.mem_iff.mp hr), hp.flatten.trans h.perm, ?_⟩
  rw [dataLe_tups]
  refine List.pairwise_mergeSort (le := fun p q : List Int => decide (p ≤ q)) (fun a b c h1 h2 => decide_eq_true (List.le_trans (of_decide_eq_true h1) (of_decide_eq_true h2))) (fun a b => ?_) S
  rcases List.le_total a b with h | h <;> simp [h]
/-- without an item -/
def fil (i : Int) (R : List Int) : List Int := R.filter fun x => !decide (x = i)
def wout (S : List (List Int)) (i : Int) : List (List Int) := (S.map (fil i)).filter fun R => !decide (R = [])
theorem tot_drop0 {f : List Int → Int} (h0 : f [] = 0) : ∀ S : List (List Int), tot f (S.filter fun R => !decide (R = [])) = tot f S
  | [] => rfl
  | R :: S => by
    have ih := tot_drop0 h0 S
    by_cases h : R = []
    · rw [List.filter_cons_of_neg (by simpa using h), ih, tot_cons, h, h0]; omega
    · rw [List.filter_cons_of_pos (by simpa using h), tot_cons, tot_cons, ih]
theorem flat_drop0 : ∀ S : List (List Int), (S.filter fun R => !decide (R = [])).flatten = S.flatten
  | [] => rfl
  | R :: S => by
    have ih := flat_drop0 S
    by_cases h : R = []
    · rw [List.filter_cons_of_neg (by simpa using h), ih, List.flatten_cons, h]; rfl
    · rw [List.filter_cons_of_pos (by simpa using h), List.flatten_cons, List.flatten_cons, ih]
theorem fil_not {i : Int} {R : List Int} (h : i ∉ R) : fil i R = R := by
  unfold fil
  rw [List.filter_eq_self]
  intro x hx
  have : x ≠ i := fun e => h (e ▸ hx)
  simpa using this
theorem fil_flat (i : Int) : ∀ S : List (List Int), (S.map (fil i)).flatten = fil i S.flatten
  | [] => rfl
  | R :: S => by
    rw [List.map_cons, List.flatten_cons, fil_flat i S, List.flatten_cons]
    unfold fil
    rw [List.filter_append]
theorem tot_fil (f : List Int → Int) (i : Int) : ∀ S : List (List Int), i ∉ S.flatten → tot f (S.map (fil i)) = tot f S
  | [], _ => rfl
  | R :: S, h => by
    rw [List.flatten_cons, List.mem_append, not_or] at h
    rw [List.map_cons, tot_cons, tot_cons, fil_not h.1, tot_fil f i S h.2]
/-- an item taken out: the total changes as the one receipt's charge does -/
theorem tot_out {f : List Int → Int} {i : Int} {lo hi : Int} (hf : ∀ R : List Int, i ∈ R → R.Nodup → f R + lo ≤ f (fil i R) + f [i] ∧ f (fil i R) + f [i] ≤ f R + hi) : ∀ S : List (List Int), i ∈ S.flatten → S.flatten.Nodup →
    tot f S + lo ≤ tot f (S.map (fil i)) + f [i] ∧ tot f (S.map (fil i)) + f [i] ≤ tot f S + hi
  | [], h, _ => by simp at h
  | R :: S, h, nd => by
    rw [List.flatten_cons, List.nodup_append] at nd
    obtain ⟨n1, n2, n3⟩ := nd
    rw [List.map_cons, tot_cons, tot_cons]
    by_cases hR : i ∈ R
    · have hS : i ∉ S.flatten := fun hs => n3 i hR i hs rfl
      rw [tot_fil f i S hS]
      have := hf R hR n1
      omega
    · rw [List.flatten_cons, List.mem_append] at h
      have := tot_out hf S (h.resolve_left hR) n2
      rw [fil_not hR]
      omega
theorem fil_perm {i : Int} {L : List Int} (nd : L.Nodup) (h : i ∈ L) : (fil i L ++ [i]).Perm L := by
  have e := List.perm_cons_erase h
  have e2 : L.erase i = fil i L := by
    rw [List.Nodup.erase_eq_filter nd]
    unfold fil
    exact List.filter_congr fun x _ => rfl
  rw [e2] at e
  exact (List.perm_append_comm.trans e.symm)
theorem upN_nodup (n : Nat) : (upN n).Nodup := by
  unfold upN List.Nodup
  rw [List.pairwise_map]
  exact List.nodup_range.imp fun h e => h (by omega)
theorem MixS.out {n : Nat} {S : List (List Int)} {i : Int} (h : MixS n S) (h0 : 0 ≤ i) (h1 : i < n) : MixS n (wout S i ++ [[i]]) := by
  have hm : i ∈ S.flatten := h.perm.mem_iff.mpr (upN_mem.mpr ⟨h0, h1⟩)
  have nd : S.flatten.Nodup := h.perm.nodup_iff.mpr (upN_nodup n)
  have mem : ∀ r ∈ wout S i, r ≠ [] ∧ ∃ R ∈ S, r = fil i R := fun r hr => by
    obtain ⟨a, b⟩ := List.mem_filter.mp hr
    obtain ⟨R, hR, rfl⟩ := List.mem_map.mp a
    exact ⟨by simpa using b, R, hR, rfl⟩
  refine ⟨fun r hr => ?_, fun r hr => ?_, fun r hr x hx => ?_, ?_⟩
  · rcases List.mem_append.mp hr with hr | hr
    · exact (mem r hr).1
    · rw [List.mem_singleton.mp hr]; simp
  · rcases List.mem_append.mp hr with hr | hr
    · obtain ⟨_, R, hR, rfl⟩ := mem r hr
      exact (h.asc R hR).filter _
    · rw [List.mem_singleton.mp hr]; simp
  · rcases List.mem_append.mp hr with hr | hr
    · obtain ⟨_, R, hR, rfl⟩ := mem r hr
      exact h.lt R hR x (List.mem_filter.mp hx).1
    · rw [List.mem_singleton.mp hr] at hx
      rw [List.mem_singleton.mp hx]
      exact ⟨h0, h1⟩
  · rw [List.flatten_append]
    show ((wout S i).flatten ++ [i]).Perm (upN n)
    unfold wout
    rw [flat_drop0, fil_flat]
    exact (fil_perm nd hm).trans h.perm
theorem fil_sum {bk : List Int} {i : Int} {R : List Int} (nd : R.Nodup) (h : i ∈ R) : sumAt bk R = sumAt bk (fil i R) + sumAt bk [i] := by
  rw [← sumAt_app]
  exact (sumAt_perm (fil_perm nd h)).symm
theorem fc_nil {c b : Int} {bk : List Int} (h : Ru c b) : fc c b bk [] = 0 := rnd0 h
theorem out_near {c b : Int} {bk : List Int} {n : Nat} {S : List (List Int)} {i : Int} (h : Ru c b) (hS : MixS n S) (h0 : 0 ≤ i) (h1 : i < n) : tot (fc c b bk) S - c ≤ tot (fc c b bk) (wout S i ++ [[i]]) ∧ tot (fc c b bk) (wout S i ++ [[i]]) ≤ tot (fc c b bk) S + c := by
  have hm : i ∈ S.flatten := hS.perm.mem_iff.mpr (upN_mem.mpr ⟨h0, h1⟩)
  have nd : S.flatten.Nodup := hS.perm.nodup_iff.mpr (upN_nodup n)
  have := tot_out (f := fc c b bk) (i := i) (lo := -c) (hi := c) (fun R hR nR => by
    have e := fil_sum (bk := bk) nR hR
    have := rnd_two (u := sumAt bk (fil i R)) (v := sumAt bk [i]) h
    unfold fc
    rw [e]
    omega) S hm nd
  rw [tot_append, tot_one]
  unfold wout
  rw [tot_drop0 (fc_nil h)]
  omega
/-- an item that is rounded down, taken out, costs nothing -/
theorem rnd_free {c b u v : Int} (h : Ru c b) (hv : v % c < b) : rnd c b u + rnd c b v ≤ rnd c b (u + v) := by
  rw [rnd_eq h, rnd_eq h, rnd_eq h]
  obtain ⟨h1, h2, h3, h4⟩ := id h
  unfold rndL
  rcases ru_cases h with rfl | rfl | rfl | rfl | rfl | rfl | rfl | rfl | rfl <;> (repeat' split) <;> omega
theorem out_free {c b : Int} {bk : List Int} {n : Nat} {S : List (List Int)} {i : Int} (h : Ru c b) (hS : MixS n S) (h0 : 0 ≤ i) (h1 : i < n) (hv : bk.getD i.toNat 0 % c < b) : tot (fc c b bk) (wout S i ++ [[i]]) ≤ tot (fc c b bk) S := by
  have hm : i ∈ S.flatten := hS.perm.mem_iff.mpr (upN_mem.mpr ⟨h0, h1⟩)
  have nd : S.flatten.Nodup := hS.perm.nodup_iff.mpr (upN_nodup n)
  have := tot_out (f := fc c b bk) (i := i) (lo := -c) (hi := 0) (fun R hR nR => by
    have e := fil_sum (bk := bk) nR hR
    have h2 := rnd_two (u := sumAt bk (fil i R)) (v := sumAt bk [i]) h
    have h3 := rnd_free (u := sumAt bk (fil i R)) (v := sumAt bk [i]) h (by rw [sumAt_cons]; simpa [sumAt] using hv)
    unfold fc
    rw [e]
    omega) S hm nd
  rw [tot_append, tot_one]
  unfold wout
  rw [tot_drop0 (fc_nil h)]
  omega
/-- a part whose sum is a multiple of the coin, taken out, costs nothing -/
theorem fc_cut0 {c b : Int} {bk R P Q : List Int} (h : Ru c b) (hp : R.Perm (P ++ Q)) (h0 : sumAt bk P % c = 0) : fc c b bk P + fc c b bk Q = fc c b bk R := by
  unfold fc
  rw [sumAt_perm hp, sumAt_app]
  rw [rnd_eq h, rnd_eq h, rnd_eq h]
  obtain ⟨h1, h2, h3, h4⟩ := id h
  generalize sumAt bk P = u at h0
  generalize sumAt bk Q = v
  unfold rndL
  rcases ru_cases h with rfl | rfl | rfl | rfl | rfl | rfl | rfl | rfl | rfl <;> (repeat' split) <;> omega
/-- prefix sums modulo the coin: two are alike -/
def preS (c : Int) (A : List Int) : List Int := (List.range (A.length + 1)).map fun k : Nat => (A.take k).sum % c
theorem preS_get {c : Int} {A : List Int} {k : Nat} (h : k ≤ A.length) : (preS c A)[k]? = some ((A.take k).sum % c) := by
  unfold preS
  rw [List.getElem?_map, List.getElem?_range (by omega)]
  rfl
theorem preS_len (c : Int) (A : List Int) : (preS c A).length = A.length + 1 := by unfold preS; rw [List.length_map, List.length_range]
theorem pigeonS {c : Int} (hc : 0 < c) {A : List Int} (h : c ≤ A.length) : ∃ e : Nat, 1 ≤ e ∧ e ≤ A.length ∧ (A.take e).sum % c ∈ (preS c A).take e := by
  by_cases hx : ∃ e : Nat, 1 ≤ e ∧ e ≤ A.length ∧ (A.take e).sum % c ∈ (preS c A).take e
  · exact hx
  · exfalso
    have hno : ∀ e : Nat, e ≤ A.length → (A.take e).sum % c ∉ (preS c A).take e := fun e he hm => by
      by_cases h0 : e = 0
      · subst h0; simp at hm
      · exact hx ⟨e, by omega, he, hm⟩
    have nd : (preS c A).Nodup := by
      have key : ∀ k, k ≤ A.length + 1 → ((preS c A).take k).Nodup := fun k => by
        induction k with
        | zero => intro _; simp
        | succ k ih =>
          intro hk
          have e := preS_get (c := c) (A := A) (k := k) (by omega)
          rw [List.take_succ, e]
          show ((preS c A).take k ++ [(A.take k).sum % c]).Nodup
          rw [List.nodup_append]
          refine ⟨ih (by omega), by simp, fun a ha b hb ee => ?_⟩
          rw [List.mem_singleton] at hb
          subst hb
          exact hno k (by omega) (ee ▸ ha)
      have := key (A.length + 1) (Nat.le_refl _)
      rwa [List.take_of_length_le (by rw [preS_len]; exact Nat.le_refl _)] at this
    have hle := nodup_le nd (m := upN c.toNat) fun a ha => by
      unfold preS at ha
      obtain ⟨k, _, rfl⟩ := List.mem_map.mp ha
      have h1 := Int.emod_nonneg (A.take k).sum (b := c) (by omega)
      have h2 := Int.emod_lt_of_pos (A.take k).sum hc
      exact upN_mem.mpr ⟨h1, by omega⟩
    rw [preS_len, upN_len] at hle
    omega
theorem take_sum {A : List Int} {j e : Nat} (h : j ≤ e) : (A.take e).sum = (A.take j).sum + ((A.drop j).take (e - j)).sum := by
  have : A.take e = A.take j ++ (A.drop j).take (e - j) := by
    rw [← List.take_append_drop j (A.take e), List.take_take, Nat.min_eq_left h, List.drop_take]
  rw [this, List.sum_append]
theorem part_mod {c : Int} (hc : 0 < c) {A : List Int} {j e : Nat} (hje : j ≤ e) (he : e ≤ A.length) (h : (A.take j).sum % c = (A.take e).sum % c) : ((A.drop j).take (e - j)).sum % c = 0 := by
  rw [take_sum hje] at h
  have h2 := Int.emod_emod_of_dvd ((A.take j).sum) (Int.dvd_refl c)
  have : ((A.take j).sum + ((A.drop j).take (e - j)).sum - (A.take j).sum) % c = 0 := by
    rw [Int.sub_emod, ← h]
    simp
  rwa [show (A.take j).sum + ((A.drop j).take (e - j)).sum - (A.take j).sum = ((A.drop j).take (e - j)).sum by omega] at this
theorem sumAt_map (bk R : List Int) : sumAt bk R = (R.map fun i => bk.getD i.toNat 0).sum := rfl
/-- the middle taken out of an ascending list -/
theorem mid_perm (R : List Int) {j e : Nat} (h : j ≤ e) : R.Perm ((R.drop j).take (e - j) ++ (R.take j ++ R.drop e)) := by
  have e1 : R = R.take j ++ ((R.drop j).take (e - j) ++ R.drop e) := by
    have a := List.take_append_drop j R
    have b := List.take_append_drop (e - j) (R.drop j)
    rw [List.drop_drop, show j + (e - j) = e by omega] at b
    rw [b, a]
  have p : (R.take j ++ ((R.drop j).take (e - j) ++ R.drop e)).Perm ((R.drop j).take (e - j) ++ (R.take j ++ R.drop e)) := by
    rw [← List.append_assoc, ← List.append_assoc]
    exact List.perm_append_comm.append_right _
  rw [← e1] at p
  exact p
theorem mid_filter {R : List Int} (nd : R.Nodup) {j e : Nat} (h : j ≤ e) : (R.filter fun x => !decide (x ∈ (R.drop j).take (e - j))) = R.take j ++ R.drop e := by
  have e1 : R = R.take j ++ ((R.drop j).take (e - j) ++ R.drop e) := by
    have a := List.take_append_drop j R
    have b := List.take_append_drop (e - j) (R.drop j)
    rw [List.drop_drop, show j + (e - j) = e by omega] at b
    rw [b, a]
  generalize (R.drop j).take (e - j) = P at e1
  generalize R.take j = A at e1
  generalize R.drop e = B at e1
  subst e1
  rw [List.nodup_append] at nd
  obtain ⟨_, nd2, nd3⟩ := nd
  rw [List.nodup_append] at nd2
  obtain ⟨_, _, nd4⟩ := nd2
  rw [List.filter_append, List.filter_append]
  have f1 : (A.filter fun x => !decide (x ∈ P)) = A := List.filter_eq_self.mpr fun x hx => by
    have : x ∉ P := fun hp => nd3 x hx x (List.mem_append_left _ hp) rfl
    simpa using this
  have f2 : (P.filter fun x => !decide (x ∈ P)) = [] := List.filter_eq_nil_iff.mpr fun x hx => by simpa using hx
  have f3 : (B.filter fun x => !decide (x ∈ P)) = B := List.filter_eq_self.mpr fun x hx => by
    have : x ∉ P := fun hp => nd4 x hp x hx rfl
    simpa using this
  rw [f1, f2, f3]
  rfl
theorem BOk.count_pos {f : List Int → Int} {items : List Int} {q : Qd} (h : BOk f items q) : 1 ≤ q.2.2.2 := by
  obtain ⟨S, hS, e⟩ := h.loE
  rw [h.wa]
  have : 0 < ((allS items.length items).filter fun S => decide (tot f S = q.1)).length := List.length_pos_of_mem (List.mem_filter.mpr ⟨(mem_allS (Nat.le_refl _)).mpr hS, decide_eq_true e⟩)
  omega
/-- any receipts of all items: between the bounds -/
theorem MixS.bounds {c b : Int} {bk : List Int} {S : List (List Int)} {q : Qd} (h : MixS bk.length S) (hq : BOk (fc c b bk) (upN bk.length) q) : q.1 ≤ tot (fc c b bk) S ∧ tot (fc c b bk) S ≤ q.2.1 := by
  obtain ⟨T, hT, _, e⟩ := Rcp.canon (fc_sym c b bk) (Nat.le_refl _) (⟨h.ne, h.perm⟩ : Rcp (upN bk.length) S)
  have := hq.loL T hT
  have := hq.hiL T hT
  omega
theorem ValidS.mix {n : Nat} {S : List (List Int)} (h : ValidS n S) : MixS n S := ⟨h.ne, h.asc, h.lens.2.2.2, h.perm⟩
theorem sumAt_le {bk bk' : List Int} (h : ∀ i : Nat, bk.getD i 0 ≤ bk'.getD i 0) : ∀ r : List Int, sumAt bk r ≤ sumAt bk' r
  | [] => Int.le_refl _
  | i :: r => by
    rw [sumAt_cons, sumAt_cons]
    have := h i.toNat
    have := sumAt_le h r
    omega
theorem bok_raise {c b : Int} {bk bk' : List Int} {q q' : Qd} (hru : Ru c b) (hl : bk.length = bk'.length) (h : ∀ i : Nat, bk.getD i 0 ≤ bk'.getD i 0) (hq : BOk (fc c b bk) (upN bk.length) q) (hq' : BOk (fc c b bk') (upN bk'.length) q') : q.1 ≤ q'.1 := by
  rw [← hl] at hq'
  exact (BOk.mono (fun r => rnd_mono hru (sumAt_le h r)) hq hq').1
theorem splt_lex : ∀ {items : List Int} {S : List (List Int)}, items.Pairwise (· < ·) → Splt items S → S.Pairwise fun p q : List Int => p ≤ q
  | _, _, _, .nil => .nil
  | items, _, ha, @Splt.cons _ p S hp hS => by
    cases items with
    | nil => cases hp
    | cons x xs =>
      obtain ⟨l, e, hm⟩ := mem_partsU.mp hp
      obtain ⟨a1, a2⟩ := List.pairwise_cons.mp ha
      refine List.Pairwise.cons (fun q hq => ?_) (splt_lex (a2.sublist hm.subr) hS)
      rw [e]
      have hq1 := hS.rcp.ne q hq
      have hq2 := (splt_sub hS q hq).subset
      cases q with
      | nil => exact absurd rfl hq1
      | cons y t =>
        have hy := a1 y (hm.subr.subset (hq2 (List.mem_cons_self ..)))
        intro hlt
        cases hlt with
        | rel h => omega
        | cons h => omega
theorem splt_validS {n : Nat} {S : List (List Int)} (h : Splt (upN n) S) : ValidS n S := by
  have ha : (upN n).Pairwise (· < ·) := by
    unfold upN
    rw [List.pairwise_map]
    exact List.pairwise_lt_range.imp fun h => by omega
  refine ⟨h.rcp.ne, fun r hr => ha.sublist (splt_sub h r hr), h.rcp.perm, ?_⟩
  rw [dataLe_tups]
  exact (splt_lex ha h).imp fun h => decide_eq_true h

def sp_count_best : SpD := fun ds μ Q _ => ∃ (c b : Int) (bk : List Int), ds = [.rule c b, .tup (bk.map .int)] ∧ SrOk c b bk ∧ ∀ z, BOk (fc c b bk) (upN bk.length) z → Q (.int z.2.2.2) μ
def sp_is_splitting : SpD := fun ds μ Q _ => ∃ (bk : List Int) (S : List (List Int)), ds = [.tup (bk.map .int), encS S] ∧ bk.length ≤ 10 ∧ (∀ x ∈ bk, Amt x) ∧ ValidS bk.length S ∧ Q (.bl true) μ
def sp_law_total : SpD := fun ds μ Q _ => ∃ (c b : Int) (bk : List Int) (S : List (List Int)), ds = [.tup [.int c, .int b], .tup (bk.map .int), encS S] ∧ Ru c b ∧ bk.length ≤ 100 ∧ (∀ x ∈ bk, Amt x) ∧ MixS bk.length S ∧ Q (.int (tot (fc c b bk) S)) μ
theorem MixS.lens {n : Nat} {S : List (List Int)} (h : MixS n S) : S.length ≤ n ∧ ∀ r ∈ S, r.length ≤ n := by
  have e := h.perm.length_eq
  rw [upN_len] at e
  have h1 := (⟨h.ne, h.perm⟩ : Rcp (upN n) S).len
  rw [upN_len] at h1
  exact ⟨h1, fun r hr => by have := (List.sublist_flatten_of_mem hr).length_le; omega⟩
def sp_law_without : SpD := fun ds μ Q _ => ∃ (S : List (List Int)) (i : Int), ds = [encS S, .int i] ∧ S.length ≤ 1000 ∧ (∀ r ∈ S, r.length ≤ 1000) ∧ Q (.lst ((wout S i).map tupI)) μ
theorem few_low {f : List Int → Int} {items : List Int} {S : List (List Int)} {q : Qd} {o : Option Int} (h : BestS f items S) (hq : BOk f items q) (ho : LwOk f items S.length o) : o = some q.1 := by
  have e := (h.bok hq).1
  cases o with
  | none => exact absurd rfl (ho S h.sp)
  | some v =>
    have h1 := ho.bok hq
    have h2 := ho.2 S h.sp rfl
    exact congrArg some (by omega)
theorem few_more {f : List Int → Int} {items : List Int} {S : List (List Int)} {q : Qd} {k : Nat} {v : Int} (h : BestS f items S) (hq : BOk f items q) (hk : k < S.length) (ho : LwOk f items k (some v)) : q.1 < v := by
  have h1 := ho.bok hq
  obtain ⟨T, hT, hl, ht⟩ := ho.1
  have h2 := (h.bok hq).2
  by_cases e : v = q.1
  · have := hq.feL T hT (by omega)
    omega
  · omega
theorem least_in {α : Type} (g : α → Int) : ∀ {L : List α}, L ≠ [] → ∃ a ∈ L, ∀ b ∈ L, g a ≤ g b
  | [a], _ => ⟨a, List.mem_cons_self .., fun b hb => by rw [List.mem_singleton.mp hb]; exact Int.le_refl _⟩
  | a :: a2 :: L, _ => by
    obtain ⟨m, hm, h⟩ := least_in g (L := a2 :: L) (by simp)
    by_cases hl : g a ≤ g m
    · refine ⟨a, List.mem_cons_self .., fun b hb => ?_⟩
      rcases List.mem_cons.mp hb with rfl | hb
      · exact Int.le_refl _
      · exact Int.le_trans hl (h b hb)
    · refine ⟨m, List.mem_cons_of_mem _ hm, fun b hb => ?_⟩
      rcases List.mem_cons.mp hb with rfl | hb
      · omega
      · exact h b hb
theorem lwOk_ex (f : List Int → Int) (items : List Int) (k : Nat) : ∃ o, LwOk f items k o := by
  by_cases h : (allS items.length items).filter (fun S => decide (S.length = k)) = []
  · refine ⟨none, fun S hS e => ?_⟩
    have := List.filter_eq_nil_iff.mp h S ((mem_allS (Nat.le_refl _)).mpr hS)
    exact this (decide_eq_true e)
  · obtain ⟨S, hS, hm⟩ := least_in (tot f) h
    obtain ⟨h1, h2⟩ := List.mem_filter.mp hS
    refine ⟨some (tot f S), ⟨S, (mem_allS (Nat.le_refl _)).mp h1, of_decide_eq_true h2, rfl⟩, fun T hT e => ?_⟩
    exact hm T (List.mem_filter.mpr ⟨(mem_allS (Nat.le_refl _)).mpr hT, decide_eq_true e⟩)
noncomputable def lwF (f : List Int → Int) (items : List Int) (k : Nat) : Option Int := Classical.choose (lwOk_ex f items k)
theorem lwF_ok (f : List Int → Int) (items : List Int) (k : Nat) : LwOk f items k (lwF f items k) := Classical.choose_spec (lwOk_ex f items k)
theorem lwF_eq {f : List Int → Int} {items : List Int} {k : Nat} {o : Option Int} (h : LwOk f items k o) : lwF f items k = o := (lwF_ok f items k).eq h
theorem fc_modc {c b : Int} (h : Ru c b) (bk r : List Int) : fc c b bk r % c = 0 := by unfold fc; rw [rnd_eq h]; exact rndL_mod h
theorem totf_mod {g : List Int → Int} {c : Int} (h : ∀ B, g B % c = 0) : ∀ S : List (List Int), tot g S % c = 0
  | [] => by simp [tot]
  | B :: S => by rw [tot_cons, Int.add_emod, h B, totf_mod h S]; simp
theorem lwOk_mod {c b : Int} {bk items : List Int} {k : Nat} {v : Int} (hru : Ru c b) (h : LwOk (fc c b bk) items k (some v)) : v % c = 0 := by
  obtain ⟨⟨S, _, _, e⟩, _⟩ := h
  rw [← e]
  exact totf_mod (fc_modc hru bk) S
/-- the known totals -/
def isS : Option Int → Bool
  | none => false
  | some _ => true
theorem isS_some {o : Option Int} (h : isS o = true) : o = some (o.getD 0) := by
  cases o with
  | none => cases h
  | some v => rfl
theorem isS_not {o : Option Int} (h : isS o = false) : o = none := by
  cases o with
  | none => rfl
  | some v => cases h
noncomputable def knownL (f : List Int → Int) (items : List Int) : List Int := ((List.range 11).filter fun k => isS (lwF f items k)).map fun k => (lwF f items k).getD 0
theorem lwF_none {f : List Int → Int} (hf : Sym f) {items : List Int} {k : Nat} : isS (lwF f items k) = false ↔ k > items.length ∨ k = 0 ∧ items ≠ [] := by
  rw [← LwOk.there hf (lwF_ok f items k)]
  constructor
  · exact isS_not
  · intro e; rw [e]; rfl
theorem known_mem {f : List Int → Int} {items : List Int} {v : Int} (h : v ∈ knownL f items) : ∃ k, LwOk f items k (some v) := by
  obtain ⟨k, hk, rfl⟩ := List.mem_map.mp h
  have := isS_some (List.mem_filter.mp hk).2
  exact ⟨k, this ▸ lwF_ok f items k⟩
theorem known_in {f : List Int → Int} {items : List Int} {k : Nat} {v : Int} (hk : k < 11) (h : LwOk f items k (some v)) : v ∈ knownL f items := by
  have e := lwF_eq h
  exact List.mem_map.mpr ⟨k, List.mem_filter.mpr ⟨List.mem_range.mpr hk, by rw [e]; rfl⟩, by rw [e]; rfl⟩
/-- the known numbers of receipts follow one another -/
theorem filter_range {P : Nat → Bool} {lo hi : Nat} (hlh : lo ≤ hi) (h : ∀ k, P k = true ↔ lo ≤ k ∧ k < hi) : ∀ n, hi ≤ n → (List.range n).filter P = (List.range (hi - lo)).map fun i => lo + i := by
  have base : ∀ n, n ≤ lo → (List.range n).filter P = [] := fun n hn => by
    rw [List.filter_eq_nil_iff]
    intro k hk
    have := List.mem_range.mp hk
    intro hp
    have := (h k).mp hp
    omega
  have mid : ∀ d, lo + d ≤ hi → (List.range (lo + d)).filter P = (List.range d).map fun i => lo + i := fun d => by
    induction d with
    | zero => intro _; rw [Nat.add_zero, base lo (Nat.le_refl _)]; rfl
    | succ d ih =>
      intro hd
      rw [← Nat.add_assoc, List.range_succ, List.filter_append, ih (by omega), List.range_succ, List.map_append]
      congr 1
      rw [List.filter_cons_of_pos ((h _).mpr ⟨by omega, by omega⟩)]
      rfl
  intro n hn
  obtain ⟨d, rfl⟩ : ∃ d, n = hi + d := ⟨n - hi, by omega⟩
  induction d with
  | zero =>
    have := mid (hi - lo) (by omega)
    rw [show lo + (hi - lo) = hi by omega] at this
    exact this
  | succ d ih =>
    rw [← Nat.add_assoc, List.range_succ, List.filter_append, ih (by omega)]
    have : ¬ (P (hi + d) = true) := fun hp => by have := (h _).mp hp; omega
    rw [List.filter_cons_of_neg this]
    simp
theorem known_pos {f : List Int → Int} (hf : Sym f) {items : List Int} (hne : items ≠ []) (hl : items.length ≤ 10) : knownL f items = (List.range items.length).map fun i => (lwF f items (1 + i)).getD 0 := by
  unfold knownL
  have hpos := List.length_pos_iff.mpr hne
  rw [filter_range (lo := 1) (hi := items.length + 1) (by omega) (fun k => ?_) 11 (by omega), List.map_map]
  · rw [show items.length + 1 - 1 = items.length by omega]
    rfl
  · have := lwF_none hf (items := items) (k := k)
    cases hc : isS (lwF f items k) with
    | false =>
      have := this.mp hc
      constructor
      · intro h; cases h
      · intro ⟨h1, h2⟩
        rcases this with h | ⟨h, _⟩ <;> omega
    | true =>
      refine ⟨fun _ => ?_, fun _ => rfl⟩
      have hn : ¬ (k > items.length ∨ k = 0 ∧ items ≠ []) := fun q => by
        have := this.mpr q
        rw [hc] at this
        cases this
      constructor
      · by_cases h0 : k = 0
        · exact absurd (.inr ⟨h0, hne⟩) hn
        · omega
      · by_cases h0 : k > items.length
        · exact absurd (.inl h0) hn
        · omega
theorem known_zero (f : List Int → Int) : knownL f [] = [0] := by
  unfold knownL
  have e0 : lwF f [] 0 = some 0 := lwF_eq (LwOk.zero f)
  rw [filter_range (lo := 0) (hi := 1) (by omega) (fun k => ?_) 11 (by omega)]
  · show [(lwF f [] (0 + 0)).getD 0] = [0]
    rw [Nat.add_zero, e0]
    rfl
  · constructor
    · intro h
      refine ⟨Nat.zero_le _, ?_⟩
      by_cases h0 : k = 0
      · omega
      · have e := lwF_eq (LwOk.no (f := f) (.inl ⟨rfl, h0⟩))
        rw [e] at h
        cases h
    · intro ⟨_, h⟩
      have : k = 0 := by omega
      rw [this, e0]
      rfl
/-- neighbours among the known totals -/
theorem known_next {c b : Int} {bk items : List Int} (hru : Ru c b) (hl : items.length ≤ 10) {i : Nat} {u v : Int} (h1 : (knownL (fc c b bk) items)[i]? = some u) (h2 : (knownL (fc c b bk) items)[i + 1]? = some v) : -c ≤ v - u ∧ v - u ≤ c ∧ (v - u) % c = 0 := by
  by_cases hne : items = []
  · subst hne
    rw [known_zero] at h2
    simp at h2
  · rw [known_pos (fc_sym c b bk) hne hl] at h1 h2
    rw [List.getElem?_map] at h1 h2
    have hi : i + 1 < items.length := by
      by_cases q : i + 1 < items.length
      · exact q
      · rw [List.getElem?_eq_none (by rw [List.length_range]; omega)] at h2
        cases h2
    rw [List.getElem?_range (by omega)] at h1
    rw [List.getElem?_range (by omega)] at h2
    have get : ∀ k, k < items.length → ∀ w, some ((lwF (fc c b bk) items (1 + k)).getD 0) = some w → LwOk (fc c b bk) items (k + 1) (some w) := fun k hk w hw => by
      have s : isS (lwF (fc c b bk) items (1 + k)) = true := by
        cases hc : isS (lwF (fc c b bk) items (1 + k)) with
        | true => rfl
        | false => rcases (lwF_none (fc_sym c b bk)).mp hc with h | ⟨h, _⟩ <;> omega
      have := isS_some s
      rw [Option.some.inj hw] at this
      rw [Nat.add_comm, ← this]
      exact lwF_ok _ _ _
    have g1 := get i (by omega) u h1
    have g2 := get (i + 1) (by omega) v h2
    have := LwOk.near hru g1 g2
    have m1 := lwOk_mod hru g1
    have m2 := lwOk_mod hru g2
    refine ⟨by omega, by omega, ?_⟩
    rw [Int.sub_emod, m1, m2]
    simp
theorem lw_444 {o : Option Int} (h : LwOk (fc 5 3 (List.replicate 3 4)) (upN 3) 2 o) : o = some 15 := by
  have hS : ∀ S, Splt (upN 3) S → S.length = 2 → tot (fc 5 3 (List.replicate 3 4)) S = 15 := fun S hS hl => by
    have hc := splt_len hS
    rw [upN_len] at hc
    rw [fc_rep hS]
    match S, hl with
    | [r1, r2], _ =>
      have h1 := hc.sum
      have h2 := hc.pos r1.length (by simp)
      have h3 := hc.pos r2.length (by simp)
      simp at h1
      show ct (fe 5 3 4) [r1.length, r2.length] = 15
      rw [ct_cons, ct_cons]
      rcases (by omega : r1.length = 1 ∧ r2.length = 2 ∨ r1.length = 2 ∧ r2.length = 1) with ⟨e1, e2⟩ | ⟨e1, e2⟩
      · rw [e1, e2]; decide
      · rw [e1, e2]; decide
  have ne : o ≠ none := fun e => by
    have := (LwOk.there (fc_sym 5 3 (List.replicate 3 4)) h).mp e
    rw [upN_len] at this
    omega
  cases o with
  | none => exact absurd rfl ne
  | some v =>
    obtain ⟨⟨S, a, b, e⟩, _⟩ := h
    rw [hS S a b] at e
    rw [e]
theorem lwF_more {f : List Int → Int} {items : List Int} {S : List (List Int)} {q : Qd} {k : Nat} (h : BestS f items S) (hq : BOk f items q) (hk : k < S.length) : lwF f items k ≠ some q.1 := fun e => by
  have := few_more h hq hk (e ▸ lwF_ok f items k)
  omega
theorem low_known {f : List Int → Int} {items : List Int} {q : Qd} (h : BOk f items q) (hl : items.length ≤ 10) : q.1 ∈ knownL f items := by
  obtain ⟨S, hS, e⟩ := h.loE
  have hlen := hS.rcp.len
  have ho := lwF_ok f items S.length
  cases hv : lwF f items S.length with
  | none => rw [hv] at ho; exact absurd rfl (ho S hS)
  | some v =>
    rw [hv] at ho
    have h1 := ho.bok h
    have h2 := ho.2 S hS rfl
    have : v = q.1 := by omega
    subst this
    exact known_in (by omega) ho
theorem lw_get {f : List Int → Int} (hf : Sym f) {items : List Int} {k : Nat} (h1 : 1 ≤ k) (h2 : k ≤ items.length) : ∃ v, LwOk f items k (some v) := by
  obtain ⟨o, ho⟩ := lwOk_ex f items k
  cases o with
  | none =>
    rcases (ho.there hf).mp rfl with h | ⟨h, _⟩
    · omega
    · omega
  | some v => exact ⟨v, ho⟩
theorem getD_upN (bk : List Int) : (upN bk.length).map (fun i => bk.getD i.toNat 0) = bk := by
  unfold upN
  rw [List.map_map]
  apply List.ext_getElem
  · simp
  · intro i h1 h2
    simp [h2]
theorem fc_all (c b : Int) (bk : List Int) : fc c b bk (upN bk.length) = rnd c b bk.sum := by
  unfold fc sumAt
  rw [getD_upN]
theorem fc_each (c b : Int) (bk : List Int) : ((upN bk.length).map fun i => fc c b bk [i]) = bk.map fun a => rnd c b a := by
  have e := congrArg (List.map fun a => rnd c b a) (getD_upN bk)
  rw [List.map_map] at e
  rw [← e]
  refine List.map_congr_left fun i _ => ?_
  show rnd c b (sumAt bk [i]) = rnd c b (bk.getD i.toNat 0)
  rw [sumAt_cons]
  simp [sumAt]
/-- None or an int -/
def enO : En (Option Int) where
  enc := encO
  py := fun o => match o with
    | none => .none
    | some v => .int v
  to := fun o => by cases o <;> rfl
  dep := 0
  lay := fun o => by cases o <;> rfl
  de := fun o => by cases o <;> simp [PyData.depth]
  eqv := fun a b => by cases a <;> cases b <;> simp [PyData.eqv]
section
variable {P : Program} {w : World} {K : PySem.W.Frag} {mg : Str → Option Value} {base : Heap}
theorem ok_is_integer (T : Txt K mg base) : FnD P w K mg base 1 (He.ga K "is_integer") sp_is_integer := by
  obtain ⟨fd, F⟩ := T.f_is_integer
  refine fnD F sc_is_integer (F.bindsN fun _ _ _ _ _ _ us hl => match us, hl with | [_, _, _], _ => rfl) (fun ds μ Q ξ h => by obtain ⟨x, lo, hi, rfl, hx, q⟩ := h; rfl) fun cdv hcd A outer s H E Φ ξ ok ds μ Q hr h => ?_
  obtain ⟨x, lo, hi, rfl, hx, q⟩ := h
  refine ⟨_, (xss_one (xs_ret (xe_and (xe_callB xc_isT T.z_isinstance (by decide +kernel) (xa_cons (xv 0) (xa_cons (xe_bty (n := "int") T.z_int (by decide +kernel)) xa_nil))) (xe_and (xe_not (xe_callB xc_isT T.z_isinstance (by decide +kernel) (xa_cons (xv 0) (xa_cons (xe_bty (n := "bool") T.z_bool (by decide +kernel)) xa_nil)))) (xe_one (xe_chain xo_le xo_le (xv 1) (xv 0) (xv 2))))))), ?_⟩
  cases x <;> first | (cases hx; done) | (walk_at "dl"; exact dq q) | skip
  walk_at "dl"
  split <;> rename_i h <;> simp only [DL.isInt, h, decide_true, decide_false, Bool.true_and, Bool.false_and] at q <;> exact dq q
theorem ok_Rule_is_valid (T : Txt K mg base) : FnD P w K mg base 2 (He5.wf K (He.ga K "Rule") "staticmethod" "is_valid") sp_Rule_is_valid := by
  obtain ⟨fd, F⟩ := T.f_Rule_is_valid
  refine fnD F sc_Rule_is_valid (F.bindsN fun _ _ _ _ _ _ us hl => match us, hl with | [_, _], _ => rfl) (fun ds μ Q ξ h => by obtain ⟨x, y, rfl, hx, hy, q⟩ := h; rfl) fun cdv hcd A outer s H E Φ ξ ok ds μ Q hr h => ?_
  obtain ⟨x, y, rfl, hx, hy, q⟩ := h
  refine ⟨_, (xss_one (xs_ret (xe_and (xe_call (ok_is_integer T) (hr.mono (by first | decide | omega)) T.g_is_integer (kp T.f_is_integer) (xa_cons (xv 0) (xa_cons xe_int (xa_cons (xlargest T.R T.g_Rule) xa_nil)))) (xe_one (xe_call (ok_is_integer T) (hr.mono (by first | decide | omega)) T.g_is_integer (kp T.f_is_integer) (xa_cons (xv 1) (xa_cons xe_int (xa_cons (xv 0) xa_nil)))))))), ?_⟩
  walk_at "dl"
  refine ⟨x, 2, 10, rfl, hx, ?_⟩
  unfold validD at q
  cases h : DL.isInt x 2 10 with
  | false =>
    rw [h] at q
    walk_at "dl"
    exact dq q
  | true =>
    rw [h] at q
    cases x with
    | int c =>
      walk_at "dl"
      exact ⟨y, 1, c, rfl, hy, dq q⟩
    | _ => cases h
theorem ok_Rule_init (T : Txt K mg base) : FnD P w K mg base 3 (He.ma K (He.ga K "Rule") "__init__") (sp_Rule_init K) := by
  obtain ⟨fd, F⟩ := T.f_Rule_init
  refine fnD F sc_Rule_init (F.bindsN fun _ _ _ _ _ _ us hl => match us, hl with | [_, _, _], _ => rfl) (fun ds μ Q ξ h => by obtain ⟨p, c, b, rfl, hp, h1, h2, h3, h4, q⟩ := h; rfl) fun cdv hcd A outer s H E Φ ξ ok ds μ Q hr h => ?_
  obtain ⟨p, c, b, rfl, hp, h1, h2, h3, h4, q⟩ := h
  refine ⟨_, (xss_cons (xs_if (xt_not (xt_val (xe_smeth (xe_gref T.g_Rule) T.R.rd T.R.sValid (ok_Rule_is_valid T) (hr.mono (by first | decide | omega)) (xa_cons (xv 1) (xa_cons (xv 2) xa_nil)))))
    (xss_one xs_never)
    xss_nil)
    (xss_cons (xs_fld (xv 0) (xv 1) T.R.cl T.R.nS)
    (xss_one (xs_fld (xv 0) (xv 2) T.R.cl T.R.nB)))), ?_⟩
  walk_at "dl"
  refine ⟨_, _, rfl, rfl, rfl, ?_⟩
  have e : validD (.int c) (.int b) = true := by simp [validD, DL.isInt]; omega
  rw [e]
  walk_at "dl"
  refine ⟨_, hp, by decide, ?_⟩
  simp [putD]
  exact dq q
theorem ok_Rule_rounded (T : Txt K mg base) : FnD P w K mg base 1 (He.ma K (He.ga K "Rule") "rounded") sp_Rule_rounded := by
  obtain ⟨fd, F⟩ := T.f_Rule_rounded
  refine fnD F sc_Rule_rounded (F.bindsN fun _ _ _ _ _ _ us hl => match us, hl with | [_, _], _ => rfl) (fun ds μ Q ξ h => by obtain ⟨c, b, w', rfl, hr1, hw, q⟩ := h; rfl) fun cdv hcd A outer s H E Φ ξ ok ds μ Q hr h => ?_
  obtain ⟨c, b, w', rfl, hr1, hw, q⟩ := h
  refine ⟨_, (xss_one (xs_ret (xe_op xo_mul (xe_op xo_fdiv (xe_op xo_sub (xe_op xo_add (xv 1) (xe_fldR true (xv 0) T.R.cl T.R.nS)) (xe_fldR false (xv 0) T.R.cl T.R.nB)) (xe_fldR true (xv 0) T.R.cl T.R.nS)) (xe_fldR true (xv 0) T.R.cl T.R.nS)))), ?_⟩
  walk_at "dl"
  exact ⟨rnd_div hr1, rnd_mul hr1 hw, dq q⟩
theorem ok_need_amount (T : Txt K mg base) : FnD P w K mg base 2 (He.ga K "need_amount") sp_need_amount := by
  obtain ⟨fd, F⟩ := T.f_need_amount
  refine fnD F sc_need_amount (F.bindsN fun _ _ _ _ _ _ us hl => match us, hl with | [_], _ => rfl) (fun ds μ Q ξ h => by obtain ⟨n, rfl, hn, q⟩ := h; rfl) fun cdv hcd A outer s H E Φ ξ ok ds μ Q hr h => ?_
  obtain ⟨n, rfl, hn, q⟩ := h
  refine ⟨_, (xss_one (xs_if (xt_not (xt_val (xe_call (ok_is_integer T) (hr.mono (by first | decide | omega)) T.g_is_integer (kp T.f_is_integer) (xa_cons (xv 0) (xa_cons xe_int (xa_cons (xe_gint T.i_MAX_AMOUNT) xa_nil))))))
    (xss_one xs_never)
    xss_nil)), ?_⟩
  walk_at "dl"
  refine ⟨_, 0, 1000000000000, rfl, rfl, ?_⟩
  have e : DL.isInt (.int n) 0 1000000000000 = true := by have := hn.1; have := hn.2; simp [DL.isInt]; omega
  rw [e]
  walk_at "dl"
  exact dq q
theorem ok_Rule_charge (T : Txt K mg base) : FnD P w K mg base 3 (He.ma K (He.ga K "Rule") "charge") spS_Rule_charge := by
  obtain ⟨fd, F⟩ := T.f_Rule_charge
  refine fnStar (k := 2) (ps := ["self"]) (sp := sp_Rule_charge) F sc_Rule_charge (fun kV doc pm an cdv ct => StX.bind_star1 (B := fun us => bindArgs (PySem.W.fnOf _ _ _ _ _ .none kV doc pm an cdv ct) ⟨us, []⟩) (fun _ => rfl) (fun _ _ _ => rfl)) fun cdv A outer s H E Φ ξ ok ds μ Q hr h => ?_
  obtain ⟨c, b, ns, rfl, hr1, hl, hn, q⟩ := h
  refine ⟨_, (xss_cons (xs_for PassesOwn.leaving (xi_seq (xv 1)) (xg_name (i := 2) sc_Rule_charge.nd)
    (xss_one (xs_expr (xe_call (ok_need_amount T) (hr.mono (by first | decide | omega)) T.g_need_amount (kp T.f_need_amount) (xa_cons (xv 2) xa_nil)))))
    (xss_one (xs_ret (xe_meth (xv 0) T.R.cl T.R.mRounded (ok_Rule_rounded T) (hr.mono (by first | decide | omega)) (xa_cons (xe_callB xc_sum T.z_sum (by decide +kernel) (xa_cons (xv 1) xa_nil)) xa_nil))))), ?_⟩
  walk_at "dl"
  refine for_in (fun i δ μ' => μ' = μ ∧ ∃ o, δ = [some (.rule c b), some (.tup (ns.map .int)), o]) ⟨rfl, _, rfl⟩ ?_ ?_
  · rintro i x _ _ hx ⟨rfl, o, rfl⟩
    obtain ⟨n, hn', rfl⟩ := List.mem_map.mp (List.mem_of_getElem? hx)
    walk_at "dl"
    exact ⟨n, rfl, hn n hn', rfl⟩
  · rintro _ _ ⟨rfl, o, rfl⟩
    walk_at "dl"
    refine ⟨ns, rfl, c, b, _, rfl, hr1, sum_nm hl hn, dq q⟩
theorem ok_law_cell_at (T : Txt K mg base) : FnD P w K mg base 1 (He.ga K "_law_cell_at") sp_law_cell_at := by
  obtain ⟨fd, F⟩ := T.f_law_cell_at
  refine fnD F sc_law_cell_at (F.bindsN fun _ _ _ _ _ _ us hl => match us, hl with | [_, _], _ => rfl) (fun ds μ Q ξ h => by obtain ⟨ns, k, rfl, hk, q⟩ := h; rfl) fun cdv hcd A outer s H E Φ ξ ok ds μ Q hr h => ?_
  obtain ⟨ns, k, rfl, hk, q⟩ := h
  refine ⟨_, (xss_cons (xs_if (xt_cmp xo_lt (xv 1) (xe_callB xc_len T.z_len (by decide +kernel) (xa_cons (xv 0) xa_nil)) (nomark _))
    (xss_one (xs_ret (xe_ix (xv 0) (xv 1))))
    xss_nil)
    (xss_one (xs_ret xe_int))), ?_⟩
  walk_at "dl"
  split
  · rename_i h
    obtain ⟨x, hx, hm⟩ := atI_of (xs := ns.map D.int) hk (by rw [List.length_map]; exact h)
    obtain ⟨y, hy, rfl⟩ := List.mem_map.mp hm
    exact ⟨_, hx, dq (q y (.inl hy))⟩
  · exact dq (q 0 (.inr rfl))
theorem ok_law_draws (T : Txt K mg base) : FnD P w K mg base 1 (He.ga K "_law_draws") sp_law_draws := by
  obtain ⟨fd, F⟩ := T.f_law_draws
  refine fnD F sc_law_draws (F.bindsN fun _ _ _ _ _ _ us hl => match us, hl with | [_, _, _], _ => rfl) (fun ds μ Q ξ h => by obtain ⟨z, n, m, rfl, hz, hn, hn2, hm, hm2, q⟩ := h; rfl) fun cdv hcd A outer s H E Φ ξ ok ds μ Q hr h => ?_
  obtain ⟨z, n, m, rfl, hz, hn, hn2, hm, hm2, q⟩ := h
  refine ⟨_, (xss_cons (xs_set (i := 3) sc_law_draws.nd (xe_lstM xa_nil))
    (xss_cons (xs_set (i := 4) sc_law_draws.nd (xe_op xo_mul (xv 0) (xe_callTy xc_int T.z_int (by decide +kernel) (xa_cons (xe_cmp xo_ge (xv 0) (xe_op xo_pow xe_int xe_int) (nomark _)) xa_nil))))
    (xss_cons (xs_set (i := 5) sc_law_draws.nd (xe_op xo_mod (xv 0) xe_int))
    (xss_cons (xs_for PassesOwn.leaving (xi_rng1 T.z_range (xa_cons (xe_op xo_add (xv 1) xe_int) xa_nil)) (xg_name (i := 6) sc_law_draws.nd)
    (xss_cons (xs_set (i := 5) sc_law_draws.nd (xe_op xo_mod (xe_op xo_add (xe_op xo_add (xe_op xo_add (xe_op xo_mul (xv 5) (xv 5)) (xe_op xo_mul xe_int (xv 5))) (xv 6)) xe_int) xe_int))
    (xss_one (xs_if (XW.pt (xw_and (xt_cmp xo_gt (xv 6) xe_int (nomark _)) (xw_and1 (xt_cmp xo_gt (xv 4) xe_int (nomark _)))))
    (xss_cons (xs_expr (xe_append (xv 3) (xe_op xo_mod (xv 4) (xv 2))))
    (xss_one (xs_set (i := 4) sc_law_draws.nd (xe_op xo_fdiv (xv 4) (xv 2)))))
    (xss_one (xs_if (xt_cmp xo_gt (xv 6) xe_int (nomark _))
    (xss_one (xs_expr (xe_append (xv 3) (xe_op xo_mod (xe_op xo_fdiv (xv 5) xe_int) (xv 2)))))
    xss_nil))))))
    (xss_one (xs_retF (xv 3))))))), ?_⟩
  walk_at "dl"
  intro p hp
  refine ⟨?_, ?_⟩
  · have hz' : Builtin.Int.intBits z ≤ 1048576 := hz
    unfold CMulX
    split
    · have : Builtin.Int.intBits 1 ≤ 64 := by decide
      omega
    · have : Builtin.Int.intBits 0 ≤ 64 := by decide
      omega
  · refine ⟨by omega, by omega, ?_⟩
    refine for_rng (fun i δ μ' => ∃ (r s : Int) (o : Option D) (acc : List Int), δ = [some (.int z), some (.int n), some (.int m), some (.ref p), some (.int r), some (.int s), o] ∧ μ' = updM μ p (some (.lst (acc.map .int))) ∧ 0 ≤ s ∧ s < 2305843009213693951 ∧ acc.length = i - 3 ∧ ∀ x ∈ acc, 0 ≤ x ∧ x < m) ⟨_, _, _, [], rfl, rfl, Int.emod_nonneg _ (by decide), Int.emod_lt_of_pos _ (by decide), rfl, fun x hx => by cases hx⟩ ?_ ?_
    · rintro i _ _ hi ⟨r, s, o, acc, rfl, rfl, h0, h1, hl, hx⟩
      have hs : ∀ t : Int, 0 ≤ t % 2305843009213693951 ∧ t % 2305843009213693951 < 2305843009213693951 := fun t => ⟨Int.emod_nonneg _ (by decide), Int.emod_lt_of_pos _ (by decide)⟩
      have ha : ∀ t : Int, ∀ x ∈ acc ++ [t % m], 0 ≤ x ∧ x < m := fun t x hx' => by
        rcases List.mem_append.mp hx' with h | h
        · exact hx x h
        · rw [List.mem_singleton.mp h]; exact ⟨Int.emod_nonneg _ (by omega), Int.emod_lt_of_pos _ hm⟩
      have hd : ∀ t : Int, CDivW t m := fun t => big_div t hm (by omega)
      walk_at "dl"
      refine ⟨big_mul (by omega) (by omega) (by omega) (by omega), big_mul (by omega) (by omega) (by omega) (by omega), ?_⟩
      have happ : ∀ t : Int, List.map D.int acc ++ [D.int t] = List.map D.int (acc ++ [t]) := fun t => by simp
      split
      · rename_i h2
        split
        · refine ⟨hm, by omega, hd _, acc ++ [r % m], by rw [happ], (hs _).1, (hs _).2, by rw [List.length_append, List.length_singleton]; omega, ha _⟩
        · refine ⟨big_div _ (by decide) (by decide), hm, by omega, acc ++ [_ % m], by rw [happ], (hs _).1, (hs _).2, by rw [List.length_append, List.length_singleton]; omega, ha _⟩
      · rename_i h2
        exact ⟨acc, rfl, (hs _).1, (hs _).2, by omega, hx⟩
    · rintro _ _ ⟨r, s, o, acc, rfl, rfl, h0, h1, hl, hx⟩
      walk_at "dl"
      rw [updM_none hp]
      exact dq (q acc (by omega) hx)
theorem ok_law_bag (T : Txt K mg base) : FnD P w K mg base 2 (He.ga K "_law_bag") sp_law_bag := by
  obtain ⟨fd, F⟩ := T.f_law_bag
  refine fnD F sc_law_bag (F.bindsN fun _ _ _ _ _ _ us hl => match us, hl with | [_, _], _ => rfl) (fun ds μ Q ξ h => by obtain ⟨ns, k, rfl, hk, hb, q⟩ := h; rfl) fun cdv hcd A outer s H E Φ ξ ok ds μ Q hr h => ?_
  obtain ⟨ns, k, rfl, hk, hb, q⟩ := h
  refine ⟨_, (xss_one (xs_ret (xe_lstM (xa_cons (xe_call (ok_law_draws T) (hr.mono (by first | decide | omega)) T.g_law_draws (kp T.f_law_draws) (xa_cons (xe_call (ok_law_cell_at T) (hr.mono (by first | decide | omega)) T.g_law_cell_at (kp T.f_law_cell_at) (xa_cons (xv 0) (xa_cons (xv 1) xa_nil))) (xa_cons xe_int (xa_cons xe_int xa_nil)))) (xa_cons xe_int xa_nil))))), ?_⟩
  walk_at "dl"
  refine ⟨ns, k, rfl, hk, fun z hz => ?_⟩
  have hz' : Bits z := by
    rcases hz with h | h
    · exact hb z h
    · subst h; show Builtin.Int.intBits 0 ≤ 1048576; decide
  refine ⟨z, 400, 1000, rfl, hz', by decide, by decide, by decide, by decide, fun ds hl hr => ?_⟩
  walk_at "dl"
  exact fun p hp => dq (q p ds hp ⟨by omega, hr⟩)
theorem ok_law_bags (T : Txt K mg base) : FnD P w K mg base 3 (He.ga K "_law_bags") sp_law_bags := by
  obtain ⟨fd, F⟩ := T.f_law_bags
  refine fnD F sc_law_bags (F.bindsN fun _ _ _ _ _ _ us hl => match us, hl with | [_, _], _ => rfl) (fun ds μ Q ξ h => by obtain ⟨ns, k, rfl, hk, hl, hb, q⟩ := h; rfl) fun cdv hcd A outer s H E Φ ξ ok ds μ Q hr h => ?_
  obtain ⟨ns, k, rfl, hk, hl, hb, q⟩ := h
  refine ⟨_, (xss_one (xs_ret (xe_lcB [(("k" : Str), 2)] sc_law_bags.nd (blkOk_by (own := [(("k" : Str), 2)]) (by rfl)) (xi_rng1 T.z_range (xa_cons (xe_callB (xc_max rfl) T.z_max (by decide +kernel) (xa_cons xe_int (xa_cons (xe_callB (xc_min rfl) T.z_min (by decide +kernel) (xa_cons (xv 1) (xa_cons (xe_callB xc_len T.z_len (by decide +kernel) (xa_cons (xv 0) xa_nil)) xa_nil))) xa_nil))) xa_nil)) (fun _ _ _ _ _ => (xg_name (i := 2) sc_law_bags.nd)) (fun _ _ _ _ _ => by exact xts_nil) (fun _ _ _ _ _ => by exact (xe_call (ok_law_bag T) (hr.mono (by first | decide | omega)) T.g_law_bag (kp T.f_law_bag) (xa_cons (xv 0) (xa_cons (xv 2) xa_nil))))))), ?_⟩
  walk_at "dl"
  refine ⟨by omega, by omega, fun L hL => ?_⟩
  refine ⟨fun i μ' => ∃ ps : List Addr, μ' L = some (.lst (ps.map .ref)) ∧ ps.length = i ∧ Less μ μ' ∧ (∀ p ∈ ps, Bag μ' p ∧ μ p = none ∧ p ≠ L), ⟨[], updM_same, rfl, Less.new hL, fun p hp => by cases hp⟩, ?_, ?_⟩
  · rintro i x μ' hx ⟨ps, h1, h2, h3, h4⟩
    obtain ⟨hi, rfl⟩ := rng_get hx
    walk_at "dl"
    refine ⟨ns, i, rfl, by omega, hb, fun p dr hp ho => ?_⟩
    have hpL : L ≠ p := fun e => by rw [← e, h1] at hp; cases hp
    have hμp : μ p = none := by
      cases e : μ p with
      | none => rfl
      | some m => rw [h3 _ _ e] at hp; cases hp
    refine ⟨ps.map .ref, by rw [updM_ne hpL]; exact h1, by rw [List.length_map]; omega, ps ++ [p], by simp, by simp [h2], (h3.put hμp).put hL, fun p' hp' => ?_⟩
    rcases List.mem_append.mp hp' with h | h
    · obtain ⟨⟨dr', i', e', o', z'⟩, hn', hne⟩ := h4 p' h
      refine ⟨⟨dr', i', ?_, o', z'⟩, hn', hne⟩
      rw [updM_ne hne, updM_ne (fun e => by rw [e, hp] at e'; cases e')]
      exact e'
    · rw [List.mem_singleton.mp h]
      exact ⟨⟨dr, 0, by rw [updM_ne (Ne.symm hpL)]; exact updM_same, ho, by decide⟩, hμp, Ne.symm hpL⟩
  · rintro μ' ⟨ps, h1, h2, h3, h4⟩
    refine ⟨_, h1, dq (q ps _ (h3.put hL) (fun p hp => ?_) fun p hp => (h4 p hp).2.1)⟩
    obtain ⟨⟨dr, i, e, o, z⟩, _, hne⟩ := h4 p hp
    exact ⟨dr, i, by rw [updM_ne hne]; exact e, o, z⟩
theorem ok_law_take (T : Txt K mg base) : FnD P w K mg base 1 (He.ga K "_law_take") sp_law_take := by
  obtain ⟨fd, F⟩ := T.f_law_take
  refine fnD F sc_law_take (F.bindsN fun _ _ _ _ _ _ us hl => match us, hl with | [_, _], _ => rfl) (fun ds μ Q ξ h => by obtain ⟨p, m, rfl, hp, hm, q⟩ := h; rfl) fun cdv hcd A outer s H E Φ ξ ok ds μ Q hr h => ?_
  obtain ⟨p, m, rfl, hp, hm, q⟩ := h
  refine ⟨_, (xss_cons (xs_asg (xe_op xo_add (xe_ix (xv 0) xe_int) xe_int) (xg_sub (xv 0) xe_int))
    (xss_one (xs_ret (xe_op xo_mod (xe_ix (xe_ix (xv 0) xe_int) (xe_op xo_mod (xe_ix (xv 0) xe_int) (xe_callB xc_len T.z_len (by decide +kernel) (xa_cons (xe_ix (xv 0) xe_int) xa_nil)))) (xv 1))))), ?_⟩
  obtain ⟨ns, i, hp, ho, hi⟩ := hp
  unfold bagM at hp
  walk_at "dls"
  have hl := ho.len
  obtain ⟨x, hx, hm'⟩ := atI_of (xs := ns.map D.int) (i := (i + 1) % (ns.length : Int)) (Int.emod_nonneg _ (by omega)) (by rw [List.length_map]; exact Int.emod_lt_of_pos _ (by omega))
  obtain ⟨y, hy, rfl⟩ := List.mem_map.mp hm'
  refine ⟨by omega, _, hx, y, rfl, ?_⟩
  exact dq (q _ _ (Int.emod_nonneg _ (by omega)) (Int.emod_lt_of_pos _ hm) ⟨ns, i + 1, ho, by omega, rfl⟩)
theorem ok_law_far_draw (T : Txt K mg base) : FnD P w K mg base 2 (He.ga K "_law_far_draw") sp_law_far_draw := by
  obtain ⟨fd, F⟩ := T.f_law_far_draw
  refine fnD F sc_law_far_draw (F.bindsN fun _ _ _ _ _ _ us hl => match us, hl with | [_, _], _ => rfl) (fun ds μ Q ξ h => by obtain ⟨p, m, rfl, hp, hm, hm2, q⟩ := h; rfl) fun cdv hcd A outer s H E Φ ξ ok ds μ Q hr h => ?_
  obtain ⟨p, m, rfl, hp, hm, hm2, q⟩ := h
  refine ⟨_, (xss_cons (xs_par (i := 2) (j := 3) sc_law_far_draw.nd (xa_cons xe_int (xa_cons (xv 1) xa_nil)))
    (xss_cons (xs_while PassesOwn.leaving (xt_cmp xo_gt (xv 3) xe_int (nomark _))
    (xss_one (xs_par (i := 2) (j := 3) sc_law_far_draw.nd (xa_cons (xe_op xo_add (xe_op xo_mul xe_int (xv 2)) (xe_call (ok_law_take T) (hr.mono (by first | decide | omega)) T.g_law_take (kp T.f_law_take) (xa_cons (xv 0) (xa_cons xe_int xa_nil)))) (xa_cons (xe_op xo_fdiv (xv 3) xe_int) xa_nil)))))
    (xss_one (xs_ret (xe_ix (xe_lst (xa_cons (xe_op xo_mod (xv 2) (xv 1)) (xa_cons xe_int (xa_cons (xe_op xo_sub (xv 1) xe_int) (xa_cons (xe_op xo_mod (xv 2) (xv 1)) xa_nil))))) (xe_call (ok_law_take T) (hr.mono (by first | decide | omega)) T.g_law_take (kp T.f_law_take) (xa_cons (xv 0) (xa_cons xe_int xa_nil)))))))), ?_⟩
  walk_at "dl"
  refine while_in (fun k δ μ' => ∃ f n : Int, δ = [some (.ref p), some (.int m), some (.int f), some (.int n)] ∧ n.toNat = k ∧ 0 ≤ f ∧ 0 ≤ n ∧ (f + 1) * n ≤ m ∧ BagStep p μ μ') m.toNat ⟨0, m, rfl, rfl, by decide, by omega, by omega, BagStep.refl hp⟩ ?_
  rintro k _ μ1 ⟨f, n, rfl, hk, hf, hn, hfn, b1⟩
  walk_at "dl"
  split
  · rename_i h
    have := far_le hfn hf h
    refine ⟨big_mul (by omega) (by omega) (by omega) (by omega), p, 1000, rfl, b1.bag, by decide, fun a μ2 ha0 ha b2 => ?_⟩
    walk_at "dl"
    exact ⟨big_div _ (by decide) (by decide), _, by omega, rfl, by omega, by omega, far_step hfn hf h ha ha0, b1.trans b2⟩
  · refine ⟨hm, p, 4, rfl, b1.bag, by decide, fun a μ2 ha0 ha b2 => ?_⟩
    have hr := Int.emod_nonneg f (show m ≠ 0 by omega)
    have hr2 := Int.emod_lt_of_pos f hm
    rcases (by omega : a = 0 ∨ a = 1 ∨ a = 2 ∨ a = 3) with rfl | rfl | rfl | rfl
    · exact ⟨_, rfl, _, rfl, dq (q _ _ hr hr2 (b1.trans b2))⟩
    · exact ⟨_, rfl, _, rfl, dq (q _ _ (by omega) hm (b1.trans b2))⟩
    · exact ⟨_, rfl, _, rfl, dq (q _ _ (by omega) (by omega) (b1.trans b2))⟩
    · exact ⟨_, rfl, _, rfl, dq (q _ _ hr hr2 (b1.trans b2))⟩
theorem ok_law_basket (T : Txt K mg base) : FnD P w K mg base 3 (He.ga K "_law_basket") sp_law_basket := by
  obtain ⟨fd, F⟩ := T.f_law_basket
  refine fnD F sc_law_basket (F.bindsN fun _ _ _ _ _ _ us hl => match us, hl with | [_, _, _], _ => rfl) (fun ds μ Q ξ h => by obtain ⟨p, c, b, m, rfl, hp, hru, hm, hm2, q⟩ := h; rfl) fun cdv hcd A outer s H E Φ ξ ok ds μ Q hr h => ?_
  obtain ⟨p, c, b, m, rfl, hp, hru, hm, hm2, q⟩ := h
  refine ⟨_, (xss_cons (xs_set (i := 3) sc_law_basket.nd (xe_tup xa_nil))
    (xss_cons (xs_for PassesOwn.leaving (xi_rng1 T.z_range (xa_cons (xe_call (ok_law_take T) (hr.mono (by first | decide | omega)) T.g_law_take (kp T.f_law_take) (xa_cons (xv 0) (xa_cons (xe_op xo_add (xv 2) xe_int) xa_nil))) xa_nil)) (xg_name (i := 4) sc_law_basket.nd)
    (xss_cons (xs_par (i := 5) (j := 6) sc_law_basket.nd (xa_cons (xe_call (ok_law_take T) (hr.mono (by first | decide | omega)) T.g_law_take (kp T.f_law_take) (xa_cons (xv 0) (xa_cons (xe_op xo_mul xe_int (xe_ix (xv 1) xe_int)) xa_nil))) (xa_cons (xe_callB (xc_max rfl) T.z_max (by decide +kernel) (xa_cons xe_int (xa_cons (xe_op xo_add (xe_op xo_sub (xe_ix (xv 1) xe_int) xe_int) (xe_call (ok_law_take T) (hr.mono (by first | decide | omega)) T.g_law_take (kp T.f_law_take) (xa_cons (xv 0) (xa_cons xe_int xa_nil)))) xa_nil))) xa_nil)))
    (xss_cons (xs_set (i := 7) sc_law_basket.nd (xe_lst (xa_cons (xv 5) (xa_cons (xv 6) (xa_cons (xv 5) (xa_cons (xe_call (ok_law_far_draw T) (hr.mono (by first | decide | omega)) T.g_law_far_draw (kp T.f_law_far_draw) (xa_cons (xv 0) (xa_cons (xe_op xo_add (xe_op xo_pow xe_int xe_int) xe_int) xa_nil))) xa_nil))))))
    (xss_one (xs_set (i := 3) sc_law_basket.nd (xe_op xo_add (xv 3) (xe_tup (xa_cons (xe_ix (xv 7) (xe_call (ok_law_take T) (hr.mono (by first | decide | omega)) T.g_law_take (kp T.f_law_take) (xa_cons (xv 0) (xa_cons xe_int xa_nil)))) xa_nil))))))))
    (xss_one (xs_ret (xv 3))))), ?_⟩
  have h1 := hru.1; have h2 := hru.2.1; have h3 := hru.2.2.1; have h4 := hru.2.2.2
  walk_at "dl"
  refine ⟨p, m + 1, rfl, hp, by omega, fun r μ1 r0 r1 b1 => ⟨r, rfl, by omega, by omega, ?_⟩⟩
  refine for_rng (fun i δ μ' => ∃ bk : List Int, bk.length = i ∧ (∀ x ∈ bk, Amt x) ∧ BagStep p μ μ' ∧ ∃ x_turn x_small x_near x_some : Option D, δ = [some (.ref p), some (.tup [.int c, .int b]), some (.int m), some (.tup (bk.map .int)), x_turn, x_small, x_near, x_some]) ⟨[], rfl, (fun x h => by cases h), b1, _, _, _, _, rfl⟩ ?_ ?_
  · rintro i _ μ2 hi ⟨bk, hl, ha, b2, x_turn, x_small, x_near, x_some, rfl⟩
    walk_at "dl"
    refine ⟨big_mul (by omega) (by omega) (by omega) (by omega), p, 2 * c, rfl, b2.bag, by omega, fun t μ3 t0 t1 b3 => ?_⟩
    walk_at "dl"
    refine ⟨p, 3, rfl, b3.bag, by decide, fun u μ4 u0 u1 b4 => ?_⟩
    walk_at "dl"
    refine ⟨p, _, rfl, b4.bag, by decide, by decide, fun f μ5 f0 f1 b5 => ?_⟩
    walk_at "dl"
    refine ⟨p, 4, rfl, b5.bag, by decide, fun k μ6 k0 k1 b6 => ?_⟩
    have bb := (((b2.trans b3).trans b4).trans b5).trans b6
    have fin : ∀ x : Int, Amt x → bk.length ≤ 16777215 ∧ ∃ bk_1 : List Int, bk_1.length = i + 1 ∧ (∀ x ∈ bk_1, Amt x) ∧ BagStep p μ μ6 ∧ List.map D.int bk ++ [D.int x] = List.map D.int bk_1 := fun x hx => ⟨by omega, bk ++ [x], by simp [hl], fun y hy => by
      rcases List.mem_append.mp hy with h | h
      · exact ha y h
      · rw [List.mem_singleton.mp h]; exact hx, bb, by simp⟩
    rcases (by omega : k = 0 ∨ k = 1 ∨ k = 2 ∨ k = 3) with rfl | rfl | rfl | rfl
    · exact ⟨_, rfl, _, atI_0, fin t ⟨t0, by omega⟩⟩
    · exact ⟨_, rfl, _, atI_1, fin _ ⟨by omega, by omega⟩⟩
    · exact ⟨_, rfl, _, atI_2, fin t ⟨t0, by omega⟩⟩
    · exact ⟨_, rfl, _, atI_3, fin f ⟨f0, by omega⟩⟩
  · rintro _ μ2 ⟨bk, hl, ha, b2, x_turn, x_small, x_near, x_some, rfl⟩
    walk_at "dl"
    exact dq (q bk μ2 (by omega) ha b2)
theorem ok_law_rounded (T : Txt K mg base) : FnD P w K mg base 1 (He.ga K "_law_rounded") sp_law_rounded := by
  obtain ⟨fd, F⟩ := T.f_law_rounded
  refine fnD F sc_law_rounded (F.bindsN fun _ _ _ _ _ _ us hl => match us, hl with | [_, _], _ => rfl) (fun ds μ Q ξ h => by obtain ⟨c, b, w, rfl, h1, q⟩ := h; rfl) fun cdv hcd A outer s H E Φ ξ ok ds μ Q hr h => ?_
  obtain ⟨c, b, w, rfl, h1, q⟩ := h
  refine ⟨_, (xss_cons (xs_asg (xv 0) (xg_tup (n := 2) (xgs_cons (xg_name (i := 2) sc_law_rounded.nd) (xgs_cons (xg_name (i := 3) sc_law_rounded.nd) xgs_nil))))
    (xss_cons (xs_set (i := 4) sc_law_rounded.nd (xe_op xo_mod (xv 1) (xv 2)))
    (xss_one (xs_ret (xe_ifExp (xt_cmp xo_lt (xv 4) (xv 3) (nomark _)) (xe_op xo_sub (xv 1) (xv 4)) (xe_op xo_add (xe_op xo_sub (xv 1) (xv 4)) (xv 2))))))), ?_⟩
  walk_at "dl"
  refine ⟨h1, ?_⟩
  unfold rndL at q
  split <;> rename_i hc <;> simp only [hc, if_true, if_false] at q <;> exact dq q
theorem ok_law_rule (T : Txt K mg base) : FnD P w K mg base 2 (He.ga K "_law_rule") sp_law_rule := by
  obtain ⟨fd, F⟩ := T.f_law_rule
  refine fnD F sc_law_rule (F.bindsN fun _ _ _ _ _ _ us hl => match us, hl with | [_, _], _ => rfl) (fun ds μ Q ξ h => by obtain ⟨p, m, rfl, hp, hm, q⟩ := h; rfl) fun cdv hcd A outer s H E Φ ξ ok ds μ Q hr h => ?_
  obtain ⟨p, m, rfl, hp, hm, q⟩ := h
  refine ⟨_, (xss_cons (xs_set (i := 2) sc_law_rule.nd (xe_op xo_add xe_int (xe_call (ok_law_take T) (hr.mono (by first | decide | omega)) T.g_law_take (kp T.f_law_take) (xa_cons (xv 0) (xa_cons (xe_op xo_sub (xv 1) xe_int) xa_nil)))))
    (xss_one (xs_ret (xe_tup (xa_cons (xv 2) (xa_cons (xe_op xo_add xe_int (xe_call (ok_law_take T) (hr.mono (by first | decide | omega)) T.g_law_take (kp T.f_law_take) (xa_cons (xv 0) (xa_cons (xv 2) xa_nil)))) xa_nil)))))), ?_⟩
  walk_at "dl"
  refine ⟨p, m - 1, rfl, hp, by omega, fun r μ1 h0 h1 b1 => ?_⟩
  walk_at "dl"
  refine ⟨p, 2 + r, rfl, b1.bag, by omega, fun r2 μ2 h2 h3 b2 => ?_⟩
  walk_at "dl"
  exact dq (q (2 + r) (1 + r2) _ (by omega) (by omega) (by omega) (by omega) (b1.trans b2))

theorem ok_Search_init (T : Txt K mg base) : FnD P w K mg base 1 (He.ma K (He.ga K "Search") "__init__") (sp_Search_init K) := by
  obtain ⟨fd, F⟩ := T.f_Search_init
  refine fnD F sc_Search_init (F.bindsN fun _ _ _ _ _ _ us hl => match us, hl with | [_, _, _], _ => rfl) (fun ds μ Q ξ h => by obtain ⟨p, c, b, bk, rfl, hp, q⟩ := h; rfl) fun cdv hcd A outer s H E Φ ξ ok ds μ Q hr h => ?_
  obtain ⟨p, c, b, bk, rfl, hp, q⟩ := h
  refine ⟨_, (xss_cons (xs_fld (C := SC K) (xv 0) (xv 1) T.S.cl T.S.nR)
    (xss_cons (xs_fld (C := SC K) (xv 0) (xv 2) T.S.cl T.S.nB)
    (xss_one (xs_fld (C := SC K) (xv 0) xe_dnew T.S.cl T.S.nK)))), ?_⟩
  walk_at "dl"
  refine ⟨_, hp, by decide, ?_⟩
  have e1 : putD "basket_here" (D.tup (List.map D.int bk)) (putD "rule_here" (D.rule c b) []) = [(("rule_here" : Str), D.rule c b), (("basket_here" : Str), D.tup (bk.map D.int))] := rfl
  rw [e1]
  refine ⟨by show 1 < 1000; decide, fun d hd => ?_⟩
  have hpd : p ≠ d := fun e => by rw [← e, updM_same] at hd; cases hd
  refine ⟨[(("rule_here" : Str), D.rule c b), (("basket_here" : Str), D.tup (bk.map D.int))], by rw [updM_ne hpd, updM_same], by show 2 < 1000; decide, ?_⟩
  refine dq (q d _ (by rw [updM_ne (Ne.symm hpd)] at hd; exact hd) ?_ ?_ fun a h1 h2 => ?_)
  · rw [updM_same] <;> rfl
  · rw [updM_ne (Ne.symm hpd), updM_same]
  · rw [updM_ne h1, updM_ne h2, updM_ne h1]
theorem ok_Search_receipt (T : Txt K mg base) : FnD P w K mg base 2 (He.ma K (He.ga K "Search") "receipt") (sp_Search_receipt K) := by
  obtain ⟨fd, F⟩ := T.f_Search_receipt
  refine fnD F sc_Search_receipt (F.bindsN fun _ _ _ _ _ _ us hl => match us, hl with | [_, _], _ => rfl) (fun ds μ Q ξ h => by obtain ⟨p, d, c, b, bk, ch, rfl, hp, hok, hch, hl, q⟩ := h; rfl) fun cdv hcd A outer s H E Φ ξ ok ds μ Q hr h => ?_
  obtain ⟨p, d, c, b, bk, ch, rfl, hp, hok, hch, hl, q⟩ := h
  refine ⟨_, (xss_one (xs_ret (xe_meth (xe_fld (C := SC K) (xv 0) T.S.cl T.S.nR) T.R.cl T.R.mRounded (ok_Rule_rounded T) (hr.mono (by first | decide | omega)) (xa_cons (xe_callB xc_sum T.z_sum (by decide +kernel) (xa_cons (xe_lcB [(("index" : Str), 2)] sc_Search_receipt.nd (blkOk_by (own := [(("index" : Str), 2)]) (by rfl)) (xi_seq (xv 1)) (fun _ _ _ _ _ => (xg_name (i := 2) sc_Search_receipt.nd)) (fun _ _ _ _ _ => by exact xts_nil) (fun _ _ _ _ _ => by exact (xe_ix (xe_fld (C := SC K) (xv 0) T.S.cl T.S.nB) (xv 2)))) xa_nil)) xa_nil)))), ?_⟩
  unfold tupI
  walk_at "dl"
  refine ⟨_, fldS hp rfl, rcv_rounded, ?_⟩
  refine lc_mapL (l := ch) (fun i => D.int (bk.getD i.toNat 0)) (by omega) (fun i hi μ' Qy hl1 hy => ?_) fun μ' hl1 => ?_
  · walk_at "dl"
    refine ⟨_, fldS (hl1 _ _ hp) rfl, ?_⟩
    have h := hch i hi
    refine ⟨_, rfl, .int (bk.getD i.toNat 0), ?_, hy⟩
    rw [atI_eq h.1 (by rw [List.length_map]; exact h.2), List.getElem?_map, List.getD_eq_getElem?_getD]
    have : i.toNat < bk.length := by omega
    rw [List.getElem?_eq_getElem this]
    rfl
  · have e : ch.map (fun i => D.int (bk.getD i.toNat 0)) = (ch.map fun i => bk.getD i.toNat 0).map D.int := by rw [List.map_map] <;> rfl
    have hs := sumAt_amt hok.amt ch
    refine ⟨ch.map fun i => bk.getD i.toNat 0, by rw [e] <;> rfl, c, b, sumAt bk ch, rfl, hok.ru, ⟨by omega, by omega⟩, ?_⟩
    exact ⟨μ, hl1, q⟩
theorem ok_partings (T : Txt K mg base) : FnD P w K mg base 1 (He.ga K "partings") sp_partings := by
  obtain ⟨fd, F⟩ := T.f_partings
  refine fnD F sc_partings (F.bindsN fun _ _ _ _ _ _ us hl => match us, hl with | [_], _ => rfl) (fun ds μ Q ξ h => by obtain ⟨items, rfl, hne, hl, q⟩ := h; rfl) fun cdv hcd A outer s H E Φ ξ ok ds μ Q hr h => ?_
  obtain ⟨items, rfl, hne, hl, q⟩ := h
  refine ⟨_, (xss_cons (xs_set (i := 1) sc_partings.nd (xe_lst (xa_cons (xe_tup (xa_cons (xe_tup (xa_cons (xe_ix (xv 0) xe_int) xa_nil)) (xa_cons (xe_tup xa_nil) xa_nil))) xa_nil)))
    (xss_cons (xs_for PassesOwn.leaving (xi_seq (xe_slice (xv 0) (xp_some xe_int) xp_none)) (xg_name (i := 2) sc_partings.nd)
    (xss_cons (xs_setLcB (i := 3) [(("chosen" : Str), 4), (("left" : Str), 5)] sc_partings.nd (sw_true rfl rfl rfl (by rfl)) (blkOk_by (own := [(("chosen" : Str), 4), (("left" : Str), 5)]) (by rfl)) (xi_seq (xv 1)) (fun _ _ _ _ _ => (xg_tup (n := 2) (xgs_cons (xg_name (i := 4) sc_partings.nd) (xgs_cons (xg_name (i := 5) sc_partings.nd) xgs_nil)))) (fun _ _ _ _ _ => by exact xts_nil) (fun _ _ _ _ _ => by exact (xe_tup (xa_cons (xe_op xo_add (xv 4) (xe_tup (xa_cons (xv 2) xa_nil))) (xa_cons (xv 5) xa_nil)))))
    (xss_one (xs_set (i := 1) sc_partings.nd (xe_op xo_add (xv 3) (xe_lcB [(("chosen" : Str), 4), (("left" : Str), 5)] sc_partings.nd (blkOk_by (own := [(("chosen" : Str), 4), (("left" : Str), 5)]) (by rfl)) (xi_seq (xv 1)) (fun _ _ _ _ _ => (xg_tup (n := 2) (xgs_cons (xg_name (i := 4) sc_partings.nd) (xgs_cons (xg_name (i := 5) sc_partings.nd) xgs_nil)))) (fun _ _ _ _ _ => by exact xts_nil) (fun _ _ _ _ _ => by exact (xe_tup (xa_cons (xv 4) (xa_cons (xe_op xo_add (xv 5) (xe_tup (xa_cons (xv 2) xa_nil))) xa_nil))))))))))
    (xss_one (xs_ret (xe_callB (xc_sort hr.units) T.z_sorted (by decide +kernel) (xa_cons (xv 1) xa_nil)))))), ?_⟩
  obtain ⟨x, xs, rfl⟩ : ∃ x xs, items = x :: xs := by
    cases items with
    | nil => exact absurd rfl hne
    | cons x xs => exact ⟨x, xs, rfl⟩
  unfold tupI
  walk_at "dl"
  rw [cutD_tail]
  have hxl : xs.length ≤ 11 := by rw [List.length_cons] at hl; omega
  refine for_in (fun i δ μ' => Less μ μ' ∧ ∃ x_item x_more x_chosen x_left : Option D, δ = [some (.tup (.int x :: xs.map .int)), some (.lst (((xs.take i).foldl ptStep [([x], [])]).map encPr)), x_item, x_more, x_chosen, x_left]) ⟨Less.refl μ, _, _, _, _, rfl⟩ ?_ ?_
  · rintro i _ _ μ1 hx ⟨hl1, x_item, x_more, x_chosen, x_left, rfl⟩
    rw [List.getElem?_map] at hx
    cases hy : xs[i]? with
    | none => rw [hy] at hx; cases hx
    | some y =>
      rw [hy] at hx
      cases hx
      have hil := (List.getElem?_eq_some_iff.mp hy).1
      rw [take_snoc hy, List.foldl_append]
      have hF : ∀ p ∈ (xs.take i).foldl ptStep [([x], [])], p.1.length ≤ 12 ∧ p.2.length ≤ 11 := fun p hp => by
        have := pt_inv 1 0 (xs.take i) [([x], [])] (fun q hq => by rw [List.mem_singleton.mp hq]; exact ⟨Nat.le_refl _, Nat.le_refl _⟩) p hp
        rw [List.length_take] at this
        omega
      have hFl : ((xs.take i).foldl ptStep [([x], [])]).length ≤ 2048 := by
        rw [pt_len]
        have h1 : (xs.take i).length ≤ 11 := by rw [List.length_take]; omega
        have := Nat.pow_le_pow_right (n := 2) (by decide) h1
        simp only [List.length_cons, List.length_nil]
        omega
      generalize (xs.take i).foldl ptStep [([x], [])] = F at hF hFl
      try walk_at "dl"
      refine lc_map (l := F) (enc := encPr) (fun p => encPr (p.1 ++ [y], p.2)) (by omega) (fun p hp μ' Qy hy => ?_) fun μ2 hl2 => ?_
      · have h1 := hF p hp
        have e : encPr (p.1 ++ [y], p.2) = .tup [.tup (p.1.map .int ++ [.int y]), .tup (p.2.map .int)] := by simp [encPr, tupI]
        rw [e] at hy
        unfold encPr tupI
        walk_at "dl"
        exact ⟨by omega, hy⟩
      try walk_at "dl"
      refine lc_map (l := F) (enc := encPr) (fun p => encPr (p.1, p.2 ++ [y])) (by omega) (fun p hp μ' Qy hy => ?_) fun μ3 hl3 => ?_
      · have h1 := hF p hp
        have e : encPr (p.1, p.2 ++ [y]) = .tup [.tup (p.1.map .int), .tup (p.2.map .int ++ [.int y])] := by simp [encPr, tupI]
        rw [e] at hy
        unfold encPr tupI
        walk_at "dl"
        exact ⟨by omega, hy⟩
      try walk_at "dl"
      refine ⟨by omega, (hl1.trans hl2).trans hl3, ?_⟩
      simp [ptStep, Function.comp_def]
  · rintro _ μ1 ⟨hl1, x_item, x_more, x_chosen, x_left, rfl⟩
    rw [List.length_map, List.take_length]
    walk_at "dl"
    refine .inl ⟨List Int × List Int, _, partsU (x :: xs), encPr, pyPr, rfl, rfl, toPy_pr, PySem.W.AllAlike.of alike_pr, PySem.W.Sortable.tuples fun b => ⟨_, _, rfl⟩, fun b _ => depth_pr b, ?_⟩
    exact ⟨μ, hl1, q⟩
theorem ok_Search_bounds (T : Txt K mg base) : ∀ n : Nat, FnD P w K mg base (2 + n) (He.ma K (He.ga K "Search") "bounds") (sp_Search_bounds K n)
  | 0 => fnD_false fun ds μ Q ξ h => by obtain ⟨p, d, c, b, bk, items, kvs, rfl, hp, hd, hok, hsub, hlen, hkn, q⟩ := h; omega
  | n + 1 => by
    have IH := ok_Search_bounds T n
    show FnD P w K mg base (2 + n + 1) (He.ma K (He.ga K "Search") "bounds") _
    obtain ⟨fd, F⟩ := T.f_Search_bounds
    refine fnD F sc_Search_bounds (F.bindsN fun _ _ _ _ _ _ us hl => match us, hl with | [_, _], _ => rfl) (fun ds μ Q ξ h => by obtain ⟨p, d, c, b, bk, items, kvs, rfl, hp, hd, hok, hsub, hlen, hkn, q⟩ := h; rfl) fun cdv hcd A outer s H E Φ ξ ok ds μ Q hr h => ?_
    obtain ⟨p, d, c, b, bk, items, kvs, rfl, hp, hd, hok, hsub, hlen, hkn, q⟩ := h
    refine ⟨_, (xss_cons (xs_if (xt_cmp (xo_eq hr.units) (xv 1) (xe_tup xa_nil) (nomark _))
    (xss_one (xs_ret (xe_tup (xa_cons xe_int (xa_cons xe_int (xa_cons xe_int (xa_cons xe_int xa_nil)))))))
    xss_nil)
    (xss_cons (xs_cut (xs_if (xt_dnotin hr.units (xv 1) (xe_fld (C := SC K) (xv 0) T.S.cl T.S.nK))
    (xss_cons (xs_set (i := 2) sc_Search_bounds.nd (xe_lstM xa_nil))
    (xss_cons (xs_for PassesOwn.leaving (xi_seq (xe_call (ok_partings T) (hr.mono (by first | decide | omega)) T.g_partings (kp T.f_partings) (xa_cons (xv 1) xa_nil))) (xg_tup (n := 2) (xgs_cons (xg_name (i := 3) sc_Search_bounds.nd) (xgs_cons (xg_name (i := 4) sc_Search_bounds.nd) xgs_nil)))
    (xss_cons (xs_asg (xe_meth (xv 0) T.S.cl T.S.mBounds IH (hr.mono (by first | decide | omega)) (xa_cons (xv 4) xa_nil)) (xg_tup (n := 4) (xgs_cons (xg_name (i := 5) sc_Search_bounds.nd) (xgs_cons (xg_name (i := 6) sc_Search_bounds.nd) (xgs_cons (xg_name (i := 7) sc_Search_bounds.nd) (xgs_cons (xg_name (i := 8) sc_Search_bounds.nd) xgs_nil))))))
    (xss_cons (xs_set (i := 9) sc_Search_bounds.nd (xe_meth (xv 0) T.S.cl T.S.mReceipt (ok_Search_receipt T) (hr.mono (by first | decide | omega)) (xa_cons (xv 3) xa_nil)))
    (xss_one (xs_expr (xe_append (xv 2) (xe_tup (xa_cons (xe_op xo_add (xv 5) (xv 9)) (xa_cons (xe_op xo_add (xv 6) (xv 9)) (xa_cons (xe_op xo_add (xv 7) xe_int) (xa_cons (xv 8) xa_nil)))))))))))
    (xss_cons (xs_frz 2 (xs_set (i := 10) sc_Search_bounds.nd (xe_callB (xc_min rfl) T.z_min (by decide +kernel) (xa_cons (xe_lcB [(("row" : Str), 13)] sc_Search_bounds.nd (blkOk_by (own := [(("row" : Str), 13)]) (by rfl)) (xi_seq (xv 2)) (fun _ _ _ _ _ => (xg_name (i := 13) sc_Search_bounds.nd)) (fun _ _ _ _ _ => by exact xts_nil) (fun _ _ _ _ _ => by exact (xe_ix (xv 13) xe_int))) xa_nil))))
    (xss_cons (xs_setLcB (i := 11) [(("row" : Str), 13)] sc_Search_bounds.nd (sw_true rfl rfl rfl (by rfl)) (blkOk_by (own := [(("row" : Str), 13)]) (by rfl)) (xi_seq (xv 2)) (fun _ _ _ _ _ => (xg_name (i := 13) sc_Search_bounds.nd)) (fun _ _ _ _ _ => by exact (xts_one (xt_cmp (xo_eq hr.units) (xe_ix (xv 13) xe_int) (xv 10) (nomark _)))) (fun _ _ _ _ _ => by exact (xv 13)))
    (xss_cons (xs_set (i := 12) sc_Search_bounds.nd (xe_callB (xc_min rfl) T.z_min (by decide +kernel) (xa_cons (xe_lcB [(("row" : Str), 13)] sc_Search_bounds.nd (blkOk_by (own := [(("row" : Str), 13)]) (by rfl)) (xi_seq (xv 11)) (fun _ _ _ _ _ => (xg_name (i := 13) sc_Search_bounds.nd)) (fun _ _ _ _ _ => by exact xts_nil) (fun _ _ _ _ _ => by exact (xe_ix (xv 13) xe_int))) xa_nil)))
    (xss_one (xs_dput hr.units (xe_fld (C := SC K) (xv 0) T.S.cl T.S.nK) (xv 1) (xe_tup (xa_cons (xv 10) (xa_cons (xe_callB (xc_max rfl) T.z_max (by decide +kernel) (xa_cons (xe_lcB [(("row" : Str), 13)] sc_Search_bounds.nd (blkOk_by (own := [(("row" : Str), 13)]) (by rfl)) (xi_seq (xv 2)) (fun _ _ _ _ _ => (xg_name (i := 13) sc_Search_bounds.nd)) (fun _ _ _ _ _ => by exact xts_nil) (fun _ _ _ _ _ => by exact (xe_ix (xv 13) xe_int))) xa_nil)) (xa_cons (xv 12) (xa_cons (xe_callB xc_sum T.z_sum (by decide +kernel) (xa_cons (xe_lcB [(("row" : Str), 13)] sc_Search_bounds.nd (blkOk_by (own := [(("row" : Str), 13)]) (by rfl)) (xi_seq (xv 11)) (fun _ _ _ _ _ => (xg_name (i := 13) sc_Search_bounds.nd)) (fun _ _ _ _ _ => by exact xts_nil) (fun _ _ _ _ _ => by exact (xe_ix (xv 13) xe_int))) xa_nil)) xa_nil))))))))))))
    xss_nil))
    (xss_one (xs_ret (xe_dget hr.units (xe_fld (C := SC K) (xv 0) T.S.cl T.S.nK) (xv 1)))))), ?_⟩
    have hpd : p ≠ d := fun e => by rw [e, hd] at hp; cases hp
    unfold tupI
    walk_at "dl"
    refine fEq_en (enTup enI) (a := items) (b := []) ?_
    walk_at "dl"
    split
    · rename_i e
      subst e
      refine dq ?_
      have := q (0, 0, 0, 1) kvs (BOk.nil _) hkn
      rw [updM_id hd] at this
      exact this
    · rename_i hne
      have hlen2 : items.length ≤ 10 := by
        have := hsub.length_le
        rw [upN_len] at this
        have := hok.len
        omega
      refine cut_in (fun δ μ' => ∃ x_rows x_chosen x_left x_low x_high x_receipts x_ways x_paid x_least x_good x_fewest x_row : Option D, δ = [some (.ref p), some (.tup (items.map .int)), x_rows, x_chosen, x_left, x_low, x_high, x_receipts, x_ways, x_paid, x_least, x_good, x_fewest, x_row] ∧ ∃ q' kvs', Known (fc c b bk) (upN bk.length) kvs' ∧ BOk (fc c b bk) items q' ∧ getD kvs' (kys items) = some (encQ q') ∧ Less (updM μ d (some (.dct kvs'))) μ') ?_ ?_
      · walk_at "dl"
        refine ⟨_, fldS hp rfl, kvs, kys items, ⟨⟨d, rfl, hd⟩, by rw [kys_D]⟩, ?_⟩
        cases hg : getD kvs (kys items) with
        | some dv =>
          obtain ⟨q', rfl, hb'⟩ := hkn.get hg
          rw [if_neg (by simp)]
          exact ⟨q', kvs, hkn, hb', hg, by rw [updM_id hd]; exact Less.refl μ⟩
        | none =>
          rw [if_pos rfl]
          try walk_at "dl"
          intro r hr0
          have hrd : r ≠ d := fun e => by rw [e, hd] at hr0; cases hr0
          have hrp : p ≠ r := fun e => by rw [← e, hp] at hr0; cases hr0
          refine ⟨items, rfl, hne, by omega, _, .inl rfl, ?_⟩
          refine for_in (fun i δ μ' => ∃ x_chosen x_left x_low x_high x_receipts x_ways x_paid x_least x_good x_fewest x_row : Option D, δ = [some (.ref p), some (.tup (items.map .int)), some (.ref r), x_chosen, x_left, x_low, x_high, x_receipts, x_ways, x_paid, x_least, x_good, x_fewest, x_row] ∧ ∃ R : List Rw, R.map (·.1) = (parts items).take i ∧ (∀ z ∈ R, BOk (fc c b bk) z.1.2 z.2) ∧ ∃ kvs' : List (List Key × D), Known (fc c b bk) (upN bk.length) kvs' ∧ Less (updM μ d (some (.dct kvs'))) μ' ∧ μ' r = some (.lst ((R.map (rowQ (fc c b bk))).map encQ))) ⟨_, _, _, _, _, _, _, _, _, _, _, rfl, [], rfl, (fun z h => by cases h), kvs, hkn, by rw [updM_id hd]; exact Less.new hr0, updM_same⟩ ?_ ?_
          · rintro i x _ μ1 hx ⟨x_chosen, x_left, x_low, x_high, x_receipts, x_ways, x_paid, x_least, x_good, x_fewest, x_row, rfl, R, hR, hB, kvs1, hk1, hl1, hr1⟩
            rw [List.getElem?_map] at hx
            cases hpr : (parts items)[i]? with
            | none => rw [hpr] at hx; cases hx
            | some pr =>
              rw [hpr] at hx
              cases hx
              have hprm := mem_parts.mp (List.mem_of_getElem? hpr)
              obtain ⟨hs1, hs2⟩ := part_sub hprm
              obtain ⟨hn1, hn2⟩ := part_len hprm
              have hp1 : μ1 p = some (srF K c b bk d) := hl1 _ _ (by rw [updM_ne hpd]; exact hp)
              have hd1 : μ1 d = some (.dct kvs1) := hl1 _ _ updM_same
              unfold encPr tupI
              walk_at "dl"
              refine ⟨.inr ⟨p, _, rfl, hp1, rfl⟩, p, d, c, b, bk, pr.2, kvs1, rfl, hp1, hd1, hok, hs2.trans hsub, by omega, hk1, fun q1 kvs2 hb1 hk2 => ?_⟩
              have hl2 : Less (updM μ d (some (.dct kvs2))) (updM μ1 d (some (.dct kvs2))) := less_upd hl1
              have hp2 : (updM μ1 d (some (.dct kvs2))) p = some (srF K c b bk d) := by rw [updM_ne hpd]; exact hp1
              have hr2 : (updM μ1 d (some (.dct kvs2))) r = some (.lst ((R.map (rowQ (fc c b bk))).map encQ)) := by rw [updM_ne hrd]; exact hr1
              generalize updM μ1 d (some (.dct kvs2)) = μ2 at hl2 hp2 hr2
              unfold encQ
              walk_at "dl"
              have hch : ∀ i ∈ pr.1, 0 ≤ i ∧ i < bk.length := fun i hi => upN_mem.mp (hsub.subset (hs1.subset hi))
              refine ⟨.inr ⟨p, _, rfl, hp2, rfl⟩, p, d, c, b, bk, pr.1, rfl, hp2, hok, hch, by have := hs1.length_le; omega, ?_⟩
              walk_at "dl"
              have hRl : R.length ≤ 2048 := by
                have := congrArg List.length hR
                rw [List.length_map, List.length_take] at this
                have := parts_len (items := items) (by omega)
                omega
              refine ⟨⟨_, hr2⟩, _, hr2, by rw [List.length_map, List.length_map]; omega, R ++ [(pr, q1)], ?_, ?_, kvs2, hk2, hl2.put (by rw [updM_ne hrd]; exact hr0), ?_⟩
              · rw [List.map_append, hR, take_snoc hpr] <;> rfl
              · intro z hz
                rcases List.mem_append.mp hz with h | h
                · exact hB z h
                · rw [List.mem_singleton.mp h]; exact hb1
              · simp [rowQ, encQ, Function.comp_def]
          · rintro _ μ1 ⟨x_chosen, x_left, x_low, x_high, x_receipts, x_ways, x_paid, x_least, x_good, x_fewest, x_row, rfl, R, hR, hB, kvs1, hk1, hl1, hr1⟩
            rw [List.length_map, List.take_length] at hR
            have hRl : R.length ≤ 2048 := by
              have := congrArg List.length hR
              rw [List.length_map] at this
              have := parts_len (items := items) (by omega)
              omega
            walk_at "dl"
            refine ⟨_, hr1, ?_⟩
            have hl2 : Less (updM μ d (some (.dct kvs1))) (updM μ1 r none) := hl1.put (by rw [updM_ne hrd]; exact hr0)
            generalize updM μ1 r none = μ2 at hl2
            have hRq : (R.map (rowQ (fc c b bk))).length ≤ 2048 := by rw [List.length_map]; exact hRl
            have hRp : 0 < (R.map (rowQ (fc c b bk))).length := by
              have h1 := congrArg List.length hR
              rw [List.length_map] at h1
              rw [List.length_map, h1]
              obtain ⟨x, xs, rfl⟩ : ∃ x xs, items = x :: xs := by
                cases items with
                | nil => exact absurd rfl hne
                | cons x xs => exact ⟨x, xs, rfl⟩
              exact List.length_pos_of_mem (mem_parts.mpr (mem_partsU.mpr ⟨[], rfl, Mix.none xs⟩) : (([x] : List Int), xs) ∈ _)
            have step := @BOk.step (fc c b bk) items R
            generalize R.map (rowQ (fc c b bk)) = Rq at hRq hRp step
            refine lc_map (l := Rq) (enc := encQ) (fun q => D.int q.1) (by omega) (fun z hz μ' Qy hy => by unfold encQ; walk_at "dl"; exact hy) fun μ3 hl3 => ?_
            refine .inr ⟨_, Rq.map (·.1), rfl, (fun e => by cases e), by show some _ = some _; rw [List.map_map] <;> rfl, by rw [List.length_map]; exact hRp, fun least lm ly => ?_⟩
            refine lc_filter (l := Rq) (enc := encQ) (fun q => decide (q.1 = least)) encQ (by omega) (fun z hz μ' Qe Qy he hy => ?_) fun μ4 hl4 => ?_
            · unfold encQ at hy ⊢
              walk_at "dl"
              split
              · rename_i h; exact hy (decide_eq_true h)
              · rename_i h; exact he (decide_eq_false h)
            have hGl := List.length_filter_le (fun q : Qd => decide (q.1 = least)) Rq
            have hGp : 0 < (Rq.filter fun q => decide (q.1 = least)).length := by
              obtain ⟨q0, hq0, e0⟩ := List.mem_map.mp lm
              exact List.length_pos_of_mem (List.mem_filter.mpr ⟨hq0, decide_eq_true e0⟩)
            have step2 := fun hi few => step (lo := least) (hi := hi) (few := few) hne hR hB lm ly
            generalize (Rq.filter fun q => decide (q.1 = least)) = Gd at hGl hGp step2 ⊢
            refine ⟨_, .inl rfl, ?_⟩
            refine lc_map (l := Gd) (enc := encQ) (fun q => D.int q.2.2.1) (by omega) (fun z hz μ' Qy hy => by unfold encQ; walk_at "dl"; exact hy) fun μ5 hl5 => ?_
            refine .inr ⟨_, Gd.map (·.2.2.1), rfl, (fun e => by cases e), by show some _ = some _; rw [List.map_map] <;> rfl, by rw [List.length_map]; exact hGp, fun few fm fy => ?_⟩
            refine lc_map (l := Rq) (enc := encQ) (fun q => D.int q.2.1) (by omega) (fun z hz μ' Qy hy => by unfold encQ; walk_at "dl"; exact hy) fun μ6 hl6 => ?_
            refine .inr ⟨_, Rq.map (·.2.1), rfl, (fun e => by cases e), by show some _ = some _; rw [List.map_map] <;> rfl, by rw [List.length_map]; exact hRp, fun hi hm hy => ?_⟩
            refine ⟨_, .inl rfl, ?_⟩
            refine lc_map (l := Gd) (enc := encQ) (fun q => D.int q.2.2.2) (by omega) (fun z hz μ' Qy hy => by unfold encQ; walk_at "dl"; exact hy) fun μ7 hl7 => ?_
            have hb := step2 hi few hm hy fm fy
            have hlf := ((((hl2.trans hl3).trans hl4).trans hl5).trans hl6).trans hl7
            obtain ⟨hk', hg'⟩ := hk1.put hsub hb
            refine ⟨Gd.map (·.2.2.2), by show some _ = some _; rw [List.map_map] <;> rfl, _, fldS (hlf _ _ (by rw [updM_ne hpd]; exact hp)) rfl, d, rfl, kvs1, kys items, ⟨⟨d, rfl, hlf _ _ updM_same⟩, by rw [kys_D]⟩, ?_, _, _, hk', hb, hg', less_upd hlf⟩
            have := hk1.len (by rw [upN_len]; exact hok.len)
            omega
      · rintro _ μ1 ⟨x_rows, x_chosen, x_left, x_low, x_high, x_receipts, x_ways, x_paid, x_least, x_good, x_fewest, x_row, rfl, q', kvs', hk', hb', hg', hl'⟩
        walk_at "dl"
        refine ⟨_, fldS (hl' _ _ (by rw [updM_ne hpd]; exact hp)) rfl, kvs', kys items, ⟨⟨d, rfl, hl' _ _ updM_same⟩, by rw [kys_D]⟩, encQ q', hg', ?_⟩
        exact ⟨_, hl', q q' kvs' hb' hk'⟩
theorem ok_Search_best (T : Txt K mg base) : ∀ n : Nat, FnD P w K mg base (14 + n) (He.ma K (He.ga K "Search") "best") (sp_Search_best K n)
  | 0 => fnD_false fun ds μ Q ξ h => by obtain ⟨p, d, c, b, bk, items, kvs, rfl, hp, hd, hok, hsub, hlen, hkn, q⟩ := h; omega
  | n + 1 => by
    have IH := ok_Search_best T n
    show FnD P w K mg base (14 + n + 1) (He.ma K (He.ga K "Search") "best") _
    obtain ⟨fd, F⟩ := T.f_Search_best
    refine fnD F sc_Search_best (F.bindsN fun _ _ _ _ _ _ us hl => match us, hl with | [_, _], _ => rfl) (fun ds μ Q ξ h => by obtain ⟨p, d, c, b, bk, items, kvs, rfl, hp, hd, hok, hsub, hlen, hkn, q⟩ := h; rfl) fun cdv hcd A outer s H E Φ ξ ok ds μ Q hr h => ?_
    obtain ⟨p, d, c, b, bk, items, kvs, rfl, hp, hd, hok, hsub, hlen, hkn, q⟩ := h
    refine ⟨_, (xss_cons (xs_if (xt_cmp (xo_eq hr.units) (xv 1) (xe_tup xa_nil) (nomark _))
    (xss_one (xs_ret (xe_tup xa_nil)))
    xss_nil)
    (xss_cons (xs_asg (xe_meth (xv 0) T.S.cl T.S.mBounds (ok_Search_bounds T 12) (hr.mono (by first | decide | omega)) (xa_cons (xv 1) xa_nil)) (xg_tup (n := 4) (xgs_cons (xg_name (i := 2) sc_Search_best.nd) (xgs_cons (xg_name (i := 3) sc_Search_best.nd) (xgs_cons (xg_name (i := 4) sc_Search_best.nd) (xgs_cons (xg_name (i := 5) sc_Search_best.nd) xgs_nil))))))
    (xss_cons (xs_for PassesOwn.leaving (xi_seq (xe_call (ok_partings T) (hr.mono (by first | decide | omega)) T.g_partings (kp T.f_partings) (xa_cons (xv 1) xa_nil))) (xg_tup (n := 2) (xgs_cons (xg_name (i := 6) sc_Search_best.nd) (xgs_cons (xg_name (i := 7) sc_Search_best.nd) xgs_nil)))
    (xss_cons (xs_set (i := 8) sc_Search_best.nd (xe_meth (xv 0) T.S.cl T.S.mBounds (ok_Search_bounds T 12) (hr.mono (by first | decide | omega)) (xa_cons (xv 7) xa_nil)))
    (xss_one (xs_if (XW.pt (xw_and (xt_cmp (xo_eq hr.units) (xe_op xo_add (xe_meth (xv 0) T.S.cl T.S.mReceipt (ok_Search_receipt T) (hr.mono (by first | decide | omega)) (xa_cons (xv 6) xa_nil)) (xe_ix (xv 8) xe_int)) (xv 2) (nomark _)) (xw_and1 (xt_cmp (xo_eq hr.units) (xe_op xo_add (xe_ix (xv 8) xe_int) xe_int) (xv 4) (nomark _)))))
    (xss_one (xs_ret (xe_op xo_add (xe_tup (xa_cons (xv 6) xa_nil)) (xe_meth (xv 0) T.S.cl T.S.mBest IH (hr.mono (by first | decide | omega)) (xa_cons (xv 7) xa_nil)))))
    xss_nil))))
    (xss_one (xs_ret (xe_tup xa_nil)))))), ?_⟩
    have hpd : p ≠ d := fun e => by rw [e, hd] at hp; cases hp
    unfold tupI
    walk_at "dl"
    refine fEq_en (enTup enI) (a := items) (b := []) ⟨_, rfl, ?_⟩
    by_cases he : items = []
    · subst he
      rw [if_pos (by decide)]
      have := q [] kvs (BestS.nil _) hkn
      rw [updM_id hd] at this
      exact dq this
    · rw [if_neg (by simpa using he)]
      have hlen2 : items.length ≤ 10 := by
        have := hsub.length_le
        rw [upN_len] at this
        have := hok.len
        omega
      refine ⟨.inr ⟨p, _, rfl, hp, rfl⟩, p, d, c, b, bk, items, kvs, rfl, hp, hd, hok, hsub, by omega, hkn, fun q0 kvs0 hq0 hk0 => ?_⟩
      unfold encQ
      try walk_at "dl"
      refine ⟨items, rfl, he, by omega, _, .inl rfl, ?_⟩
      refine for_in (fun i δ μ' => ∃ x_high x_ways x_chosen x_left x_rest : Option D, δ = [some (.ref p), some (.tup (items.map .int)), some (.int q0.1), x_high, some (.int q0.2.2.1), x_ways, x_chosen, x_left, x_rest] ∧ ∃ kvs1 : List (List Key × D), Known (fc c b bk) (upN bk.length) kvs1 ∧ μ' = updM μ d (some (.dct kvs1)) ∧
        ∀ pr ∈ (parts items).take i, ∃ q', BOk (fc c b bk) pr.2 q' ∧ ¬ (fc c b bk pr.1 + q'.1 = q0.1 ∧ q'.2.2.1 + 1 = q0.2.2.1)) ⟨_, _, _, _, _, rfl, kvs0, hk0, rfl, fun pr h => by simp at h⟩ ?_ ?_
      · rintro i x _ _ hx ⟨x_high, x_ways, x_chosen, x_left, x_rest, rfl, kvs1, hk1, rfl, hno⟩
        rw [List.getElem?_map] at hx
        cases hpr : (parts items)[i]? with
        | none => rw [hpr] at hx; cases hx
        | some pr =>
          rw [hpr] at hx
          cases hx
          have hprm := mem_parts.mp (List.mem_of_getElem? hpr)
          obtain ⟨hs1, hs2⟩ := part_sub hprm
          obtain ⟨hn1, hn2⟩ := part_len hprm
          have hp1 : ∀ m, (updM μ d m) p = some (srF K c b bk d) := fun m => by rw [updM_ne hpd]; exact hp
          unfold encPr tupI
          walk_at "dl"
          refine ⟨.inr ⟨p, _, rfl, hp1 _, rfl⟩, p, d, c, b, bk, pr.2, kvs1, rfl, hp1 _, updM_same, hok, hs2.trans hsub, by omega, hk1, fun q1 kvs2 hb1 hk2 => ?_⟩
          rw [updM_updM]
          unfold encQ
          try walk_at "dl"
          have hch : ∀ i ∈ pr.1, 0 ≤ i ∧ i < bk.length := fun i hi => upN_mem.mp (hsub.subset (hs1.subset hi))
          refine ⟨.inr ⟨p, _, rfl, hp1 _, rfl⟩, p, d, c, b, bk, pr.1, rfl, hp1 _, hok, hch, by have := hs1.length_le; omega, ?_⟩
          try walk_at "dl"
          have hnext : ¬ (fc c b bk pr.1 + q1.1 = q0.1 ∧ q1.2.2.1 + 1 = q0.2.2.1) → ∀ z ∈ (parts items).take (i + 1), ∃ q', BOk (fc c b bk) z.2 q' ∧ ¬ (fc c b bk z.1 + q'.1 = q0.1 ∧ q'.2.2.1 + 1 = q0.2.2.1) := fun hn z hz => by
            rw [take_snoc hpr] at hz
            rcases List.mem_append.mp hz with hz | hz
            · exact hno z hz
            · rw [List.mem_singleton.mp hz]; exact ⟨q1, hb1, hn⟩
          split
          · rename_i g1
            split
            · rename_i g2
              refine ⟨.inr ⟨p, _, rfl, hp1 _, rfl⟩, p, d, c, b, bk, pr.2, kvs2, rfl, hp1 _, updM_same, hok, hs2.trans hsub, by omega, hk2, fun S kvs3 hS hk3 => ?_⟩
              rw [updM_updM]
              unfold encS
              have hl := hS.sp.rcp.len
              walk_at "dl"
              refine ⟨by omega, ?_⟩
              exact dq (q (pr.1 :: S) kvs3 (BestS.cons hprm hq0 hb1 g1 g2 hS) hk3)
            · rename_i g2
              exact ⟨kvs2, hk2, rfl, by simpa using hnext fun h => g2 h.2⟩
          · rename_i g1
            exact ⟨kvs2, hk2, rfl, by simpa using hnext fun h => g1 h.1⟩
      · rintro _ _ ⟨x_high, x_ways, x_chosen, x_left, x_rest, rfl, kvs1, hk1, rfl, hno⟩
        obtain ⟨pr, hpr, hall⟩ := hq0.first he
        exfalso
        rw [List.length_map, List.take_length] at hno
        obtain ⟨q', hq', hn⟩ := hno pr (mem_parts.mpr hpr)
        exact hn (hall q' hq')
theorem ok_all_items (T : Txt K mg base) : FnD P w K mg base 1 (He.ga K "all_items") sp_all_items := by
  obtain ⟨fd, F⟩ := T.f_all_items
  refine fnD F sc_all_items (F.bindsN fun _ _ _ _ _ _ us hl => match us, hl with | [_], _ => rfl) (fun ds μ Q ξ h => by obtain ⟨bk, rfl, hl, q⟩ := h; rfl) fun cdv hcd A outer s H E Φ ξ ok ds μ Q hr h => ?_
  obtain ⟨bk, rfl, hl, q⟩ := h
  refine ⟨_, (xss_one (xs_ret (xe_tupRg1 T.z_tuple T.z_range (xe_callB xc_len T.z_len (by decide +kernel) (xa_cons (xv 0) xa_nil))))), ?_⟩
  walk_at "dl"
  unfold tupI at q
  rw [← rng_upN] at q
  exact ⟨⟨by omega, by omega, by omega, by omega, by omega⟩, dq q⟩
theorem ok_need_basket_d (T : Txt K mg base) : FnD P w K mg base 2 (He.ga K "need_basket") (fun ds => sp_need_basket (ds ++ [D.int 10])) := by
  obtain ⟨fd, F⟩ := T.f_need_basket
  refine id (fnDef (sp := sp_need_basket) (gvs := [V.int 10]) (gds := [D.int 10]) F sc_need_basket (F.binds1 1 0 (by simp) rfl fun T kV doc pm an cdv ct us its h1 h2 => match us, its, h1, h2 with | [_], [_], _, _ => ⟨_, rfl, rfl⟩) (fun _ => .cons .int .nil) (fun ds μ Q ξ h => by obtain ⟨bk, m, rfl, hl, hm, ha, q⟩ := h; rfl) fun cdv hcd A outer s H E Φ ξ ok ds μ Q hr h => ?_)
  obtain ⟨bk, m, rfl, hl, hm, ha, q⟩ := h
  refine ⟨_, (xss_one (xs_if (XW.pt (xw_or (xt_not (xt_val (xe_callB xc_isT T.z_isinstance (by decide +kernel) (xa_cons (xv 0) (xa_cons (xe_bty (n := "tuple") T.z_tuple (by decide +kernel)) xa_nil))))) (xw_or (xt_cmp xo_gt (xe_callB xc_len T.z_len (by decide +kernel) (xa_cons (xv 0) xa_nil)) (xv 1) (nomark _)) (xw_or1 (xt_not (xt_val (xe_callB (xc_all rfl) T.z_all (by decide +kernel) (xa_cons (xe_lcB [(("one" : Str), 2)] sc_need_basket.nd (blkOk_by (own := [(("one" : Str), 2)]) (by rfl)) (xi_seq (xv 0)) (fun _ _ _ _ _ => (xg_name (i := 2) sc_need_basket.nd)) (fun _ _ _ _ _ => by exact xts_nil) (fun _ _ _ _ _ => by exact (xe_call (ok_is_integer T) (hr.mono (by first | decide | omega)) T.g_is_integer (kp T.f_is_integer) (xa_cons (xv 2) (xa_cons xe_int (xa_cons (xe_gint T.i_MAX_AMOUNT) xa_nil)))))) xa_nil))))))))
    (xss_one xs_never)
    xss_nil)), ?_⟩
  walk_at "dl"
  refine ⟨hm, ?_⟩
  refine lc_map (l := bk) (fun _ => D.bl true) (by omega) (fun x hx μ' Qy hy => ?_) fun μ' hl1 => ?_
  · walk_at "dl"
    refine ⟨_, _, _, rfl, rfl, ?_⟩
    rw [isInt_amt (ha x hx)]
    exact hy
  · refine fAll_of (l := bk) (g := fun _ => true) rfl ?_
    exact ⟨_, rfl, by simp, μ, hl1, q⟩
theorem ok_need_basket (T : Txt K mg base) : FnD P w K mg base 2 (He.ga K "need_basket") sp_need_basket := by
  obtain ⟨fd, F⟩ := T.f_need_basket
  refine (fun z => FnD.imp z fun ds μ Q ξ h => by simpa using h) (fnDef (sp := sp_need_basket) (gvs := []) (gds := []) F sc_need_basket (F.binds1 2 1 (by simp) rfl fun T kV doc pm an cdv ct us its h1 h2 => match us, its, h1, h2 with | [_, _], [_], _, _ => ⟨_, rfl, rfl⟩) (fun _ => .nil) (fun ds μ Q ξ h => by obtain ⟨bk, m, rfl, hl, hm, ha, q⟩ := h; rfl) fun cdv hcd A outer s H E Φ ξ ok ds μ Q hr h => ?_)
  obtain ⟨bk, m, rfl, hl, hm, ha, q⟩ := h
  refine ⟨_, (xss_one (xs_if (XW.pt (xw_or (xt_not (xt_val (xe_callB xc_isT T.z_isinstance (by decide +kernel) (xa_cons (xv 0) (xa_cons (xe_bty (n := "tuple") T.z_tuple (by decide +kernel)) xa_nil))))) (xw_or (xt_cmp xo_gt (xe_callB xc_len T.z_len (by decide +kernel) (xa_cons (xv 0) xa_nil)) (xv 1) (nomark _)) (xw_or1 (xt_not (xt_val (xe_callB (xc_all rfl) T.z_all (by decide +kernel) (xa_cons (xe_lcB [(("one" : Str), 2)] sc_need_basket.nd (blkOk_by (own := [(("one" : Str), 2)]) (by rfl)) (xi_seq (xv 0)) (fun _ _ _ _ _ => (xg_name (i := 2) sc_need_basket.nd)) (fun _ _ _ _ _ => by exact xts_nil) (fun _ _ _ _ _ => by exact (xe_call (ok_is_integer T) (hr.mono (by first | decide | omega)) T.g_is_integer (kp T.f_is_integer) (xa_cons (xv 2) (xa_cons xe_int (xa_cons (xe_gint T.i_MAX_AMOUNT) xa_nil)))))) xa_nil))))))))
    (xss_one xs_never)
    xss_nil)), ?_⟩
  walk_at "dl"
  refine ⟨hm, ?_⟩
  refine lc_map (l := bk) (fun _ => D.bl true) (by omega) (fun x hx μ' Qy hy => ?_) fun μ' hl1 => ?_
  · walk_at "dl"
    refine ⟨_, _, _, rfl, rfl, ?_⟩
    rw [isInt_amt (ha x hx)]
    exact hy
  · refine fAll_of (l := bk) (g := fun _ => true) rfl ?_
    exact ⟨_, rfl, by simp, μ, hl1, q⟩
theorem ok_need_rule (T : Txt K mg base) : FnD P w K mg base 1 (He.ga K "need_rule") sp_need_rule := by
  obtain ⟨fd, F⟩ := T.f_need_rule
  refine fnD F sc_need_rule (F.bindsN fun _ _ _ _ _ _ us hl => match us, hl with | [_], _ => rfl) (fun ds μ Q ξ h => by obtain ⟨c, b, rfl, q⟩ := h; rfl) fun cdv hcd A outer s H E Φ ξ ok ds μ Q hr h => ?_
  obtain ⟨c, b, rfl, q⟩ := h
  refine ⟨_, (xss_one (xs_if (xt_not (xt_val (xe_callB (xc_isR T.R) T.z_isinstance (by decide +kernel) (xa_cons (xv 0) (xa_cons (xe_gref T.g_Rule) xa_nil)))))
    (xss_one xs_never)
    xss_nil)), ?_⟩
  walk_at "dl"
  exact dq q
theorem ok_best_splitting_d (T : Txt K mg base) : FnD P w K mg base 27 (He.ga K "best_splitting") (fun ds => sp_best_splitting (ds ++ [D.bl false])) := by
  obtain ⟨fd, F⟩ := T.f_best_splitting
  refine fnDef (sp := sp_best_splitting) (gvs := [V.bl false]) (gds := [D.bl false]) F sc_best_splitting (F.binds0 2 (by simp) rfl fun _ _ _ _ _ _ us ks h1 h2 => match us, ks, h1, h2 with | [_, _], [_], _, _ => ⟨_, _, _, _, _, _, rfl, rfl, rfl⟩) (fun _ => .cons .bl .nil) (fun ds μ Q ξ h => by obtain ⟨c, b, bk, fw, rfl, hok, q⟩ := h; rfl) fun cdv hcd A outer s H E Φ ξ ok ds μ Q hr h => ?_
  obtain ⟨c, b, bk, fw, rfl, hok, q⟩ := h
  refine ⟨_, (xss_cons (xs_expr (xe_call (ok_need_rule T) (hr.mono (by first | decide | omega)) T.g_need_rule (kp T.f_need_rule) (xa_cons (xv 0) xa_nil)))
    (xss_cons (xs_expr (xe_call (ok_need_basket_d T) (hr.mono (by first | decide | omega)) T.g_need_basket (kp T.f_need_basket) (xa_cons (xv 1) xa_nil)))
    (xss_cons (xs_if (xt_not (xt_val (xe_callB xc_isT T.z_isinstance (by decide +kernel) (xa_cons (xv 2) (xa_cons (xe_bty (n := "bool") T.z_bool (by decide +kernel)) xa_nil)))))
    (xss_one xs_never)
    xss_nil)
    (xss_one (xs_ret (xe_meth (xe_make false T.S.mkr (ok_Search_init T) (hr.mono (by first | decide | omega)) T.g_Search (xa_cons (xv 0) (xa_cons (xv 1) xa_nil))) T.S.cl T.S.mBest (ok_Search_best T 12) (hr.mono (by first | decide | omega)) (xa_cons (xe_call (ok_all_items T) (hr.mono (by first | decide | omega)) T.g_all_items (kp T.f_all_items) (xa_cons (xv 1) xa_nil)) xa_nil))))))), ?_⟩
  walk_at "dl"
  refine ⟨c, b, rfl, bk, 10, rfl, by have := hok.len; omega, by have := hok.len; omega, hok.amt, ?_⟩
  intro a ha
  refine ⟨a, c, b, bk, rfl, updM_same, fun d μ' hd hp hdd hoth => ⟨rfl, ?_⟩⟩
  have hda : d ≠ a := fun e => by rw [e, updM_same] at hd; cases hd
  rw [updM_ne hda] at hd
  refine ⟨.inr ⟨a, _, rfl, hp, rfl⟩, bk, rfl, by have := hok.len; omega, ?_⟩
  refine ⟨a, d, c, b, bk, upN bk.length, [], rfl, hp, hdd, hok, List.Sublist.refl _, by rw [upN_len]; have := hok.len; omega, Known.nil _ _, fun S kvs' hS hk => ⟨μ, fun x m e => ?_, q S hS⟩⟩
  have h1 : x ≠ a := fun z => by rw [z, ha] at e; cases e
  have h2 : x ≠ d := fun z => by rw [z, hd] at e; cases e
  rw [updM_ne h2, hoth x h1 h2, updM_ne h1]
  exact e

theorem ok_best_splitting (T : Txt K mg base) : FnKD P w K mg base 27 2 ["fewest"] (He.ga K "best_splitting") sp_best_splitting := by
  obtain ⟨fd, F⟩ := T.f_best_splitting
  refine fnKw F sc_best_splitting (fun _ _ _ _ _ _ us ws h1 h2 => match us, ws, h1, h2 with | [_, _], [_], _, _ => rfl) (fun ds μ Q ξ h => by obtain ⟨c, b, bk, fw, rfl, hok, q⟩ := h; rfl) fun cdv hcd A outer s H E Φ ξ ok ds μ Q hr h => ?_
  obtain ⟨c, b, bk, fw, rfl, hok, q⟩ := h
  refine ⟨_, (xss_cons (xs_expr (xe_call (ok_need_rule T) (hr.mono (by first | decide | omega)) T.g_need_rule (kp T.f_need_rule) (xa_cons (xv 0) xa_nil)))
    (xss_cons (xs_expr (xe_call (ok_need_basket_d T) (hr.mono (by first | decide | omega)) T.g_need_basket (kp T.f_need_basket) (xa_cons (xv 1) xa_nil)))
    (xss_cons (xs_if (xt_not (xt_val (xe_callB xc_isT T.z_isinstance (by decide +kernel) (xa_cons (xv 2) (xa_cons (xe_bty (n := "bool") T.z_bool (by decide +kernel)) xa_nil)))))
    (xss_one xs_never)
    xss_nil)
    (xss_one (xs_ret (xe_meth (xe_make false T.S.mkr (ok_Search_init T) (hr.mono (by first | decide | omega)) T.g_Search (xa_cons (xv 0) (xa_cons (xv 1) xa_nil))) T.S.cl T.S.mBest (ok_Search_best T 12) (hr.mono (by first | decide | omega)) (xa_cons (xe_call (ok_all_items T) (hr.mono (by first | decide | omega)) T.g_all_items (kp T.f_all_items) (xa_cons (xv 1) xa_nil)) xa_nil))))))), ?_⟩
  walk_at "dl"
  refine ⟨c, b, rfl, bk, 10, rfl, by have := hok.len; omega, by have := hok.len; omega, hok.amt, ?_⟩
  intro a ha
  refine ⟨a, c, b, bk, rfl, updM_same, fun d μ' hd hp hdd hoth => ⟨rfl, ?_⟩⟩
  have hda : d ≠ a := fun e => by rw [e, updM_same] at hd; cases hd
  rw [updM_ne hda] at hd
  refine ⟨.inr ⟨a, _, rfl, hp, rfl⟩, bk, rfl, by have := hok.len; omega, ?_⟩
  refine ⟨a, d, c, b, bk, upN bk.length, [], rfl, hp, hdd, hok, List.Sublist.refl _, by rw [upN_len]; have := hok.len; omega, Known.nil _ _, fun S kvs' hS hk => ⟨μ, fun x m e => ?_, q S hS⟩⟩
  have h1 : x ≠ a := fun z => by rw [z, ha] at e; cases e
  have h2 : x ≠ d := fun z => by rw [z, hd] at e; cases e
  rw [updM_ne h2, hoth x h1 h2, updM_ne h1]
  exact e

theorem ok_greatest_total (T : Txt K mg base) : FnD P w K mg base 15 (He.ga K "greatest_total") sp_greatest_total := by
  obtain ⟨fd, F⟩ := T.f_greatest_total
  refine fnD F sc_greatest_total (F.bindsN fun _ _ _ _ _ _ us hl => match us, hl with | [_, _], _ => rfl) (fun ds μ Q ξ h => by obtain ⟨c, b, bk, rfl, hok, q⟩ := h; rfl) fun cdv hcd A outer s H E Φ ξ ok ds μ Q hr h => ?_
  obtain ⟨c, b, bk, rfl, hok, q⟩ := h
  refine ⟨_, (xss_cons (xs_expr (xe_call (ok_need_rule T) (hr.mono (by first | decide | omega)) T.g_need_rule (kp T.f_need_rule) (xa_cons (xv 0) xa_nil)))
    (xss_cons (xs_expr (xe_call (ok_need_basket_d T) (hr.mono (by first | decide | omega)) T.g_need_basket (kp T.f_need_basket) (xa_cons (xv 1) xa_nil)))
    (xss_one (xs_ret (xe_ix (xe_meth (xe_make false T.S.mkr (ok_Search_init T) (hr.mono (by first | decide | omega)) T.g_Search (xa_cons (xv 0) (xa_cons (xv 1) xa_nil))) T.S.cl T.S.mBounds (ok_Search_bounds T 12) (hr.mono (by first | decide | omega)) (xa_cons (xe_call (ok_all_items T) (hr.mono (by first | decide | omega)) T.g_all_items (kp T.f_all_items) (xa_cons (xv 1) xa_nil)) xa_nil)) xe_int))))), ?_⟩
  walk_at "dl"
  refine ⟨c, b, rfl, bk, 10, rfl, by have := hok.len; omega, by have := hok.len; omega, hok.amt, ?_⟩
  refine search_go hok fun z μ' hb hl => ?_
  exact ⟨_, rfl, _, atI_1, μ, hl, q z hb⟩
theorem ok_is_receipt (T : Txt K mg base) : FnD P w K mg base 2 (He.ga K "is_receipt") sp_is_receipt := by
  obtain ⟨fd, F⟩ := T.f_is_receipt
  refine fnD F sc_is_receipt (F.bindsN fun _ _ _ _ _ _ us hl => match us, hl with | [_, _], _ => rfl) (fun ds μ Q ξ h => by obtain ⟨n, r, rfl, hne, ha, hi, hl, q⟩ := h; rfl) fun cdv hcd A outer s H E Φ ξ ok ds μ Q hr h => ?_
  obtain ⟨n, r, rfl, hne, ha, hi, hl, q⟩ := h
  refine ⟨_, (xss_cons (xs_if (XW.pt (xw_or (xt_not (xt_val (xe_callB xc_isT T.z_isinstance (by decide +kernel) (xa_cons (xv 1) (xa_cons (xe_bty (n := "tuple") T.z_tuple (by decide +kernel)) xa_nil))))) (xw_or (xt_cmp (xo_eq hr.units) (xv 1) (xe_tup xa_nil) (nomark _)) (xw_or1 (xt_not (xt_val (xe_callB (xc_all rfl) T.z_all (by decide +kernel) (xa_cons (xe_lcB [(("one" : Str), 2)] sc_is_receipt.nd (blkOk_by (own := [(("one" : Str), 2)]) (by rfl)) (xi_seq (xv 1)) (fun _ _ _ _ _ => (xg_name (i := 2) sc_is_receipt.nd)) (fun _ _ _ _ _ => by exact xts_nil) (fun _ _ _ _ _ => by exact (xe_call (ok_is_integer T) (hr.mono (by first | decide | omega)) T.g_is_integer (kp T.f_is_integer) (xa_cons (xv 2) (xa_cons xe_int (xa_cons (xe_op xo_sub (xv 0) xe_int) xa_nil)))))) xa_nil))))))))
    (xss_one (xs_ret xe_bl))
    xss_nil)
    (xss_one (xs_ret (xe_callB (xc_all rfl) T.z_all (by decide +kernel) (xa_cons (xe_lcB [(("one" : Str), 2), (("other" : Str), 3)] sc_is_receipt.nd (blkOk_by (own := [(("one" : Str), 2), (("other" : Str), 3)]) (by rfl)) (xi_zip T.z_zip (xa_cons (xv 1) (xa_cons (xe_slice (xv 1) (xp_some xe_int) xp_none) xa_nil))) (fun _ _ _ _ _ => (xg_tup (n := 2) (xgs_cons (xg_name (i := 2) sc_is_receipt.nd) (xgs_cons (xg_name (i := 3) sc_is_receipt.nd) xgs_nil)))) (fun _ _ _ _ _ => by exact xts_nil) (fun _ _ _ _ _ => by exact (xe_cmp xo_lt (xv 2) (xv 3) (nomark _)))) xa_nil))))), ?_⟩
  obtain ⟨x, xs, rfl⟩ : ∃ x xs, r = x :: xs := by
    cases r with
    | nil => exact absurd rfl hne
    | cons x xs => exact ⟨x, xs, rfl⟩
  unfold tupI
  walk_at "dl"
  have hl2 : (x :: xs).length ≤ 1000 := hl
  refine fEq_no (enTup enI) (a := x :: xs) (b := []) (by simp) (ifF ?_)
  refine lc_map (l := x :: xs) (enc := D.int) (fun _ => D.bl true) (by omega) (fun i hi2 μ' Qy hy => ?_) fun μ1 hl1 => ?_
  · have h := hi i hi2
    walk_at "dl"
    refine ⟨_, _, _, rfl, rfl, ?_⟩
    have e : DL.isInt (.int i) 0 (n - 1) = true := by simp [DL.isInt]; omega
    rw [e]
    exact hy
  · refine fAll_of (l := x :: xs) (g := fun _ => true) rfl ⟨true, by simp, ?_⟩
    rw [if_pos rfl, cutD_tail]
    have ez : zipD (D.int x :: xs.map D.int) (xs.map D.int) = ((x :: xs).zip xs).map encR := zipD_map (x :: xs) xs
    rw [ez]
    have hzl : ((x :: xs).zip xs).length ≤ 1000 := by rw [List.length_zip]; omega
    refine lc_map (l := (x :: xs).zip xs) (enc := encR) (fun _ => D.bl true) (by omega) (fun z hz μ' Qy hy => ?_) fun μ2 hl3 => ?_
    · have h := zip_asc ha z hz
      unfold encR
      walk_at "dl"
      rw [decide_eq_true h]
      exact hy
    · refine fAll_of (l := (x :: xs).zip xs) (g := fun _ => true) rfl ?_
      have e : ((x :: xs).zip xs).all (fun _ => true) = true := by simp
      rw [e]
      exact ⟨μ, fun a m h => hl3 a m (hl1 a m h), q⟩
theorem ok_splits (T : Txt K mg base) : FnD P w K mg base 3 (He.ga K "splits") sp_splits := by
  obtain ⟨fd, F⟩ := T.f_splits
  refine fnD F sc_splits (F.bindsN fun _ _ _ _ _ _ us hl => match us, hl with | [_, _], _ => rfl) (fun ds μ Q ξ h => by obtain ⟨n, S, rfl, hv, hn, q⟩ := h; rfl) fun cdv hcd A outer s H E Φ ξ ok ds μ Q hr h => ?_
  obtain ⟨n, S, rfl, hv, hn, q⟩ := h
  refine ⟨_, (xss_cons (xs_if (XW.pt (xw_or (xt_not (xt_val (xe_callB xc_isT T.z_isinstance (by decide +kernel) (xa_cons (xv 1) (xa_cons (xe_bty (n := "tuple") T.z_tuple (by decide +kernel)) xa_nil))))) (xw_or1 (xt_not (xt_val (xe_callB (xc_all rfl) T.z_all (by decide +kernel) (xa_cons (xe_lcB [(("receipt" : Str), 3)] sc_splits.nd (blkOk_by (own := [(("receipt" : Str), 3)]) (by rfl)) (xi_seq (xv 1)) (fun _ _ _ _ _ => (xg_name (i := 3) sc_splits.nd)) (fun _ _ _ _ _ => by exact xts_nil) (fun _ _ _ _ _ => by exact (xe_call (ok_is_receipt T) (hr.mono (by first | decide | omega)) T.g_is_receipt (kp T.f_is_receipt) (xa_cons (xv 0) (xa_cons (xv 3) xa_nil))))) xa_nil)))))))
    (xss_one (xs_ret xe_bl))
    xss_nil)
    (xss_cons (xs_setLc2B (i := 2) [(("receipt" : Str), 3), (("index" : Str), 4)] [4] sc_splits.nd (sw_true rfl rfl rfl (by rfl)) (blkOk_by (own := [(("receipt" : Str), 3), (("index" : Str), 4)]) (by rfl)) (xi_seq (xv 1)) (fun _ _ _ _ _ => (xg_name (i := 3) sc_splits.nd)) (fun _ _ _ _ _ => by exact xts_nil) (fun _ _ _ _ _ => by exact (xi_seq (xv 3))) (fun _ _ _ _ _ => (xg_name (i := 4) sc_splits.nd)) (fun _ _ _ _ _ => by exact xts_nil) (fun _ _ _ _ _ => by exact (xv 4)))
    (xss_one (xs_ret (xe_and (xe_cmp (xo_eq hr.units) (xe_callB (xc_sort hr.units) T.z_sorted (by decide +kernel) (xa_cons (xv 2) xa_nil)) (xe_lstRg1 T.z_list T.z_range (xv 0)) (nomark _)) (xe_one (xe_cmp (xo_eq hr.units) (xe_callTy xc_list T.z_list (by decide +kernel) (xa_cons (xv 1) xa_nil)) (xe_callB (xc_sort hr.units) T.z_sorted (by decide +kernel) (xa_cons (xv 1) xa_nil)) (nomark _)))))))), ?_⟩
  obtain ⟨h1, h2, h3, h4⟩ := hv.lens
  walk_at "dl"
  refine lc_map (l := S) (enc := tupI) (fun _ => D.bl true) (by omega) (fun r hr2 μ' Qy hy => ?_) fun μ1 hl1 => ?_
  · have := h3 r hr2
    walk_at "dl"
    exact ⟨n, r, rfl, hv.ne r hr2, hv.asc r hr2, h4 r hr2, by omega, hy⟩
  · refine fAll_of (l := S) (g := fun _ => true) rfl ⟨true, by simp, ?_⟩
    rw [if_pos rfl]
    refine lc2_flat (l := S) (encO := tupI) (enc := D.int) (fun i => D.int i) (by omega) (fun r hr2 μ' hl' => ?_) (fun x δ μ A B hAB h => ?_) (fun δ μ A B hAB h => ?_) fun μ2 hl2 => ?_
    · unfold tupI
      try walk_at "dl"
      try exact ⟨rfl, rfl, fun b hb μ5 Qy hl5 hy => hy⟩
    · exact hAB _ _ h
    · obtain ⟨x, e, ds, k1, k2⟩ := h
      exact ⟨x, e, ds, k1, hAB _ _ k2⟩
    · refine .inl ⟨Int, _, S.flatten, D.int, PyData.int, rfl, rfl, fun b => rfl, PySem.W.AllAlike.of fun b b' => rfl, PySem.W.Sortable.others (enc := PyData.int) fun b => ⟨(by intro e; cases e), (by intro xs e; cases e)⟩, fun b _ => by show 0 ≤ 60; decide, ?_⟩
      rw [sort_upN hv.perm]
      refine ⟨⟨by omega, by omega, by omega, by omega, by omega⟩, ?_⟩
      rw [rng_upN]
      refine fEq_en (enLst enI) (a := upN n) (b := upN n) ⟨true, by simp, ?_⟩
      rw [if_pos rfl]
      refine .inl ⟨List Int, _, S, tupI, fun r => PyData.tuple (r.map .int), rfl, rfl, toPy_tupI, PySem.W.AllAlike.of fun b b' => PySem.W.alike_ints b b', .inl fun d hd => ?_, fun b _ => ?_, ?_⟩
      · obtain ⟨r, hr2, rfl⟩ := List.mem_map.mp hd
        cases hrr : r with
        | nil => exact absurd hrr (hv.ne r hr2)
        | cons x xs => exact ⟨_, _, rfl⟩
      · simp only [PyData.depth, PySem.W.depth_ints]
        decide
      · rw [List.mergeSort_of_pairwise hv.srt]
        refine fEq_en (enLst (enTup enI)) (a := S) (b := S) ?_
        rw [decide_eq_true rfl]
        exact ⟨μ, fun a m h => hl2 a m (hl1 a m h), q⟩
theorem ok_is_splitting (T : Txt K mg base) : FnD P w K mg base 4 (He.ga K "is_splitting") sp_is_splitting := by
  obtain ⟨fd, F⟩ := T.f_is_splitting
  refine fnD F sc_is_splitting (F.bindsN fun _ _ _ _ _ _ us hl => match us, hl with | [_, _], _ => rfl) (fun ds μ Q ξ h => by obtain ⟨bk, S, rfl, hl, ha, hv, q⟩ := h; rfl) fun cdv hcd A outer s H E Φ ξ ok ds μ Q hr h => ?_
  obtain ⟨bk, S, rfl, hl, ha, hv, q⟩ := h
  refine ⟨_, (xss_cons (xs_expr (xe_call (ok_need_basket_d T) (hr.mono (by first | decide | omega)) T.g_need_basket (kp T.f_need_basket) (xa_cons (xv 0) xa_nil)))
    (xss_one (xs_ret (xe_call (ok_splits T) (hr.mono (by first | decide | omega)) T.g_splits (kp T.f_splits) (xa_cons (xe_callB xc_len T.z_len (by decide +kernel) (xa_cons (xv 0) xa_nil)) (xa_cons (xv 1) xa_nil)))))), ?_⟩
  unfold encS
  walk_at "dl"
  exact ⟨bk, 10, rfl, by omega, by omega, ha, bk.length, S, rfl, hv, by omega, dq q⟩
theorem ok_least_total (T : Txt K mg base) : FnD P w K mg base 15 (He.ga K "least_total") sp_least_total := by
  obtain ⟨fd, F⟩ := T.f_least_total
  refine fnD F sc_least_total (F.bindsN fun _ _ _ _ _ _ us hl => match us, hl with | [_, _], _ => rfl) (fun ds μ Q ξ h => by obtain ⟨c, b, bk, rfl, hok, q⟩ := h; rfl) fun cdv hcd A outer s H E Φ ξ ok ds μ Q hr h => ?_
  obtain ⟨c, b, bk, rfl, hok, q⟩ := h
  refine ⟨_, (xss_cons (xs_expr (xe_call (ok_need_rule T) (hr.mono (by first | decide | omega)) T.g_need_rule (kp T.f_need_rule) (xa_cons (xv 0) xa_nil)))
    (xss_cons (xs_expr (xe_call (ok_need_basket_d T) (hr.mono (by first | decide | omega)) T.g_need_basket (kp T.f_need_basket) (xa_cons (xv 1) xa_nil)))
    (xss_one (xs_ret (xe_ix (xe_meth (xe_make false T.S.mkr (ok_Search_init T) (hr.mono (by first | decide | omega)) T.g_Search (xa_cons (xv 0) (xa_cons (xv 1) xa_nil))) T.S.cl T.S.mBounds (ok_Search_bounds T 12) (hr.mono (by first | decide | omega)) (xa_cons (xe_call (ok_all_items T) (hr.mono (by first | decide | omega)) T.g_all_items (kp T.f_all_items) (xa_cons (xv 1) xa_nil)) xa_nil)) xe_int))))), ?_⟩
  walk_at "dl"
  refine ⟨c, b, rfl, bk, 10, rfl, by have := hok.len; omega, by have := hok.len; omega, hok.amt, ?_⟩
  refine search_go hok fun z μ' hb hl => ?_
  exact ⟨_, rfl, _, atI_0, μ, hl, q z hb⟩
theorem ok_least_with_least (T : Txt K mg base) : ∀ (n : Nat) (cl : List (Str × Addr)) (c : Addr), NokD P w K mg base (2 + n) (NdefX.NF.of s_least_with_least "least" "least_with.<locals>.least" cl c) ["items", "many"] ["known", "least", "search"] (sp_least_with_least P w K n)
  | 0, cl, c => nokD_false fun f cs ds μ Q ξ h => by obtain ⟨p, d, dS, c0, b, bk, items, many, kvs, rfl, rfl, hp, hd, hfd, hok, hsub, hlen, hm0, hm1, hkn, q⟩ := h; omega
  | n + 1, cl, c => by
    have IH := ok_least_with_least T n
    show NokD P w K mg base (2 + n + 1) _ _ _ _
    refine nokD (Ns := ["items", "many", "known", "least", "search", "rows", "chosen", "left", "rest"]) sc_least_with_least (fun _ _ _ us hl => match us, hl with | [_, _], _ => rfl) (fun f cs ds μ Q ξ h => by obtain ⟨p, d, dS, c0, b, bk, items, many, kvs, rfl, rfl, hp, hd, hfd, hok, hsub, hlen, hm0, hm1, hkn, q⟩ := h; rfl) fun f A outer s H E Φ ξ ok cs ds μ Q hr hm h => ?_
    obtain ⟨p, d, dS, c0, b, bk, items, many, kvs, rfl, rfl, hp, hd, hfd, hok, hsub, hlen, hm0, hm1, hkn, q⟩ := h
    refine ⟨_, (xss_cons (xs_if (XW.pt (xw_or (xt_cmp (xo_eq hr.units) (xv 0) (xe_tup xa_nil) (nomark _)) (xw_or1 (xt_cmp (xo_eq hr.units) (xv 1) xe_int (nomark _)))))
    (xss_one (xs_ret (xe_ifExp (XW.pt (xw_and (xt_cmp (xo_eq hr.units) (xv 0) (xe_tup xa_nil) (nomark _)) (xw_and1 (xt_cmp (xo_eq hr.units) (xv 1) xe_int (nomark _))))) xe_int xe_non)))
    xss_nil)
    (xss_cons (xs_cut (xs_if (xt_dnotinN hr.units (xe_tup (xa_cons (xv 0) (xa_cons (xv 1) xa_nil))) (xv 2))
    (xss_cons (xs_set (i := 5) sc_least_with_least.nd (xe_lstM xa_nil))
    (xss_cons (xs_for PassesOwn.leaving (xi_seq (xe_call (ok_partings T) (hr.mono (by first | decide | omega)) T.g_partings (kp T.f_partings) (xa_cons (xv 0) xa_nil) (hx := passNX))) (xg_tup (n := 2) (xgs_cons (xg_name (i := 6) sc_least_with_least.nd) (xgs_cons (xg_name (i := 7) sc_least_with_least.nd) xgs_nil)))
    (xss_cons (xs_set (i := 8) sc_least_with_least.nd (xe_callN (i := 3) (js := [2, 3, 4]) (mk := fun c => NdefX.NF.of s_least_with_least "least" "least_with.<locals>.least" cl c) (fun c => IH cl c) (fun c _ => Caps.own rfl sc_least_with_least.frk (by rfl)) (hr.mono (by first | decide | omega)) passNX (xa_cons (xv 7) (xa_cons (xe_op xo_sub (xv 1) xe_int) xa_nil))))
    (xss_one (xs_if (xt_cmp xo_notN (xv 8) xe_non (nomark _))
    (xss_one (xs_expr (xe_append (xv 5) (xe_op xo_add (xv 8) (xe_meth (xv 4) T.S.cl T.S.mReceipt (ok_Search_receipt T) (hr.mono (by first | decide | omega)) (xa_cons (xv 6) xa_nil) (hx := passNX))))))
    xss_nil))))
    (xss_one (xs_frz 5 (xs_dputN hr.units (xv 2) (xe_tup (xa_cons (xv 0) (xa_cons (xv 1) xa_nil))) (xe_ifExp (xt_cmp (xo_ne hr.units) (xv 5) (xe_lst xa_nil) (nomark _)) (xe_callB (xc_min rfl) T.z_min (by decide +kernel) (xa_cons (xv 5) xa_nil)) xe_non))))))
    xss_nil))
    (xss_one (xs_ret (xe_dgetN hr.units (xv 2) (xe_tup (xa_cons (xv 0) (xa_cons (xv 1) xa_nil)))))))), ?_⟩
    unfold tupI
    walk_at "dl"
    have hdp : p ≠ d := fun e => by rw [e, hd] at hp; cases hp
    refine fEq_en (enTup enI) (a := items) (b := []) ?_
    by_cases he : items = []
    · subst he
      refine ⟨_, rfl, ?_⟩
      rw [if_pos (by decide)]
      refine fEq_yes (enTup enI) (a := ([] : List Int)) (b := []) rfl ⟨_, rfl, ?_⟩
      rw [if_pos rfl]
      by_cases hz : many = 0
      · subst hz
        rw [if_pos rfl]
        have := q (some 0) kvs (LwOk.zero _) hkn
        rw [updM_id hd] at this
        exact dq this
      · rw [if_neg hz]
        have := q none kvs (LwOk.no (.inl ⟨rfl, by omega⟩)) hkn
        rw [updM_id hd] at this
        exact dq this
    · refine ⟨_, rfl, ?_⟩
      rw [if_neg (by simpa using he)]
      by_cases hz : many = 0
      · subst hz
        rw [if_pos rfl]
        refine fEq_no (enTup enI) (a := items) (b := []) he ⟨_, rfl, ?_⟩
        rw [if_neg (by decide)]
        have := q none kvs (LwOk.no (.inr ⟨he, rfl⟩)) hkn
        rw [updM_id hd] at this
        exact dq this
      · rw [if_neg hz]
        have hlen2 : items.length ≤ 10 := by
          have := hsub.length_le
          rw [upN_len] at this
          have := hok.len
          omega
        refine cut_in (fun δ μ' => ∃ x_rows x_chosen x_left x_rest : Option D, δ = [some (.tup (items.map .int)), some (.int many), some (.ref d), some (.ref f), some (.ref p), x_rows, x_chosen, x_left, x_rest] ∧ ∃ o kvs', KnownL (fc c0 b bk) (upN bk.length) kvs' ∧ LwOk (fc c0 b bk) items many.toNat o ∧ lookN kvs' (items, many) = some (encO o) ∧ Less (updM μ d (some (nkM P w K kvs'))) μ') ?_ ?_
        · walk_at "dl"
          refine ⟨kvs, (items, many), ⟨⟨d, rfl, hd⟩, rfl⟩, ?_⟩
          cases hg : lookN kvs (items, many) with
          | some dv =>
            obtain ⟨o', rfl, hb'⟩ := hkn.get hg
            rw [if_neg (by simp)]
            exact ⟨o', kvs, hkn, hb', hg, by rw [updM_id hd]; exact Less.refl μ⟩
          | none =>
            rw [if_pos rfl]
            intro r hr0
            have hrd : r ≠ d := fun e => by rw [e, hd] at hr0; cases hr0
            have hrp : p ≠ r := fun e => by rw [← e, hp] at hr0; cases hr0
            have hrf : f ≠ r := fun e => by rw [← e, hm] at hr0; cases hr0
            refine ⟨items, rfl, he, by omega, _, .inl rfl, ?_⟩
            refine for_in (fun i δ μ' => ∃ x_chosen x_left x_rest : Option D, δ = [some (.tup (items.map .int)), some (.int many), some (.ref d), some (.ref f), some (.ref p), some (.ref r), x_chosen, x_left, x_rest] ∧ ∃ R : List ((List Int × List Int) × Option Int), R.map (·.1) = (parts items).take i ∧ (∀ z ∈ R, LwOk (fc c0 b bk) z.1.2 (many.toNat - 1) z.2) ∧
              ∃ kvs' : DE2, KnownL (fc c0 b bk) (upN bk.length) kvs' ∧ Less (updM μ d (some (nkM P w K kvs'))) μ' ∧ μ' r = some (.lst ((lwRows (fc c0 b bk) R).map .int))) ⟨_, _, _, rfl, [], rfl, (fun z h => by cases h), kvs, hkn, by rw [updM_id hd]; exact Less.new hr0, updM_same⟩ ?_ ?_
            · rintro i x _ μ1 hx ⟨x_chosen, x_left, x_rest, rfl, R, hR, hB, kvs1, hk1, hl1, hr1⟩
              rw [List.getElem?_map] at hx
              cases hpr : (parts items)[i]? with
              | none => rw [hpr] at hx; cases hx
              | some pr =>
                rw [hpr] at hx
                cases hx
                have hprm := mem_parts.mp (List.mem_of_getElem? hpr)
                obtain ⟨hs1, hs2⟩ := part_sub hprm
                obtain ⟨hn1, hn2⟩ := part_len hprm
                have hp1 : μ1 p = some (srF K c0 b bk dS) := hl1 _ _ (by rw [updM_ne hdp]; exact hp)
                have hd1 : μ1 d = some (nkM P w K kvs1) := hl1 _ _ updM_same
                unfold encPr tupI
                walk_at "dl"
                have hf1 := hl1 f _ (by rw [updM_ne hfd]; exact hm)
                refine ⟨c, hf1, [.ref d, .ref f, .ref p], rfl, hf1, ?_⟩
                refine ⟨p, d, dS, c0, b, bk, pr.2, many - 1, kvs1, rfl, rfl, hp1, hd1, hfd, hok, hs2.trans hsub, by omega, by omega, by omega, hk1, fun o1 kvs2 hb1 hk2 => ?_⟩
                rw [show (many - 1).toNat = many.toNat - 1 by omega] at hb1
                have hl2 : Less (updM μ d (some (nkM P w K kvs2))) (updM μ1 d (some (nkM P w K kvs2))) := less_upd hl1
                have hp2 : (updM μ1 d (some (nkM P w K kvs2))) p = some (srF K c0 b bk dS) := by rw [updM_ne hdp]; exact hp1
                have hr2 : (updM μ1 d (some (nkM P w K kvs2))) r = some (.lst ((lwRows (fc c0 b bk) R).map .int)) := by rw [updM_ne hrd]; exact hr1
                generalize updM μ1 d (some (nkM P w K kvs2)) = μ2 at hl2 hp2 hr2
                have hR2 : ∀ o : Option Int, (R ++ [(pr, o)]).map (·.1) = (parts items).take (i + 1) := fun o => by rw [List.map_append, hR, take_snoc hpr] <;> rfl
                have hB2 : ∀ z ∈ R ++ [(pr, o1)], LwOk (fc c0 b bk) z.1.2 (many.toNat - 1) z.2 := fun z hz => by
                  rcases List.mem_append.mp hz with h | h
                  · exact hB z h
                  · rw [List.mem_singleton.mp h]; exact hb1
                cases o1 with
                | none =>
                  split
                  · refine ⟨R ++ [(pr, none)], hR2 _, hB2, kvs2, hk2, hl2, ?_⟩
                    rw [hr2]
                    simp [lwRows]
                  · rename_i hF
                    exact absurd rfl hF
                | some v =>
                  split
                  · rename_i hT
                    cases hT
                  · have hch : ∀ i ∈ pr.1, 0 ≤ i ∧ i < bk.length := fun i hi => upN_mem.mp (hsub.subset (hs1.subset hi))
                    refine ⟨⟨_, hr2⟩, .inr ⟨p, _, rfl, hp2, rfl⟩, p, dS, c0, b, bk, pr.1, rfl, hp2, hok, hch, by have := hs1.length_le; omega, ?_⟩
                    have hRl : (lwRows (fc c0 b bk) R).length ≤ 2048 := by
                      have h1 := congrArg List.length hR
                      rw [List.length_map, List.length_take] at h1
                      have h2 := parts_len (items := items) (by omega)
                      have h3 := List.length_filterMap_le (fun r : (List Int × List Int) × Option Int => r.2.map (· + fc c0 b bk r.1.1)) R
                      unfold lwRows
                      omega
                    unfold encO
                    refine ⟨_, hr2, by rw [List.length_map]; omega, R ++ [(pr, some v)], hR2 _, hB2, kvs2, hk2, hl2.put (by rw [updM_ne hrd]; exact hr0), ?_⟩
                    simp [lwRows]
            · rintro _ μ1 ⟨x_chosen, x_left, x_rest, rfl, R, hR, hB, kvs1, hk1, hl1, hr1⟩
              rw [List.length_map, List.take_length] at hR
              walk_at "dl"
              refine ⟨_, hr1, ?_⟩
              have hl2 : Less (updM μ d (some (nkM P w K kvs1))) (updM μ1 r none) := hl1.put (by rw [updM_ne hrd]; exact hr0)
              generalize updM μ1 r none = μ2 at hl2
              have hd2 := hl2 d _ updM_same
              have step := LwOk.step he hR hB
              rw [show many.toNat - 1 + 1 = many.toNat by omega] at step
              have hkl := hk1.len (by rw [upN_len]; exact hok.len)
              refine fNe_en (enLst enI) (a := lwRows (fc c0 b bk) R) (b := []) ⟨_, rfl, ?_⟩
              generalize lwRows (fc c0 b bk) R = rw0 at step
              by_cases h0 : rw0 = []
              · rw [if_neg (by simpa using h0)]
                obtain ⟨hk', hg'⟩ := hk1.put hsub hm0 hm1 (step.1 h0)
                exact ⟨kvs1, (items, many), ⟨⟨d, rfl, hd2⟩, rfl⟩, by omega, none, _, hk', step.1 h0, hg', less_upd hl2⟩
              · rw [if_pos (by simpa using h0)]
                refine .inr ⟨_, rw0, rfl, (fun e => by cases e), rfl, List.length_pos_iff.mpr h0, fun m hm1' hy => ?_⟩
                have hb' := step.2 m hm1' hy
                obtain ⟨hk', hg'⟩ := hk1.put hsub hm0 hm1 hb'
                exact ⟨kvs1, (items, many), ⟨⟨d, rfl, hd2⟩, rfl⟩, by omega, some m, _, hk', hb', hg', less_upd hl2⟩
        · rintro _ μ1 ⟨x_rows, x_chosen, x_left, x_rest, rfl, o, kvs', hk', hb', hg', hl'⟩
          walk_at "dl"
          refine ⟨kvs', (items, many), ⟨⟨d, rfl, hl' _ _ updM_same⟩, rfl⟩, _, hg', ?_⟩
          exact ⟨_, hl', q o kvs' hb' hk'⟩
theorem ok_least_with (T : Txt K mg base) : FnD P w K mg base 15 (He.ga K "least_with") (sp_least_with K) := by
  obtain ⟨fd, F⟩ := T.f_least_with
  refine fnD F sc_least_with (F.bindsN fun _ _ _ _ _ _ us hl => match us, hl with | [_, _, _], _ => rfl) (fun ds μ Q ξ h => by obtain ⟨c, b, bk, r, rfl, hok, h0, h1, htab, q⟩ := h; rfl) fun cdv hcd A outer s H E Φ ξ ok ds μ Q hr h => ?_
  obtain ⟨c, b, bk, r, rfl, hok, h0, h1, htab, q⟩ := h
  refine ⟨_, (xss_cons (xs_expr (xe_call (ok_need_rule T) (hr.mono (by first | decide | omega)) T.g_need_rule (kp T.f_need_rule) (xa_cons (xv 0) xa_nil)))
    (xss_cons (xs_expr (xe_call (ok_need_basket_d T) (hr.mono (by first | decide | omega)) T.g_need_basket (kp T.f_need_basket) (xa_cons (xv 1) xa_nil)))
    (xss_cons (xs_if (xt_not (xt_val (xe_call (ok_is_integer T) (hr.mono (by first | decide | omega)) T.g_is_integer (kp T.f_is_integer) (xa_cons (xv 2) (xa_cons xe_int (xa_cons (xe_gint T.i_MAX_ITEMS) xa_nil))))))
    (xss_one xs_never)
    xss_nil)
    (xss_cons (xs_asg (xe_tup (xa_cons (xe_make false T.S.mkr (ok_Search_init T) (hr.mono (by first | decide | omega)) T.g_Search (xa_cons (xv 0) (xa_cons (xv 1) xa_nil))) (xa_cons xe_dnewN xa_nil))) (xg_tup (n := 2) (xgs_cons (xg_name (i := 3) sc_least_with.nd) (xgs_cons (xg_name (i := 4) sc_least_with.nd) xgs_nil))))
    (xss_cons (xs_def (st := s_least_with_least) (name := "least") (q := "least_with.<locals>.least") (i := 5) T.t_least_with hcd sc_least_with.nd (hq := by show _ = (Str.ofString "least_with" ++ Str.ofString ".<locals>.") ++ Str.ofString "least"; decide) (hfree := by show ∀ y ∈ (C8.fnScope s_least_with_least).names, y.2 = .free → (defScope s_least_with).names.lookup y.1 = some .cell ∨ (defScope s_least_with).names.lookup y.1 = some .free; decide +kernel))
    (xss_one (xs_ret (xe_callN (i := 5) (js := [4, 5, 3]) (mk := mkN _ s_least_with_least "least" "least_with.<locals>.least") (fun c => ok_least_with_least T 12 _ c) (fun c ok => NdefX.Caps.made ok (by show ∀ y ∈ (C8.fnScope s_least_with_least).names, y.2 = .free → (defScope s_least_with).names.lookup y.1 = some .cell ∨ (defScope s_least_with).names.lookup y.1 = some .free; decide +kernel) (by decide +kernel) (by rfl)) (hr.mono (by first | decide | omega)) passD (xa_cons (xe_call (ok_all_items T) (hr.mono (by first | decide | omega)) T.g_all_items (kp T.f_all_items) (xa_cons (xv 1) xa_nil)) (xa_cons (xv 2) xa_nil)))))))))), ?_⟩
  walk_at "dl"
  refine ⟨c, b, rfl, bk, 10, rfl, by have := hok.len; omega, by have := hok.len; omega, hok.amt, ?_⟩
  refine ⟨_, _, _, rfl, rfl, _, rfl, by simp [DL.isInt]; omega, ?_⟩
  intro a ha
  refine ⟨a, c, b, bk, rfl, updM_same, fun dS μ' hd hp hdd hoth => ⟨rfl, ?_⟩⟩
  have hda : dS ≠ a := fun e => by rw [e, updM_same] at hd; cases hd
  rw [updM_ne hda] at hd
  intro d hd0
  have hda2 : d ≠ a := fun e => by rw [e, hp] at hd0; cases hd0
  have hdS : d ≠ dS := fun e => by rw [e, hdd] at hd0; cases hd0
  have htb : ∀ x, x ≠ a → x ≠ dS → μ' x = μ x := fun x h1 h2 => by rw [hoth x h1 h2, updM_ne h1]
  have hT : tabA K (He.ga K "least_with") ≠ a := fun e => by rw [e, ha] at htab; cases htab
  have hT2 : tabA K (He.ga K "least_with") ≠ dS := fun e => by rw [e, hd] at htab; cases htab
  have hT3 : tabA K (He.ga K "least_with") ≠ d := fun e => by rw [← e, htb _ hT hT2, htab] at hd0; cases hd0
  refine ⟨by rw [updM_ne hT3, htb _ hT hT2]; exact htab, fun f cc hf0 => ?_⟩
  have hfd : f ≠ d := fun e => by rw [e, updM_same] at hf0; cases hf0
  have hfa : f ≠ a := fun e => by rw [e, updM_ne (Ne.symm hda2), hp] at hf0; cases hf0
  refine ⟨cc, rfl, [.ref d, .ref f, .ref a], rfl, ?_⟩
  refine ⟨bk, rfl, by have := hok.len; omega, updM_same, ?_⟩
  have hfS : f ≠ dS := fun e => by rw [updM_ne hfd, e, hdd] at hf0; cases hf0
  refine ⟨a, d, dS, c, b, bk, upN bk.length, r, [], rfl, rfl, by rw [updM_ne (Ne.symm hfa), updM_ne (Ne.symm hda2)]; exact hp, by rw [updM_ne (Ne.symm hfd)]; exact updM_same, hfd, hok, List.Sublist.refl _, by rw [upN_len]; have := hok.len; omega, h0, by omega, KnownL.nil _ _, fun o kvs' hb hk => ?_⟩
  refine ⟨μ, fun x m e => ?_, q o hb⟩
  have h1 : x ≠ a := fun z => by rw [z, ha] at e; cases e
  have h2 : x ≠ dS := fun z => by rw [z, hd] at e; cases e
  have h3 : x ≠ d := fun z => by rw [← z, htb x h1 h2, e] at hd0; cases hd0
  have h4 : x ≠ f := fun z => by
    rw [updM_ne hfd, ← z, htb x h1 h2, e] at hf0
    cases hf0
  rw [updM_ne h3, updM_ne h4, updM_ne h3, htb x h1 h2]
  exact e

theorem ok_splitting_gain (T : Txt K mg base) : FnD P w K mg base 15 (He.ga K "splitting_gain") sp_splitting_gain := by
  obtain ⟨fd, F⟩ := T.f_splitting_gain
  refine fnD F sc_splitting_gain (F.bindsN fun _ _ _ _ _ _ us hl => match us, hl with | [_, _], _ => rfl) (fun ds μ Q ξ h => by obtain ⟨c, b, bk, rfl, hok, q⟩ := h; rfl) fun cdv hcd A outer s H E Φ ξ ok ds μ Q hr h => ?_
  obtain ⟨c, b, bk, rfl, hok, q⟩ := h
  refine ⟨_, (xss_cons (xs_expr (xe_call (ok_need_rule T) (hr.mono (by first | decide | omega)) T.g_need_rule (kp T.f_need_rule) (xa_cons (xv 0) xa_nil)))
    (xss_cons (xs_expr (xe_call (ok_need_basket_d T) (hr.mono (by first | decide | omega)) T.g_need_basket (kp T.f_need_basket) (xa_cons (xv 1) xa_nil)))
    (xss_one (xs_ret (xe_op xo_sub (xe_meth (xv 0) T.R.cl T.R.mRounded (ok_Rule_rounded T) (hr.mono (by first | decide | omega)) (xa_cons (xe_callB xc_sum T.z_sum (by decide +kernel) (xa_cons (xv 1) xa_nil)) xa_nil)) (xe_ix (xe_meth (xe_make false T.S.mkr (ok_Search_init T) (hr.mono (by first | decide | omega)) T.g_Search (xa_cons (xv 0) (xa_cons (xv 1) xa_nil))) T.S.cl T.S.mBounds (ok_Search_bounds T 12) (hr.mono (by first | decide | omega)) (xa_cons (xe_call (ok_all_items T) (hr.mono (by first | decide | omega)) T.g_all_items (kp T.f_all_items) (xa_cons (xv 1) xa_nil)) xa_nil)) xe_int)))))), ?_⟩
  walk_at "dl"
  have hlen := hok.len
  refine ⟨c, b, rfl, bk, 10, rfl, by omega, by omega, hok.amt, bk, rfl, c, b, bk.sum, rfl, hok.ru, sum_nm (by omega) hok.amt, ?_⟩
  try walk_at "dl"
  refine search_go hok fun z μ' hb hl => ?_
  exact ⟨_, rfl, _, atI_0, _, rfl, μ, hl, q z hb⟩
theorem ok_total_of (T : Txt K mg base) : FnD P w K mg base 2 (He.ga K "total_of") sp_total_of := by
  obtain ⟨fd, F⟩ := T.f_total_of
  refine fnD F sc_total_of (F.bindsN fun _ _ _ _ _ _ us hl => match us, hl with | [_, _, _], _ => rfl) (fun ds μ Q ξ h => by obtain ⟨c, b, bk, S, rfl, hru, hl, ha, hv, q⟩ := h; rfl) fun cdv hcd A outer s H E Φ ξ ok ds μ Q hr h => ?_
  obtain ⟨c, b, bk, S, rfl, hru, hl, ha, hv, q⟩ := h
  refine ⟨_, (xss_one (xs_ret (xe_callB xc_sum T.z_sum (by decide +kernel) (xa_cons (xe_lcB [(("receipt" : Str), 4)] sc_total_of.nd (blkOk_by (own := [(("receipt" : Str), 4)]) (by rfl)) (xi_seq (xv 2)) (fun _ _ _ _ _ => (xg_name (i := 4) sc_total_of.nd)) (fun _ _ _ _ _ => by exact xts_nil) (fun _ _ _ _ _ => by exact (xe_meth (xv 0) T.R.cl T.R.mRounded (ok_Rule_rounded T) (hr.mono (by first | decide | omega)) (xa_cons (xe_callB xc_sum T.z_sum (by decide +kernel) (xa_cons (xe_lcB [(("index" : Str), 3)] sc_total_of.nd (blkOk_by (own := [(("index" : Str), 3)]) (by rfl)) (xi_seq (xv 4)) (fun _ _ _ _ _ => (xg_name (i := 3) sc_total_of.nd)) (fun _ _ _ _ _ => by exact xts_nil) (fun _ _ _ _ _ => by exact (xe_ix (xv 1) (xv 3)))) xa_nil)) xa_nil)))) xa_nil)))), ?_⟩
  obtain ⟨h1, h2, h3, h4⟩ := hv.lens
  walk_at "dl"
  refine lc_mapM (l := S) (enc := tupI) (fun r => D.int (fc c b bk r)) (by omega) (fun r hr2 μ' Qy hl1 hy => ?_) fun μ1 hl1 => ?_
  · have hrl := h3 r hr2
    unfold tupI
    walk_at "dl"
    refine lc_mapL (l := r) (enc := D.int) (fun i => D.int (bk.getD i.toNat 0)) (by omega) (fun i hi μ2 Qy2 hl2 hy2 => ?_) fun μ2 hl2 => ?_
    · have h := h4 r hr2 i hi
      walk_at "dl"
      exact ⟨_, atI_I h.1 h.2, hy2⟩
    · have e : r.map (fun i => D.int (bk.getD i.toNat 0)) = (r.map fun i => bk.getD i.toNat 0).map D.int := by rw [List.map_map] <;> rfl
      have hs := sumAt_amt ha r
      refine ⟨r.map fun i => bk.getD i.toNat 0, by rw [e] <;> rfl, ?_⟩
      exact ⟨c, b, sumAt bk r, rfl, hru, ⟨by omega, by omega⟩, hy μ2 hl2⟩
  · exact ⟨S.map (fc c b bk), by rw [List.map_map] <;> rfl, μ, hl1, q⟩
theorem ok_total (T : Txt K mg base) : FnD P w K mg base 4 (He.ga K "total") sp_total := by
  obtain ⟨fd, F⟩ := T.f_total
  refine fnD F sc_total (F.bindsN fun _ _ _ _ _ _ us hl => match us, hl with | [_, _, _], _ => rfl) (fun ds μ Q ξ h => by obtain ⟨c, b, bk, S, rfl, hru, hl, ha, hv, q⟩ := h; rfl) fun cdv hcd A outer s H E Φ ξ ok ds μ Q hr h => ?_
  obtain ⟨c, b, bk, S, rfl, hru, hl, ha, hv, q⟩ := h
  refine ⟨_, (xss_cons (xs_expr (xe_call (ok_need_rule T) (hr.mono (by first | decide | omega)) T.g_need_rule (kp T.f_need_rule) (xa_cons (xv 0) xa_nil)))
    (xss_cons (xs_expr (xe_call (ok_need_basket_d T) (hr.mono (by first | decide | omega)) T.g_need_basket (kp T.f_need_basket) (xa_cons (xv 1) xa_nil)))
    (xss_cons (xs_if (xt_not (xt_val (xe_call (ok_splits T) (hr.mono (by first | decide | omega)) T.g_splits (kp T.f_splits) (xa_cons (xe_callB xc_len T.z_len (by decide +kernel) (xa_cons (xv 1) xa_nil)) (xa_cons (xv 2) xa_nil)))))
    (xss_one xs_never)
    xss_nil)
    (xss_one (xs_ret (xe_call (ok_total_of T) (hr.mono (by first | decide | omega)) T.g_total_of (kp T.f_total_of) (xa_cons (xv 0) (xa_cons (xv 1) (xa_cons (xv 2) xa_nil))))))))), ?_⟩
  walk_at "dl"
  refine ⟨c, b, rfl, bk, 10, rfl, by omega, by omega, ha, bk.length, S, rfl, hv, by omega, ?_⟩
  try walk_at "dl"
  refine ⟨c, b, bk, S, rfl, hru, by omega, ha, hv, ?_⟩
  exact dq q
theorem ok_law (T : Txt K mg base) {fd : FuncData} (F : FunD K "law" "law" (defArgs s_law) (defBody s_law) (defScope s_law) [] [] (He.ga K "law") fd) : FnOk P w K mg base (L2N.CX P w) 28 (He.ga K "law") fd ["script"] (spV K (spLawT K tf 63)) := by
  refine fnOkD F sc_law (fun ds μ Q ξ h => by obtain ⟨ns, rfl, _⟩ := h; rfl) fun cdv hcd A outer s H E Φ ξ ok ds μ Q hr h => ?_
  obtain ⟨ns, rfl, hl, hb, htab, q⟩ := h
  refine ⟨_, (xss_cons (xs_for PassesOwn.leaving (xi_seq (xe_call (ok_law_bags T) (hr.mono (by first | decide | omega)) T.g_law_bags (kp T.f_law_bags) (xa_cons (xv 0) (xa_cons xe_int xa_nil)))) (xg_name (i := 1) sc_law.nd)
    (xss_cons (xs_set (i := 2) sc_law.nd (xe_call (ok_law_rule T) (hr.mono (by first | decide | omega)) T.g_law_rule (kp T.f_law_rule) (xa_cons (xv 1) (xa_cons xe_int xa_nil))))
    (xss_cons (xs_asg (xe_tup (xa_cons (xe_make true T.R.mkr (ok_Rule_init T) (hr.mono (by first | decide | omega)) T.g_Rule (xa_cons (xe_ix (xv 2) xe_int) (xa_cons (xe_ix (xv 2) xe_int) xa_nil))) (xa_cons (xe_call (ok_law_basket T) (hr.mono (by first | decide | omega)) T.g_law_basket (kp T.f_law_basket) (xa_cons (xv 1) (xa_cons (xv 2) (xa_cons xe_int xa_nil)))) xa_nil))) (xg_tup (n := 2) (xgs_cons (xg_name (i := 3) sc_law.nd) (xgs_cons (xg_name (i := 4) sc_law.nd) xgs_nil))))
    (xss_cons (xs_asg (xe_tup (xa_cons (xe_callB xc_len T.z_len (by decide +kernel) (xa_cons (xv 4) xa_nil)) (xa_cons (xe_call (ok_least_total T) (hr.mono (by first | decide | omega)) T.g_least_total (kp T.f_least_total) (xa_cons (xv 3) (xa_cons (xv 4) xa_nil))) xa_nil))) (xg_tup (n := 2) (xgs_cons (xg_name (i := 5) sc_law.nd) (xgs_cons (xg_name (i := 6) sc_law.nd) xgs_nil))))
    (xss_cons (xs_set (i := 7) sc_law.nd (xe_lcB [(("receipts" : Str), 13)] sc_law.nd (blkOk_by (own := [(("receipts" : Str), 13)]) (by rfl)) (xi_rng1 T.z_range (xa_cons xe_int xa_nil)) (fun _ _ _ _ _ => (xg_name (i := 13) sc_law.nd)) (fun _ _ _ _ _ => by exact xts_nil) (fun _ _ _ _ _ => by exact (xe_call (ok_least_with T) (hr.mono (by first | decide | omega)) T.g_least_with (kp T.f_least_with) (xa_cons (xv 3) (xa_cons (xv 4) (xa_cons (xv 13) xa_nil)))))))
    (xss_cons (xs_setLcB (i := 8) [(("receipts" : Str), 13)] sc_law.nd (sw_true rfl rfl rfl (by rfl)) (blkOk_by (own := [(("receipts" : Str), 13)]) (by rfl)) (xi_rng1 T.z_range (xa_cons xe_int xa_nil)) (fun _ _ _ _ _ => (xg_name (i := 13) sc_law.nd)) (fun _ _ _ _ _ => by exact (xts_one (xt_cmp xo_isN (xe_ix (xv 7) (xv 13)) xe_non (nomark _)))) (fun _ _ _ _ _ => by exact (xv 13)))
    (xss_cons (xs_if (xt_cmp (xo_ne hr.units) (xv 8) (xe_lcB [(("receipts" : Str), 13)] sc_law.nd (blkOk_by (own := [(("receipts" : Str), 13)]) (by rfl)) (xi_rng1 T.z_range (xa_cons xe_int xa_nil)) (fun _ _ _ _ _ => (xg_name (i := 13) sc_law.nd)) (fun _ _ _ _ _ => by exact (xts_one (XW.pt (xw_or (xt_cmp xo_gt (xv 13) (xv 5) (nomark _)) (xw_or1 (XW.pt (xw_and (xt_cmp (xo_eq hr.units) (xv 13) xe_int (nomark _)) (xw_and1 (xt_cmp xo_gt (xv 5) xe_int (nomark _)))))))))) (fun _ _ _ _ _ => by exact (xv 13))) (nomark _))
    (xss_one (xs_ret xe_bl))
    xss_nil)
    (xss_cons (xs_setLcB (i := 9) [(("paid" : Str), 14)] sc_law.nd (sw_true rfl rfl rfl (by rfl)) (blkOk_by (own := [(("paid" : Str), 14)]) (by rfl)) (xi_seq (xv 7)) (fun _ _ _ _ _ => (xg_name (i := 14) sc_law.nd)) (fun _ _ _ _ _ => by exact (xts_one (xt_cmp xo_notN (xv 14) xe_non (nomark _)))) (fun _ _ _ _ _ => by exact (xv 14)))
    (xss_cons (xs_if (XW.pt (xw_or (xt_cmp (xo_ne hr.units) (xe_callB (xc_min rfl) T.z_min (by decide +kernel) (xa_cons (xv 9) xa_nil)) (xv 6) (nomark _)) (xw_or1 (xt_cmp (xo_ne hr.units) (xe_callB xc_len T.z_len (by decide +kernel) (xa_cons (xe_callK (ok_best_splitting T) (hr.mono (by first | decide | omega)) T.g_best_splitting (kp T.f_best_splitting) (xa_cons (xv 3) (xa_cons (xv 4) xa_nil)) xe_bl) xa_nil)) (xe_index (xv 7) (xv 6) (room65 hr)) (nomark _)))))
    (xss_one (xs_ret xe_bl))
    xss_nil)
    (xss_cons (xs_for PassesOwn.leaving (xi_seq (xe_lstZip T.z_list T.z_zip (xa_cons (xv 9) (xa_cons (xe_slice (xv 9) (xp_some xe_int) xp_none) xa_nil)))) (xg_tup (n := 2) (xgs_cons (xg_name (i := 10) sc_law.nd) (xgs_cons (xg_name (i := 11) sc_law.nd) xgs_nil)))
    (xss_one (xs_if (XW.pt (xw_or (xt_not (xt_chain xo_le xo_le (xe_op xo_sub xe_int (xe_ix (xv 2) xe_int)) (xe_op xo_sub (xv 11) (xv 10)) (xe_ix (xv 2) xe_int))) (xw_or1 (xt_cmp (xo_ne hr.units) (xe_op xo_mod (xe_op xo_sub (xv 11) (xv 10)) (xe_ix (xv 2) xe_int)) xe_int (nomark _)))))
    (xss_one (xs_ret xe_bl))
    xss_nil)))
    (xss_cons (xs_cut (xs_if (xt_cmp xo_gt (xv 5) xe_int (nomark _))
    (xss_cons (xs_if (xt_cmp (xo_ne hr.units) (xe_ix (xv 7) xe_int) (xe_call (ok_law_rounded T) (hr.mono (by first | decide | omega)) T.g_law_rounded (kp T.f_law_rounded) (xa_cons (xv 2) (xa_cons (xe_callB xc_sum T.z_sum (by decide +kernel) (xa_cons (xv 4) xa_nil)) xa_nil))) (nomark _))
    (xss_one (xs_ret xe_bl))
    xss_nil)
    (xss_cons (xs_if (xt_cmp (xo_ne hr.units) (xe_op xo_sub (xe_ix (xv 7) xe_int) (xv 6)) (xe_call (ok_splitting_gain T) (hr.mono (by first | decide | omega)) T.g_splitting_gain (kp T.f_splitting_gain) (xa_cons (xv 3) (xa_cons (xv 4) xa_nil))) (nomark _))
    (xss_one (xs_ret xe_bl))
    xss_nil)
    (xss_cons (xs_if (xt_cmp (xo_ne hr.units) (xe_ix (xv 7) (xv 5)) (xe_callB xc_sum T.z_sum (by decide +kernel) (xa_cons (xe_lcB [(("amount" : Str), 15)] sc_law.nd (blkOk_by (own := [(("amount" : Str), 15)]) (by rfl)) (xi_seq (xv 4)) (fun _ _ _ _ _ => (xg_name (i := 15) sc_law.nd)) (fun _ _ _ _ _ => by exact xts_nil) (fun _ _ _ _ _ => by exact (xe_meth (xv 3) T.R.cl T.R.mCharge (ok_Rule_charge T) (hr.mono (by first | decide | omega)) (xa_cons (xv 15) xa_nil)))) xa_nil)) (nomark _))
    (xss_one (xs_ret xe_bl))
    xss_nil)
    (xss_one (xs_if (xt_cmp xo_lt (xe_call (ok_greatest_total T) (hr.mono (by first | decide | omega)) T.g_greatest_total (kp T.f_greatest_total) (xa_cons (xv 3) (xa_cons (xv 4) xa_nil))) (xe_callB (xc_max rfl) T.z_max (by decide +kernel) (xa_cons (xv 9) xa_nil)) (nomark _))
    (xss_one (xs_ret xe_bl))
    xss_nil)))))
    xss_nil))
    (xss_cons (xs_for PassesOwn.leaving (xi_seq (xe_tup (xa_cons (xe_call (ok_best_splitting_d T) (hr.mono (by first | decide | omega)) T.g_best_splitting (kp T.f_best_splitting) (xa_cons (xv 3) (xa_cons (xv 4) xa_nil))) (xa_cons (xe_callK (ok_best_splitting T) (hr.mono (by first | decide | omega)) T.g_best_splitting (kp T.f_best_splitting) (xa_cons (xv 3) (xa_cons (xv 4) xa_nil)) xe_bl) xa_nil)))) (xg_name (i := 12) sc_law.nd)
    (xss_one (xs_if (XW.pt (xw_or (xt_cmp (xo_ne hr.units) (xe_call (ok_total T) (hr.mono (by first | decide | omega)) T.g_total (kp T.f_total) (xa_cons (xv 3) (xa_cons (xv 4) (xa_cons (xv 12) xa_nil)))) (xv 6) (nomark _)) (xw_or1 (xt_cmp (xo_ne hr.units) (xe_ix (xv 7) (xe_callB xc_len T.z_len (by decide +kernel) (xa_cons (xv 12) xa_nil))) (xv 6) (nomark _)))))
    (xss_one (xs_ret xe_bl))
    xss_nil)))
    (xss_one (xs_if (xt_cmp xo_notB (xe_call (ok_is_splitting T) (hr.mono (by first | decide | omega)) T.g_is_splitting (kp T.f_is_splitting) (xa_cons (xv 4) (xa_cons (xe_call (ok_best_splitting_d T) (hr.mono (by first | decide | omega)) T.g_best_splitting (kp T.f_best_splitting) (xa_cons (xv 3) (xa_cons (xv 4) xa_nil))) xa_nil))) xe_bl (nomark _))
    (xss_one (xs_ret xe_bl))
    xss_nil))))))))))))))
    (xss_one (xs_ret (xe_and (xe_cmp (xo_eq hr.units) (xe_call (ok_least_with T) (hr.mono (by first | decide | omega)) T.g_least_with (kp T.f_least_with) (xa_cons (xe_make true T.R.mkr (ok_Rule_init T) (hr.mono (by first | decide | omega)) T.g_Rule (xa_cons xe_int (xa_cons xe_int xa_nil))) (xa_cons (xe_tup (xa_cons xe_int (xa_cons xe_int (xa_cons xe_int xa_nil)))) (xa_cons xe_int xa_nil)))) xe_int (nomark _)) (xe_one (xe_cmp (xo_eq hr.units) (xe_call (ok_least_with T) (hr.mono (by first | decide | omega)) T.g_least_with (kp T.f_least_with) (xa_cons (xe_make true T.R.mkr (ok_Rule_init T) (hr.mono (by first | decide | omega)) T.g_Rule (xa_cons xe_int (xa_cons xe_int xa_nil))) (xa_cons (xe_tup xa_nil) (xa_cons xe_int xa_nil)))) xe_int (nomark _))))))), ?_⟩
  have htb : μ (tabA K (He.ga K "least_with")) = some (.tbl "least_with.<locals>.least") := htab ⟨fun K => He.ga K "least_with", "least_with.<locals>.least"⟩ (by simp [tf])
  walk_at "dl"
  refine ⟨ns, 6, rfl, by decide, hl, hb, fun ps μ0 hless hps hnew => ?_⟩
  walk_at "dl"
  refine for_in (fun i δ μ' => AllB ps μ' ∧ μ' (tabA K (He.ga K "least_with")) = some (.tbl "least_with.<locals>.least") ∧ ∃ x_bag x_pair x_rule x_basket x_count x_least x_rows x_none x_known x_one x_other x_splitting x_receipts x_paid x_amount : Option D, δ = [some (.fro (ns.map .int)), x_bag, x_pair, x_rule, x_basket, x_count, x_least, x_rows, x_none, x_known, x_one, x_other, x_splitting, x_receipts, x_paid, x_amount]) ⟨hps, hless _ _ htb, _, _, _, _, _, _, _, _, _, _, _, _, _, _, _, rfl⟩ ?_ ?_
  · rintro i x _ μ1 hx ⟨hB, hT, x_bag, x_pair, x_rule, x_basket, x_count, x_least, x_rows, x_none, x_known, x_one, x_other, x_splitting, x_receipts, x_paid, x_amount, rfl⟩
    obtain ⟨p, hp, rfl⟩ := ref_mem hx
    walk_at "dl"
    refine ⟨p, 10, rfl, hB p hp, by decide, fun c b μ3 hc1 hc2 hb1 hb2 b3 => ?_⟩
    have L3 := (BagL.refl (hB p hp)).step b3
    have hru : Ru c b := ⟨hc1, hc2, hb1, hb2⟩
    walk_at "dl"
    refine mk_rule hru ?_
    refine ⟨p, c, b, 8, rfl, b3.bag, hru, by decide, by decide, fun bk μ4 hbl hba b4 => ?_⟩
    have L4 := L3.step b4
    have hok : SrOk c b bk := ⟨hru, by omega, hba⟩
    walk_at "dl"
    refine ⟨c, b, bk, rfl, hok, fun z hz => ?_⟩
    walk_at "dl"
    have hT4 := L4.tbl (hB p hp) hT
    have hbl2 := hok.len
    unfold rng
    refine lc_mapL (l := List.range 11) (enc := fun k : Nat => D.int (0 + (k : Int))) (fun k => encO (lwF (fc c b bk) (upN bk.length) k)) (by rw [List.length_range]; omega) (fun k hk μ6 Qy hl6 hy => ?_) fun μ5 hl5 => ?_
    · have hk2 := List.mem_range.mp hk
      walk_at "dl"
      refine ⟨c, b, bk, _, rfl, hok, by omega, by omega, hl6 _ _ hT4, fun o ho => ?_⟩
      rw [Int.toNat_natCast] at ho
      rw [← lwF_eq ho]
      exact hy
    obtain ⟨r, hr⟩ : ∃ r : Nat → Option Int, r = lwF (fc c b bk) (upN bk.length) := ⟨_, rfl⟩
    have hat : ∀ k : Nat, k < 11 → atI ((List.range 11).map fun k => encO (r k)) (k : Int) = some (encO (r k)) := fun k hk => by
      rw [atI_eq (by omega) (by rw [List.length_map, List.length_range]; omega), List.getElem?_map, Int.toNat_natCast, List.getElem?_range hk]
      rfl
    rw [← hr]
    refine lc_filter (l := List.range 11) (enc := fun k : Nat => D.int (0 + (k : Int))) (fun k => !isS (r k)) (fun k => D.int (k : Int)) (by rw [List.length_range]; omega) (fun k hk μ6 Qe Qy he hy => ?_) fun μ6 hl6 => ?_
    · have hk2 := List.mem_range.mp hk
      walk_at "dl"
      refine ⟨_, hat k hk2, ?_⟩
      cases hk3 : r k with
      | none =>
        unfold encO
        walk_at "dl"
        exact hy (by rw [hk3]; rfl)
      | some v =>
        unfold encO
        walk_at "dl"
        exact he (by rw [hk3]; rfl)
    refine lc_filter (l := List.range 11) (enc := fun k : Nat => D.int (0 + (k : Int))) (fun k => decide (k > bk.length ∨ k = 0 ∧ 0 < bk.length)) (fun k => D.int (k : Int)) (by rw [List.length_range]; omega) (fun k hk μ7 Qe Qy he hy => ?_) fun μ7 hl7 => ?_
    · have hk2 := List.mem_range.mp hk
      walk_at "dl"
      split
      · rename_i h
        exact hy (decide_eq_true (.inl h))
      · rename_i h
        split
        · rename_i h0
          split
          · rename_i h1
            exact hy (decide_eq_true (.inr ⟨h0, h1⟩))
          · rename_i h1
            exact he (decide_eq_false fun q => by rcases q with q | ⟨_, q⟩ <;> omega)
        · rename_i h0
          exact he (decide_eq_false fun q => by rcases q with q | ⟨q, _⟩ <;> omega)
    have hP : (List.range 11).filter (fun k => decide (k > bk.length ∨ k = 0 ∧ 0 < bk.length)) = (List.range 11).filter fun k => !isS (r k) := by
      refine List.filter_congr fun k hk => ?_
      have h1 := lwF_none (fc_sym c b bk) (items := upN bk.length) (k := k)
      have h2 : upN bk.length ≠ [] ↔ 0 < bk.length := by rw [← List.length_pos_iff, upN_len]
      rw [upN_len, h2, ← hr] at h1
      cases h3 : isS (r k) with
      | false => exact decide_eq_true (h1.mp h3)
      | true => exact decide_eq_false fun q => by rw [h1.mpr q] at h3; cases h3
    rw [hP]
    have hI : ∀ l : List Nat, l.map (fun k : Nat => D.int (k : Int)) = (l.map fun k : Nat => (k : Int)).map D.int := fun l => by rw [List.map_map] <;> rfl
    rw [hI]
    refine fNe_no (enLst enI) rfl (ifF ?_)
    refine ⟨_, .inl rfl, ?_⟩
    refine lc_filter (l := List.range 11) (enc := fun k => encO (r k)) (fun k => isS (r k)) (fun k => encO (r k)) (by rw [List.length_range]; omega) (fun k hk μ8 Qe Qy he hy => ?_) fun μ8 hl8 => ?_
    · have hk2 := List.mem_range.mp hk
      cases hk3 : r k with
      | none =>
        unfold encO
        walk_at "dl"
        exact he (by rw [hk3]; rfl)
      | some v =>
        rw [hk3] at hy
        unfold encO at hy ⊢
        walk_at "dl"
        exact hy rfl
    have hkn : ((List.range 11).filter fun k => isS (r k)).map (fun k => encO (r k)) = (knownL (fc c b bk) (upN bk.length)).map D.int := by
      unfold knownL
      rw [← hr, List.map_map]
      refine List.map_congr_left fun k hk => ?_
      rw [isS_some (List.mem_filter.mp hk).2]
      rfl
    rw [hkn]
    obtain ⟨kn, hkd⟩ : ∃ kn, kn = knownL (fc c b bk) (upN bk.length) := ⟨_, rfl⟩
    rw [← hkd]
    walk_at "dl"
    have hlow := hkd ▸ low_known hz (by rw [upN_len]; exact hbl2)
    have hbound : ∀ v ∈ kn, z.1 ≤ v ∧ v ≤ z.2.1 := fun v hv => by
      rw [hkd] at hv
      obtain ⟨k, hk⟩ := known_mem hv
      exact hk.bok hz
    refine mn_of rfl (List.length_pos_of_mem hlow) fun m hm hmin => ?_
    have em : m = z.1 := by
      have := hmin z.1 hlow
      have := (hbound m hm).1
      omega
    rw [em]
    refine fNe_int ?_
    rw [show (!decide (z.1 = z.1)) = false by simp]
    refine ifF ?_
    refine ⟨c, b, bk, true, rfl, hok, fun S hS => ?_⟩
    have hSl : S.length < 11 := by
      have := (splt_validS hS.sp).mix.lens.1
      omega
    have hrow : (List.range 11).map (fun k => encO (r k)) = ((List.range 11).map r).map enO.enc := by
      rw [List.map_map]
      rfl
    have hget : ∀ k : Nat, k < 11 → ((List.range 11).map r)[k]? = some (r k) := fun k hk => by rw [List.getElem?_map, List.getElem?_range hk] <;> rfl
    have hrS : r S.length = some z.1 := by
      rw [hr]
      exact few_low hS hz (lwF_ok _ _ _)
    obtain ⟨qs, pp, zz, i1, i2, i3, i4, i5, i6, i7⟩ := index_en enO (l := (List.range 11).map r) (a := some z.1) (j := S.length) (by rw [hget _ hSl, hrS]) (fun m hm q => by
      rw [hget _ (by omega)] at q
      have := Option.some.inj q
      rw [hr] at this
      exact lwF_more hS hz hm this) (by decide)
    unfold encS
    rw [hrow]
    refine ⟨_, rfl, qs, i1, pp, i2, i3, i4, S.length, zz, i5, i6, i7, ?_⟩
    rw [List.length_map, if_pos rfl, ← hrow]
    refine for_in (fun i δ μ' => Less μ8 μ' ∧ ∃ x_none x_one x_other x_splitting x_receipts x_paid x_amount : Option D, δ = [some (.fro (ns.map .int)), some (.ref p), some (.tup [.int c, .int b]), some (.rule c b), some (.tup (bk.map .int)), some (.int bk.length), some (.int z.1), some (.lst ((List.range 11).map fun k => encO (r k))), x_none, some (.lst (kn.map .int)), x_one, x_other, x_splitting, x_receipts, x_paid, x_amount]) ⟨Less.refl _, _, _, _, _, _, _, _, rfl⟩ ?_ ?_
    · rintro i x _ μ9 hx ⟨hl9, x_none, x_one, x_other, x_splitting, x_receipts, x_paid, x_amount, rfl⟩
      obtain ⟨d1, d2, hd1, hd2, rfl⟩ := zipD_get _ _ i x hx
      rw [cutD_drop (by decide) (by rw [List.length_map]; have := List.length_pos_of_mem hlow; omega), List.getElem?_drop, List.getElem?_map] at hd2
      rw [List.getElem?_map] at hd1
      cases q1 : kn[i]? with
      | none => rw [q1] at hd1; cases hd1
      | some u =>
        cases q2 : kn[(1 : Int).toNat + i]? with
        | none => rw [q2] at hd2; cases hd2
        | some v =>
          rw [q1] at hd1
          rw [q2] at hd2
          cases hd1
          cases hd2
          have q3 : kn[i + 1]? = some v := by rw [← q2]; congr 1; exact Nat.add_comm ..
          rw [hkd] at q1 q3
          obtain ⟨n1, n2, n3⟩ := known_next hru (by rw [upN_len]; exact hbl2) q1 q3
          walk_at "dl"
          rw [if_pos n1, if_pos n2]
          refine ⟨by have := hru.1; omega, ?_⟩
          rw [if_pos n3]
          exact hl9
    · rintro _ μ9 ⟨hl9, x_none, x_one, x_other, x_splitting, x_receipts, x_paid, x_amount, rfl⟩
      walk_at "dl"
      have hrw : ∀ k : Nat, k < 11 → ∀ v, LwOk (fc c b bk) (upN bk.length) k (some v) → atI ((List.range 11).map fun k => encO (r k)) (k : Int) = some (.int v) := fun k hk v hv => by
        rw [hat k hk, hr, lwF_eq hv]
        rfl
      refine cut_in (fun δ μ' => Less μ8 μ' ∧ ∃ x_bag x_none x_known x_one x_other x_splitting x_receipts x_paid x_amount : Option D, δ = [some (.fro (ns.map .int)), x_bag, some (.tup [.int c, .int b]), some (.rule c b), some (.tup (bk.map .int)), some (.int bk.length), some (.int z.1), some (.lst ((List.range 11).map fun k => encO (r k))), x_none, x_known, x_one, x_other, x_splitting, x_receipts, x_paid, x_amount]) ?_ ?_
      · walk_at "dl"
        split
        · rename_i hpos
          have hne : upN bk.length ≠ [] := fun e => by
            have := congrArg List.length e
            rw [upN_len, List.length_nil] at this
            omega
          obtain ⟨v1, hv1⟩ := lw_get (fc_sym c b bk) (items := upN bk.length) (k := 1) (Nat.le_refl _) (by rw [upN_len]; omega)
          obtain ⟨v2, hv2⟩ := lw_get (fc_sym c b bk) (items := upN bk.length) (k := bk.length) (by omega) (by rw [upN_len]; exact Nat.le_refl _)
          have h1 : atI ((List.range 11).map fun k => encO (r k)) 1 = some (.int v1) := hrw 1 (by decide) _ hv1
          have e1 : v1 = rnd c b bk.sum := by rw [hv1.one (fc_sym c b bk) hne, fc_all]
          have e2 : v2 = (bk.map fun a => rnd c b a).sum := by
            have := LwOk.all (fc_sym c b bk) (items := upN bk.length) (v := v2) (by rw [upN_len]; exact hv2)
            rw [this, fc_each]
          subst e1 e2
          refine ⟨_, h1, bk, rfl, c, b, _, rfl, by have := hru.1; omega, ?_⟩
          rw [← rnd_eq hru]
          refine fNe_int ?_
          rw [show (!decide (rnd c b bk.sum = rnd c b bk.sum)) = false by simp]
          refine ifF ⟨_, h1, _, rfl, c, b, bk, rfl, hok, fun z2 hz2 => ?_⟩
          cases hz2.eq hz
          refine fNe_int ?_
          rw [show (!decide (rnd c b bk.sum - z.1 = rnd c b bk.sum - z.1)) = false by simp]
          refine ifF ⟨_, hrw bk.length (by omega) _ hv2, ?_⟩
          refine lc_mapL (l := bk) (enc := D.int) (fun a => D.int (rnd c b a)) (by omega) (fun a ha μ11 Qy hl11 hy => ?_) fun μ11 hl11 => ?_
          · walk_at "dl"
            exact charge1 hru (hba a ha) hy
          refine ⟨bk.map fun a => rnd c b a, by rw [List.map_map]; rfl, ?_⟩
          refine fNe_int ?_
          rw [show (!decide ((bk.map fun a => rnd c b a).sum = (bk.map fun a => rnd c b a).sum)) = false by simp]
          refine ifF ⟨c, b, bk, rfl, hok, fun z3 hz3 => ?_⟩
          cases hz3.eq hz
          refine mx_of rfl (List.length_pos_of_mem hlow) fun m hm hmax => ⟨_, rfl, _, rfl, ?_⟩
          rw [if_neg (by have := (hbound m hm).2; omega)]
          exact hl9.trans hl11
        · exact hl9
      · rintro _ μ10 ⟨hl10, x_bag, x_none, x_known, x_one, x_other, x_splitting, x_receipts, x_paid, x_amount, rfl⟩
        walk_at "dl"
        refine ⟨c, b, bk, false, rfl, hok, fun S1 hS1 => ?_⟩
        refine ⟨c, b, bk, true, rfl, hok, fun S2 hS2 => ?_⟩
        refine for_in (fun i δ μ' => Less μ8 μ' ∧ ∃ x_bag x_pair x_count x_none x_known x_one x_other x_splitting x_receipts x_paid x_amount : Option D, δ = [some (.fro (ns.map .int)), x_bag, x_pair, some (.rule c b), some (.tup (bk.map .int)), x_count, some (.int z.1), some (.lst ((List.range 11).map fun k => encO (r k))), x_none, x_known, x_one, x_other, x_splitting, x_receipts, x_paid, x_amount]) ⟨hl10, _, _, _, _, _, _, _, _, _, _, _, rfl⟩ ?_ ?_
        · rintro i x _ μ11 hx ⟨hl11, x_bag, x_pair, x_count, x_none, x_known, x_one, x_other, x_splitting, x_receipts, x_paid, x_amount, rfl⟩
          obtain ⟨T, hTs, rfl⟩ : ∃ T, BestS (fc c b bk) (upN bk.length) T ∧ x = encS T := by
            match i, hx with
            | 0, hx => cases hx; exact ⟨S1, hS1, rfl⟩
            | 1, hx => cases hx; exact ⟨S2, hS2, rfl⟩
          have hTv := splt_validS hTs.sp
          have hTl : T.length < 11 := by
            have := hTv.mix.lens.1
            omega
          unfold encS
          walk_at "dl"
          refine ⟨c, b, bk, T, rfl, hru, hbl2, hba, hTv, ?_⟩
          rw [(hTs.bok hz).1]
          refine fNe_int ?_
          walk_at "dl"
          refine ⟨_, hrw T.length hTl z.1 (by rw [← few_low hTs hz (lwF_ok _ _ _)]; exact lwF_ok _ _ _), ?_⟩
          refine fNe_int ?_
          rw [show (!decide (z.1 = z.1)) = false by simp]
          exact ifF hl11
        · rintro _ μ11 ⟨hl11, x_bag, x_pair, x_count, x_none, x_known, x_one, x_other, x_splitting, x_receipts, x_paid, x_amount, rfl⟩
          walk_at "dl"
          refine ⟨c, b, bk, false, rfl, hok, fun S3 hS3 => ?_⟩
          have hL := (((L4.less hl5).less hl6).less hl7).less (hl8.trans hl11)
          exact ⟨bk, S3, rfl, hbl2, hba, splt_validS hS3.sp, ifT ⟨hB.bagL hL, hL.tbl (hB p hp) hT⟩⟩
  · rintro _ μ1 ⟨hB, hT, x_bag, x_pair, x_rule, x_basket, x_count, x_least, x_rows, x_none, x_known, x_one, x_other, x_splitting, x_receipts, x_paid, x_amount, rfl⟩
    have a4 : Amt 4 := ⟨by decide, by decide⟩
    have hr5 : Ru 5 3 := ⟨by decide, by decide, by decide, by decide⟩
    walk_at "dl"
    refine mk_rule hr5 ?_
    refine ⟨5, 3, List.replicate 3 4, 2, rfl, ⟨hr5, by decide, fun x hx => by rw [(List.mem_replicate.mp hx).2]; exact a4⟩, by decide, by decide, hT, fun o ho => ?_⟩
    rw [lw_444 ho]
    unfold encO
    refine fEq_int (ifT ?_)
    refine mk_rule hr5 ?_
    refine ⟨5, 3, [], 0, rfl, ⟨hr5, by decide, fun x hx => by cases hx⟩, by decide, by decide, hT, fun o ho => ?_⟩
    rw [ho.eq (LwOk.zero (fc 5 3 []))]
    unfold encO
    refine fEq_int ?_
    exact dq (q _)

end
/-! ### the head -/
def fn : List He5.DefA := [⟨fun K => (He.ga K "is_integer"), "is_integer", "is_integer", defArgs s_is_integer, defBody s_is_integer, defScope s_is_integer, [], []⟩, ⟨fun K => (He5.wf K (He.ga K "Rule") "staticmethod" "is_valid"), "is_valid", "Rule.is_valid", defArgs s_Rule_is_valid, defBody s_Rule_is_valid, defScope s_Rule_is_valid, [], []⟩, ⟨fun K => (He.ma K (He.ga K "Rule") "__init__"), "__init__", "Rule.__init__", defArgs s_Rule_init, defBody s_Rule_init, defScope s_Rule_init, [], []⟩, ⟨fun K => (He.ma K (He.ga K "Rule") "rounded"), "rounded", "Rule.rounded", defArgs s_Rule_rounded, defBody s_Rule_rounded, defScope s_Rule_rounded, [], []⟩, ⟨fun K => (He.ga K "need_amount"), "need_amount", "need_amount", defArgs s_need_amount, defBody s_need_amount, defScope s_need_amount, [], []⟩, ⟨fun K => (He.ma K (He.ga K "Rule") "charge"), "charge", "Rule.charge", defArgs s_Rule_charge, defBody s_Rule_charge, defScope s_Rule_charge, [], []⟩, ⟨fun K => (He.ga K "_law_cell_at"), "_law_cell_at", "_law_cell_at", defArgs s_law_cell_at, defBody s_law_cell_at, defScope s_law_cell_at, [], []⟩, ⟨fun K => (He.ga K "_law_draws"), "_law_draws", "_law_draws", defArgs s_law_draws, defBody s_law_draws, defScope s_law_draws, [], []⟩, ⟨fun K => (He.ga K "_law_bag"), "_law_bag", "_law_bag", defArgs s_law_bag, defBody s_law_bag, defScope s_law_bag, [], []⟩, ⟨fun K => (He.ga K "_law_bags"), "_law_bags", "_law_bags", defArgs s_law_bags, defBody s_law_bags, defScope s_law_bags, [], []⟩, ⟨fun K => (He.ga K "_law_take"), "_law_take", "_law_take", defArgs s_law_take, defBody s_law_take, defScope s_law_take, [], []⟩, ⟨fun K => (He.ga K "_law_far_draw"), "_law_far_draw", "_law_far_draw", defArgs s_law_far_draw, defBody s_law_far_draw, defScope s_law_far_draw, [], []⟩, ⟨fun K => (He.ga K "_law_basket"), "_law_basket", "_law_basket", defArgs s_law_basket, defBody s_law_basket, defScope s_law_basket, [], []⟩, ⟨fun K => (He.ga K "_law_rounded"), "_law_rounded", "_law_rounded", defArgs s_law_rounded, defBody s_law_rounded, defScope s_law_rounded, [], []⟩, ⟨fun K => (He.ga K "_law_rule"), "_law_rule", "_law_rule", defArgs s_law_rule, defBody s_law_rule, defScope s_law_rule, [], []⟩, ⟨fun K => (He.ma K (He.ga K "Search") "__init__"), "__init__", "Search.__init__", defArgs s_Search_init, defBody s_Search_init, defScope s_Search_init, [], []⟩, ⟨fun K => (He.ma K (He.ga K "Search") "receipt"), "receipt", "Search.receipt", defArgs s_Search_receipt, defBody s_Search_receipt, defScope s_Search_receipt, [], []⟩, ⟨fun K => (He.ga K "partings"), "partings", "partings", defArgs s_partings, defBody s_partings, defScope s_partings, [], []⟩, ⟨fun K => (He.ma K (He.ga K "Search") "bounds"), "bounds", "Search.bounds", defArgs s_Search_bounds, defBody s_Search_bounds, defScope s_Search_bounds, [], []⟩, ⟨fun K => (He.ma K (He.ga K "Search") "best"), "best", "Search.best", defArgs s_Search_best, defBody s_Search_best, defScope s_Search_best, [], []⟩, ⟨fun K => (He.ga K "all_items"), "all_items", "all_items", defArgs s_all_items, defBody s_all_items, defScope s_all_items, [], []⟩, ⟨fun K => (He.ga K "need_basket"), "need_basket", "need_basket", defArgs s_need_basket, defBody s_need_basket, defScope s_need_basket, [.int 10], []⟩, ⟨fun K => (He.ga K "need_rule"), "need_rule", "need_rule", defArgs s_need_rule, defBody s_need_rule, defScope s_need_rule, [], []⟩, ⟨fun K => (He.ga K "best_splitting"), "best_splitting", "best_splitting", defArgs s_best_splitting, defBody s_best_splitting, defScope s_best_splitting, [], [(("fewest" : PySem.Str), .bl false)]⟩, ⟨fun K => (He.ga K "greatest_total"), "greatest_total", "greatest_total", defArgs s_greatest_total, defBody s_greatest_total, defScope s_greatest_total, [], []⟩, ⟨fun K => (He.ga K "is_receipt"), "is_receipt", "is_receipt", defArgs s_is_receipt, defBody s_is_receipt, defScope s_is_receipt, [], []⟩, ⟨fun K => (He.ga K "splits"), "splits", "splits", defArgs s_splits, defBody s_splits, defScope s_splits, [], []⟩, ⟨fun K => (He.ga K "is_splitting"), "is_splitting", "is_splitting", defArgs s_is_splitting, defBody s_is_splitting, defScope s_is_splitting, [], []⟩, ⟨fun K => (He.ga K "least_total"), "least_total", "least_total", defArgs s_least_total, defBody s_least_total, defScope s_least_total, [], []⟩, ⟨fun K => (He.ga K "least_with"), "least_with", "least_with", defArgs s_least_with, defBody s_least_with, defScope s_least_with, [], []⟩, ⟨fun K => (He.ga K "splitting_gain"), "splitting_gain", "splitting_gain", defArgs s_splitting_gain, defBody s_splitting_gain, defScope s_splitting_gain, [], []⟩, ⟨fun K => (He.ga K "total_of"), "total_of", "total_of", defArgs s_total_of, defBody s_total_of, defScope s_total_of, [], []⟩, ⟨fun K => (He.ga K "total"), "total", "total", defArgs s_total, defBody s_total, defScope s_total, [], []⟩, ⟨fun K => (He.ga K "law"), "law", "law", defArgs s_law, defBody s_law, defScope s_law, [], []⟩]
def fas : List He.Fa := [.glo "Rule", .glo "Search", .glo "_law_bag", .glo "_law_bags", .glo "_law_basket", .glo "_law_cell_at", .glo "_law_draws", .glo "_law_far_draw", .glo "_law_rounded", .glo "_law_rule", .glo "_law_take", .glo "all_items", .glo "best_splitting", .glo "greatest_total", .glo "is_integer", .glo "is_receipt", .glo "is_splitting", .glo "law", .glo "least_total", .glo "least_with", .glo "need_amount", .glo "need_basket", .glo "need_rule", .glo "partings", .glo "splits", .glo "splitting_gain", .glo "total", .glo "total_of", .free "all", .free "bool", .free "int", .free "isinstance", .free "len", .free "list", .free "max", .free "min", .free "range", .free "sorted", .free "sum", .free "tuple", .free "zip", .int "MAX_AMOUNT" 1000000000000, .int "MAX_ITEMS" 10]
def exs (K : PySem.W.Frag) : Bool := (fas.all fun f => f.ok K) && (ruleB K && (searchB K && true))
theorem txt_of {K : PySem.W.Frag} {h base : Heap} {mg : Str → Option Value} (X : K.In h) (G : h.Ns mainGlobals mg) (c : SaysB fn exs K) (tb : ∀ m ∈ tf, LamX.TabB base mg (codeA K (m.at_ K)) (tabA K (m.at_ K))) : Txt K mg base where
  R := ruleB_ok (He.ba (He.ba c.more).2).1
  S := searchB_ok (He.ba (He.ba (He.ba c.more).2).2).1
  t_least_with := tb ⟨fun K => (He.ga K "least_with"), "least_with.<locals>.least"⟩ (by simp [tf])
  g_Rule := He.glo_ok X G (all_of (He.ba c.more).1 0 rfl)
  g_Search := He.glo_ok X G (all_of (He.ba c.more).1 1 rfl)
  g_law_bag := He.glo_ok X G (all_of (He.ba c.more).1 2 rfl)
  g_law_bags := He.glo_ok X G (all_of (He.ba c.more).1 3 rfl)
  g_law_basket := He.glo_ok X G (all_of (He.ba c.more).1 4 rfl)
  g_law_cell_at := He.glo_ok X G (all_of (He.ba c.more).1 5 rfl)
  g_law_draws := He.glo_ok X G (all_of (He.ba c.more).1 6 rfl)
  g_law_far_draw := He.glo_ok X G (all_of (He.ba c.more).1 7 rfl)
  g_law_rounded := He.glo_ok X G (all_of (He.ba c.more).1 8 rfl)
  g_law_rule := He.glo_ok X G (all_of (He.ba c.more).1 9 rfl)
  g_law_take := He.glo_ok X G (all_of (He.ba c.more).1 10 rfl)
  g_all_items := He.glo_ok X G (all_of (He.ba c.more).1 11 rfl)
  g_best_splitting := He.glo_ok X G (all_of (He.ba c.more).1 12 rfl)
  g_greatest_total := He.glo_ok X G (all_of (He.ba c.more).1 13 rfl)
  g_is_integer := He.glo_ok X G (all_of (He.ba c.more).1 14 rfl)
  g_is_receipt := He.glo_ok X G (all_of (He.ba c.more).1 15 rfl)
  g_is_splitting := He.glo_ok X G (all_of (He.ba c.more).1 16 rfl)
  g_law := He.glo_ok X G (all_of (He.ba c.more).1 17 rfl)
  g_least_total := He.glo_ok X G (all_of (He.ba c.more).1 18 rfl)
  g_least_with := He.glo_ok X G (all_of (He.ba c.more).1 19 rfl)
  g_need_amount := He.glo_ok X G (all_of (He.ba c.more).1 20 rfl)
  g_need_basket := He.glo_ok X G (all_of (He.ba c.more).1 21 rfl)
  g_need_rule := He.glo_ok X G (all_of (He.ba c.more).1 22 rfl)
  g_partings := He.glo_ok X G (all_of (He.ba c.more).1 23 rfl)
  g_splits := He.glo_ok X G (all_of (He.ba c.more).1 24 rfl)
  g_splitting_gain := He.glo_ok X G (all_of (He.ba c.more).1 25 rfl)
  g_total := He.glo_ok X G (all_of (He.ba c.more).1 26 rfl)
  g_total_of := He.glo_ok X G (all_of (He.ba c.more).1 27 rfl)
  z_all := He.free_ok X G (all_of (He.ba c.more).1 28 rfl)
  z_bool := He.free_ok X G (all_of (He.ba c.more).1 29 rfl)
  z_int := He.free_ok X G (all_of (He.ba c.more).1 30 rfl)
  z_isinstance := He.free_ok X G (all_of (He.ba c.more).1 31 rfl)
  z_len := He.free_ok X G (all_of (He.ba c.more).1 32 rfl)
  z_list := He.free_ok X G (all_of (He.ba c.more).1 33 rfl)
  z_max := He.free_ok X G (all_of (He.ba c.more).1 34 rfl)
  z_min := He.free_ok X G (all_of (He.ba c.more).1 35 rfl)
  z_range := He.free_ok X G (all_of (He.ba c.more).1 36 rfl)
  z_sorted := He.free_ok X G (all_of (He.ba c.more).1 37 rfl)
  z_sum := He.free_ok X G (all_of (He.ba c.more).1 38 rfl)
  z_tuple := He.free_ok X G (all_of (He.ba c.more).1 39 rfl)
  z_zip := He.free_ok X G (all_of (He.ba c.more).1 40 rfl)
  i_MAX_AMOUNT := He.int_ok X G (all_of (He.ba c.more).1 41 rfl)
  i_MAX_ITEMS := He.int_ok X G (all_of (He.ba c.more).1 42 rfl)
  f_is_integer := c.def_ 0
  f_Rule_is_valid := c.def_ 1
  f_Rule_init := c.def_ 2
  f_Rule_rounded := c.def_ 3
  f_need_amount := c.def_ 4
  f_Rule_charge := c.def_ 5
  f_law_cell_at := c.def_ 6
  f_law_draws := c.def_ 7
  f_law_bag := c.def_ 8
  f_law_bags := c.def_ 9
  f_law_take := c.def_ 10
  f_law_far_draw := c.def_ 11
  f_law_basket := c.def_ 12
  f_law_rounded := c.def_ 13
  f_law_rule := c.def_ 14
  f_Search_init := c.def_ 15
  f_Search_receipt := c.def_ 16
  f_partings := c.def_ 17
  f_Search_bounds := c.def_ 18
  f_Search_best := c.def_ 19
  f_all_items := c.def_ 20
  f_need_basket := c.def_ 21
  f_need_rule := c.def_ 22
  f_best_splitting := c.def_ 23
  f_greatest_total := c.def_ 24
  f_is_receipt := c.def_ 25
  f_splits := c.def_ 26
  f_is_splitting := c.def_ 27
  f_least_total := c.def_ 28
  f_least_with := c.def_ 29
  f_splitting_gain := c.def_ 30
  f_total_of := c.def_ 31
  f_total := c.def_ 32
  f_law := c.def_ 33
abbrev R : PySem.W.OpenRow := PySem.W.OpenLaw.row PySem.Challenge.rw_coinsplits_k19_whole_numbers_of_receipts
abbrev hk : PySem.W.Hook := hookT 5 fn exs tf
def ob (s : PySem.W.SharedT) : AlT := obsT 5 fn exs tf (HandSHeadRun.getT s)
theorem ob_eq (s : PySem.W.SharedT) : ob s = hk.obs s.abs := obsT_eq (HandSHeadRun.getT_eq s)
def loose : List PySem.Str := (["_wall", "CoinError", "InvalidRule", "InvalidAmount", "InvalidBasket", "InvalidSplitting", "InvalidNumber", "MAX_AMOUNT", "is_integer", "Rule", "need_rule", "need_amount", "MAX_ITEMS", "need_basket", "is_receipt", "splits", "is_splitting", "total_of", "total", "partings", "Search", "all_items", "least_total", "greatest_total", "best_splitting", "least_with", "splitting_gain", "_law_cell_at", "_law_draws", "_law_bag"] : List PySem.Str) ++ (["_law_bags", "_law_take", "_law_far_draw", "_law_rule", "_law_rounded", "_law_basket"] : List PySem.Str)
theorem run (w : World) : HandSHeadRun.RunEq R (PySem.W.view R.prog [41]) hk ob 40000 loose w := by
  intro os
  kernel_rfl
end Pf
open PySem PySem.W PySem.Calls PyProof.Rows
theorem PySem.Challenge.cw_coinsplits_k19_whole_numbers_of_receipts_holds : PySem.Challenge.rw_coinsplits_k19_whole_numbers_of_receipts.Holds := by
  w_on; o_law
  refine HandSHeadRun.head_any (r := OpenLaw.row PySem.Challenge.rw_coinsplits_k19_whole_numbers_of_receipts) (q := view (OpenLaw.row PySem.Challenge.rw_coinsplits_k19_whole_numbers_of_receipts).prog [41]) (H := Pf.hk) (ob := Pf.ob) (M := 40000) (loose := Pf.loose) (d := HandSHeadRun.topDef (OpenLaw.row PySem.Challenge.rw_coinsplits_k19_whole_numbers_of_receipts).prog 41) (kwd := []) Pf.ob_eq
    (by kernel_rfl) (fun s => by kernel_rfl) Pf.run (by kernel_rfl) (by kernel_rfl) (by kernel_rfl) (by rfl) (by first | assumption | decide +kernel) (by decide +kernel) ⟨rfl, rfl, rfl, rfl, rfl, by decide +kernel⟩ ?hw ?hc
  case hw => w_witness2
  case hc =>
    refine DL.law_endT (l := PySem.Challenge.rw_coinsplits_k19_whole_numbers_of_receipts) (n := 63) (k := 28) (tf := Pf.tf) rfl (by decide) (by kernel_rfl) ⟨rfl, by decide, by decide⟩ ?F
    intro w mg fa h Y G hmg0
    obtain ⟨K, KX, c⟩ := Y
    have hmg : mg ("law" : PySem.Str) = some (.ref fa) := by
      have e : (HandSHeadRun.topDef (OpenLaw.row PySem.Challenge.rw_coinsplits_k19_whole_numbers_of_receipts).prog 41).name = ("law" : PySem.Str) := by kernel_rfl
      rw [← e]
      exact hmg0
    obtain ⟨fd, F⟩ := c.b.def_ 33
    have e := hmg.symm.trans (He.glo_ok (x := "law") KX G (DL.all_of (He.ba c.b.more).1 17 rfl))
    cases e
    have b := L2.FunD.bindsA (ps := ["script"]) F fun _ _ _ _ _ _ us hl => match us, hl with | [_], _ => rfl
    exact ⟨K, fd, KX, fun s v => b s [v] rfl, c.hd, c.out, c.empty, c.nd, fun base _ _ tb => Pf.ok_law (Pf.txt_of KX G c.b tb) F⟩

