import PyProof.Rows.All
import Wide.All
import OpenK.AllK
import Wide.FinOn
import HandS.ForMost
import HandS.Wide
import HandS.WideMore
import HandS.TupAny
import HandS.Star
import HandS.IsInst
import HandS.Zip
import HandS.Defaults
import HandS.WordsExc
import KE.GoesNew
import KE.KRevSl
import HandS.Conv
import HandS.SetFor
import HandS.Style
import KE.GoesEnum
import HandS.HeadHook2
import Lean
import HandS.Base
import HandS.Call
import HandS.Ends
import HandS.More
import HandS.Words
import HandS.Head0
import HandS.Head1
import HandS.Head2
import HandS.HeadEnd
import HandS.HeadHook1
import KE.KStateDown
import PySem.Challenge.RW_roundsums_k92_whole_codes_of_all_rows
set_option Elab.async false
set_option linter.all false
set_option maxRecDepth 100000
set_option maxHeartbeats 0
/-! PL1: plain values, what represents them, environments by slots, the judgements of the pure layer -/
namespace PL
open PySem PySem.Spec PyProof.Rows L2

/-- a plain value -/
inductive PV where
  | non | bl (b : Bool) | int (i : Int) | str (x : Str) | tup (xs : List PV) | lst (xs : List PV) | scr (ns : List Int)
abbrev Env := List (Option PV)
abbrev Frg := PySem.W.Frag

mutual
inductive Rep (K : Frg) (h : Hp) : PV → V → Prop
  | non : Rep K h .non .non
  | bl (b : Bool) : Rep K h (.bl b) (.bl b)
  | int (i : Int) : Rep K h (.int i) (.int i)
  | str (x : Str) : Rep K h (.str x) (.str x)
  | tup {a : Addr} {vs : List V} {xs : List PV} : SqT K h a vs → RepL K h xs vs → Rep K h (.tup xs) (.ref a)
  | lst {a : Addr} {vs : List V} {xs : List PV} : h a = some (.lst vs) → RepL K h xs vs → Rep K h (.lst xs) (.ref a)
  | scr {a : Addr} {ns : List Int} : SqL K h a (ns.map V.int) → Rep K h (.scr ns) (.ref a)
inductive RepL (K : Frg) (h : Hp) : List PV → List V → Prop
  | nil : RepL K h [] []
  | cons {x : PV} {v : V} {xs : List PV} {vs : List V} : Rep K h x v → RepL K h xs vs → RepL K h (x :: xs) (v :: vs)
end

/-- one part of the heap within another -/
def Le (h h' : Hp) : Prop := ∀ a o, h a = some o → h' a = some o
theorem Le.refl (h : Hp) : Le h h := fun _ _ e => e
theorem Le.trans {a b c : Hp} (h : Le a b) (h' : Le b c) : Le a c := fun x o e => h' x o (h x o e)
theorem Le.rd {h h' : Hp} (l : Le h h') {a : Addr} {u : HO} (r : Rd h a u) : Rd h' a u := by
  rcases r with r | ⟨o, r⟩
  · exact .inl (l _ _ r)
  · exact .inr ⟨o, l _ _ r⟩
theorem Le.sqT {K : Frg} {h h' : Hp} (l : Le h h') {a : Addr} {xs : List V} (r : SqT K h a xs) : SqT K h' a xs := by
  rcases r with r | r
  · exact .inl (l.rd r)
  · exact .inr r
theorem Le.sqL {K : Frg} {h h' : Hp} (l : Le h h') {a : Addr} {xs : List V} (r : SqL K h a xs) : SqL K h' a xs := by
  rcases r with r | r
  · exact .inl (l.rd r)
  · exact .inr r
mutual
theorem Rep.le {K : Frg} {h h' : Hp} (l : Le h h') : ∀ {x : PV} {v : V}, Rep K h x v → Rep K h' x v
  | _, _, .non => .non
  | _, _, .bl b => .bl b
  | _, _, .int i => .int i
  | _, _, .str x => .str x
  | _, _, .tup s r => .tup (l.sqT s) (RepL.le l r)
  | _, _, .lst s r => .lst (l _ _ s) (RepL.le l r)
  | _, _, .scr s => .scr (l.sqL s)
theorem RepL.le {K : Frg} {h h' : Hp} (l : Le h h') : ∀ {xs : List PV} {vs : List V}, RepL K h xs vs → RepL K h' xs vs
  | _, _, .nil => .nil
  | _, _, .cons r t => .cons (Rep.le l r) (RepL.le l t)
end
section
variable {K : Frg} {h : Hp}
theorem RepL.length : ∀ {xs : List PV} {vs : List V}, RepL K h xs vs → xs.length = vs.length
  | _, _, .nil => rfl
  | _, _, .cons _ t => by simp [RepL.length t]
theorem RepL.get : ∀ {xs : List PV} {vs : List V} {i : Nat} {x : PV}, RepL K h xs vs → xs[i]? = some x → ∃ v, vs[i]? = some v ∧ Rep K h x v
  | _, _, _, _, .nil, e => by simp at e
  | _, _, 0, _, .cons r _, e => by
    simp at e
    subst e
    exact ⟨_, rfl, r⟩
  | _, _, i + 1, x, .cons _ t, e => by
    obtain ⟨v, h1, h2⟩ := RepL.get (i := i) (x := x) t (by simpa using e)
    exact ⟨v, by simpa using h1, h2⟩
theorem RepL.append : ∀ {xs ys : List PV} {vs ws : List V}, RepL K h xs vs → RepL K h ys ws → RepL K h (xs ++ ys) (vs ++ ws)
  | _, _, _, _, .nil, s => s
  | _, _, _, _, .cons r t, s => .cons r (RepL.append t s)
theorem RepL.take : ∀ {xs : List PV} {vs : List V} (n : Nat), RepL K h xs vs → RepL K h (xs.take n) (vs.take n)
  | _, _, 0, _ => .nil
  | _, _, _ + 1, .nil => .nil
  | _, _, n + 1, .cons r t => .cons r (RepL.take n t)
theorem RepL.drop : ∀ {xs : List PV} {vs : List V} (n : Nat), RepL K h xs vs → RepL K h (xs.drop n) (vs.drop n)
  | _, _, 0, r => r
  | _, _, _ + 1, .nil => .nil
  | _, _, n + 1, .cons _ t => RepL.drop n t
theorem RepL.set {x : PV} {v : V} (r : Rep K h x v) : ∀ {xs : List PV} {vs : List V} (i : Nat), RepL K h xs vs → RepL K h (xs.set i x) (vs.set i v)
  | _, _, _, .nil => .nil
  | _, _, 0, .cons _ t => .cons r t
  | _, _, i + 1, .cons q t => .cons q (RepL.set r i t)
theorem RepL.eraseIdx : ∀ {xs : List PV} {vs : List V} (i : Nat), RepL K h xs vs → RepL K h (xs.eraseIdx i) (vs.eraseIdx i)
  | _, _, _, .nil => .nil
  | _, _, 0, .cons _ t => t
  | _, _, i + 1, .cons q t => .cons q (RepL.eraseIdx i t)
theorem RepL.reverse {xs : List PV} {vs : List V} (r : RepL K h xs vs) : RepL K h xs.reverse vs.reverse := by
  induction xs generalizing vs with
  | nil => cases r; exact .nil
  | cons x xs ih =>
    cases r with
    | cons q t =>
      rw [List.reverse_cons, List.reverse_cons]
      exact (ih t).append (.cons q .nil)
theorem RepL.rep {xs : List PV} {vs : List V} (r : RepL K h xs vs) : ∀ n : Nat, RepL K h (List.replicate n xs).flatten (List.replicate n vs).flatten
  | 0 => .nil
  | n + 1 => by
    rw [List.replicate_succ, List.replicate_succ, List.flatten_cons, List.flatten_cons]
    exact r.append (r.rep n)
theorem RepL.ints : ∀ {ns : List Int} {vs : List V}, RepL K h (ns.map PV.int) vs → vs = ns.map V.int
  | [], _, .nil => rfl
  | _ :: _, _, .cons (.int _) t => by rw [RepL.ints t]; rfl
theorem RepL.of_ints : ∀ ns : List Int, RepL K h (ns.map PV.int) (ns.map V.int)
  | [] => .nil
  | _ :: r => .cons (.int _) (RepL.of_ints r)
theorem RepL.bls : ∀ {ns : List Bool} {vs : List V}, RepL K h (ns.map PV.bl) vs → vs = ns.map V.bl
  | [], _, .nil => rfl
  | _ :: _, _, .cons (.bl _) t => by rw [RepL.bls t]; rfl
end

/-- the environment ρ is held by the slots σ in the heap H: h is the shared part, g a part that stays as it is, O the slots whose lists are no one else's -/
structure Ok (K : Frg) (O : List Nat) (g h : Hp) (ρ : Env) (σ : L2.St) (H : Hp) : Prop where
  sub : Le h H
  gsub : Le g H
  dis : ∀ a o, g a = some o → h a = none
  len : ρ.length = σ.length
  sh : ∀ i pv, i ∉ O → ρ[i]? = some (some pv) → ∃ v, σ[i]? = some (some v) ∧ Rep K h pv v
  own : ∀ i pv, i ∈ O → ρ[i]? = some (some pv) → ∃ xs a vs, pv = .lst xs ∧ σ[i]? = some (some (.ref a)) ∧ H a = some (.lst vs) ∧ RepL K h xs vs ∧ h a = none ∧ g a = none
  inj : ∀ i j p q a, i ∈ O → j ∈ O → ρ[i]? = some (some p) → ρ[j]? = some (some q) → σ[i]? = some (some (.ref a)) → σ[j]? = some (some (.ref a)) → i = j

/-- a new list, no one else's -/
def Fresh (K : Frg) (O : List Nat) (g h : Hp) (ρ : Env) (σ : L2.St) (H : Hp) (pv : PV) (v : V) : Prop :=
  ∃ xs a vs, pv = .lst xs ∧ v = .ref a ∧ H a = some (.lst vs) ∧ RepL K h xs vs ∧ h a = none ∧ g a = none ∧ ∀ i q, i ∈ O → ρ[i]? = some (some q) → σ[i]? ≠ some (some (.ref a))
def RetOk (K : Frg) (O : List Nat) (fr : Bool) (g h : Hp) (ρ : Env) (σ : L2.St) (H : Hp) (pv : PV) (v : V) : Prop :=
  if fr = true then Fresh K O g h ρ σ H pv v else Rep K h pv v

section
variable {K : Frg} {O : List Nat} {g h h' : Hp} {ρ : Env} {σ : L2.St} {H : Hp} {pv : PV} {v : V}
/-- more is shared -/
theorem Ok.more (k : Ok K O g h ρ σ H) (l : Le h h') (s : Le h' H) (d : ∀ a o, g a = some o → h' a = none)
    (n : ∀ i q a, i ∈ O → ρ[i]? = some (some q) → σ[i]? = some (some (.ref a)) → h' a = none) : Ok K O g h' ρ σ H where
  sub := s
  gsub := k.gsub
  dis := d
  len := k.len
  sh := fun i pv hi e => by
    obtain ⟨v, e1, r⟩ := k.sh i pv hi e
    exact ⟨v, e1, r.le l⟩
  own := fun i pv hi e => by
    obtain ⟨xs, a, vs, e1, e2, e3, r, n1, n2⟩ := k.own i pv hi e
    exact ⟨xs, a, vs, e1, e2, e3, r.le l, n i pv a hi e e2, n2⟩
  inj := k.inj
theorem upd_le {o : HO} {a : Addr} (n : h a = none) : Le h (upd h a o) := fun b u e => by
  rw [upd_ne (ne_of_none e n)]
  exact e
/-- the heap has grown where nothing was -/
theorem Ok.grown (k : Ok K O g h ρ σ H) {H' : Hp} (s : Le H H') : Ok K O g h ρ σ H' where
  sub := k.sub.trans s
  gsub := k.gsub.trans s
  dis := k.dis
  len := k.len
  sh := k.sh
  own := fun i pv hi e => by
    obtain ⟨xs, a, vs, e1, e2, e3, r, n1, n2⟩ := k.own i pv hi e
    exact ⟨xs, a, vs, e1, e2, s _ _ e3, r, n1, n2⟩
  inj := k.inj
/-- a new object is laid and shared -/
theorem Ok.laid (k : Ok K O g h ρ σ H) {p : Addr} (n : H p = none) (o : HO) : Ok K O g (upd h p o) ρ σ (upd H p o) ∧ Le h (upd h p o) := by
  have hp : h p = none := by
    cases e : h p with
    | none => rfl
    | some u => rw [k.sub _ _ e] at n; cases n
  have gp : ∀ u, g p ≠ some u := fun u e => by rw [k.gsub _ _ e] at n; cases n
  refine ⟨(k.grown (upd_le n)).more (upd_le hp) (fun a u e => ?_) (fun a u e => ?_) (fun i q a hi e1 e2 => ?_), upd_le hp⟩
  · by_cases ha : a = p
    · subst ha
      rw [upd_same] at e ⊢
      exact e
    · rw [upd_ne ha] at e ⊢
      exact k.sub _ _ e
  · rw [upd_ne (fun z => by rw [z] at e; exact gp u e)]
    exact k.dis _ _ e
  · obtain ⟨xs, a', vs, _, e3, e4, _, n1, _⟩ := k.own i q hi e1
    rw [e2] at e3
    cases e3
    rw [upd_ne (fun z => by rw [z, n] at e4; cases e4)]
    exact n1
/-- a new list of one's own -/
theorem Ok.fresh (k : Ok K O g h ρ σ H) {p : Addr} (n : H p = none) {xs : List PV} {vs : List V} (r : RepL K h xs vs) :
    Ok K O g h ρ σ (upd H p (.lst vs)) ∧ Fresh K O g h ρ σ (upd H p (.lst vs)) (.lst xs) (.ref p) := by
  refine ⟨k.grown (upd_le n), xs, p, vs, rfl, rfl, upd_same, r, ?_, ?_, fun i q hi e1 e2 => ?_⟩
  · cases e : h p with
    | none => rfl
    | some u => rw [k.sub _ _ e] at n; cases n
  · cases e : g p with
    | none => rfl
    | some u => rw [k.gsub _ _ e] at n; cases n
  · obtain ⟨_, a', _, _, e3, e4, _⟩ := k.own i q hi e1
    rw [e2] at e3
    cases e3
    rw [n] at e4
    cases e4
/-- a list of one's own is shared from now on -/
theorem Ok.share (k : Ok K O g h ρ σ H) (f : Fresh K O g h ρ σ H pv v) : ∃ h', Ok K O g h' ρ σ H ∧ Le h h' ∧ Rep K h' pv v := by
  obtain ⟨xs, a, vs, rfl, rfl, e, r, n1, n2, n3⟩ := f
  refine ⟨upd h a (.lst vs), k.more (upd_le n1) (fun b u eb => ?_) (fun b u eb => ?_) (fun i q b hi e1 e2 => ?_), upd_le n1, .lst upd_same (r.le (upd_le n1))⟩
  · by_cases hb : b = a
    · subst hb
      rw [upd_same] at eb
      rw [← eb]
      exact e
    · rw [upd_ne hb] at eb
      exact k.sub _ _ eb
  · rw [upd_ne (fun z => by rw [z, n2] at eb; cases eb)]
    exact k.dis _ _ eb
  · obtain ⟨_, a', _, _, e3, _, _, n, _⟩ := k.own i q hi e1
    rw [e2] at e3
    cases e3
    rw [upd_ne (fun z => n3 i q hi e1 (by rw [e2, z]))]
    exact n
theorem RetOk.share {fr : Bool} (k : Ok K O g h ρ σ H) (f : RetOk K O fr g h ρ σ H pv v) : ∃ h', Ok K O g h' ρ σ H ∧ Le h h' ∧ Rep K h' pv v := by
  cases fr with
  | true => exact k.share f
  | false => exact ⟨h, k, .refl _, f⟩
/-- a slot forgotten -/
theorem Ok.forget (k : Ok K O g h ρ σ H) (i : Nat) : Ok K O g h (ρ.set i none) σ H where
  sub := k.sub
  gsub := k.gsub
  dis := k.dis
  len := by rw [List.length_set]; exact k.len
  sh := fun j pv hj e => by
    by_cases z : i = j
    · subst z
      rw [List.getElem?_set] at e
      simp at e
    · rw [List.getElem?_set_ne z] at e
      exact k.sh j pv hj e
  own := fun j pv hj e => by
    by_cases z : i = j
    · subst z
      rw [List.getElem?_set] at e
      simp at e
    · rw [List.getElem?_set_ne z] at e
      exact k.own j pv hj e
  inj := fun a b p q ad ha hb e1 e2 => by
    by_cases z : i = a
    · subst z
      rw [List.getElem?_set] at e1
      simp at e1
    · by_cases z2 : i = b
      · subst z2
        rw [List.getElem?_set] at e2
        simp at e2
      · rw [List.getElem?_set_ne z] at e1
        rw [List.getElem?_set_ne z2] at e2
        exact k.inj a b p q ad ha hb e1 e2
end
end PL

/-! PL2: judgements of expressions, arguments, tests; operators by values -/
namespace PL
open PySem PySem.Spec PyProof.Rows L2

abbrev EvE := Env → Option (PV × Env)
abbrev EvT := Env → Option (Bool × Env)
abbrev EvA := Env → Option (List PV × Env)

/-- readable here and now: shared, or a list of one's own -/
def View (K : Frg) (h H : Hp) (pv : PV) (v : V) : Prop := Rep K h pv v ∨ ∃ xs a vs, pv = .lst xs ∧ v = .ref a ∧ H a = some (.lst vs) ∧ RepL K h xs vs

def rdX (K : Frg) (O : List Nat) (fr : Bool) (ev : EvE) : TE := fun σ H Q => ∃ g h ρ pv ρ', Ok K O g h ρ σ H ∧ ev ρ = some (pv, ρ') ∧
  ∀ v H' h', Ok K O g h' ρ' σ H' → Le h h' → RetOk K O fr g h' ρ' σ H' pv v → Q v H'
def rdV (K : Frg) (O : List Nat) (ev : EvE) : TE := fun σ H Q => ∃ g h ρ pv ρ', Ok K O g h ρ σ H ∧ ev ρ = some (pv, ρ') ∧
  ∀ v H' h', Ok K O g h' ρ' σ H' → Le h h' → View K h' H' pv v → Q v H'
def rdT (K : Frg) (O : List Nat) (tv : EvT) : TT := fun σ H Q => ∃ g h ρ b ρ', Ok K O g h ρ σ H ∧ tv ρ = some (b, ρ') ∧
  ∀ H' h', Ok K O g h' ρ' σ H' → Le h h' → Q b H'
def rdA (K : Frg) (O : List Nat) (ea : EvA) : TA := fun σ H Q => ∃ g h ρ ps ρ', Ok K O g h ρ σ H ∧ ea ρ = some (ps, ρ') ∧
  ∀ vs H' h', Ok K O g h' ρ' σ H' → Le h h' → RepL K h' ps vs → Q vs H'
abbrev SX (X : Cx) (O : List Nat) (fr : Bool) (e : Expr) (ev : EvE) : Prop := PE X e (rdX X.K O fr ev)
abbrev SV (X : Cx) (O : List Nat) (e : Expr) (ev : EvE) : Prop := PE X e (rdV X.K O ev)
abbrev ST (X : Cx) (O : List Nat) (e : Expr) (tv : EvT) : Prop := PT X e (rdT X.K O tv)
abbrev SW (X : Cx) (O : List Nat) (e : Expr) (tv : EvT) : Prop := PW X e (rdT X.K O tv)
abbrev SA (X : Cx) (O : List Nat) (es : List Expr) (ea : EvA) : Prop := PA X es (rdA X.K O ea)

theorem _root_.L2.PE.wk {X : Cx} {e : Expr} {t t' : TE} (p : PE X e t) (w : ∀ σ H Q, t' σ H Q → t σ H Q) : PE X e t' := ⟨fun pins s σ H Q I h => p.run pins s σ H Q I (w σ H Q h)⟩
theorem _root_.L2.PT.wk {X : Cx} {e : Expr} {t t' : TT} (p : PT X e t) (w : ∀ σ H Q, t' σ H Q → t σ H Q) : PT X e t' := ⟨fun pins s σ H Q I h => p.run pins s σ H Q I (w σ H Q h)⟩
theorem _root_.L2.PW.wk {X : Cx} {e : Expr} {t t' : TT} (p : PW X e t) (w : ∀ σ H Q, t' σ H Q → t σ H Q) : PW X e t' := ⟨fun wh pins s σ H Q I h => p.run wh pins s σ H Q I (w σ H Q h)⟩
theorem _root_.L2.PA.wk {X : Cx} {e : List Expr} {t t' : TA} (p : PA X e t) (w : ∀ σ H Q, t' σ H Q → t σ H Q) : PA X e t' := ⟨fun pos pins s σ H Q I h => p.run pos pins s σ H Q I (w σ H Q h)⟩
theorem _root_.L2.PS.wk {X : Cx} {e : Stmt} {t t' : TS} (p : PS X e t) (w : ∀ D σ H, t' D σ H → t D σ H) : PS X e t' := ⟨fun pins s σ H D I h => p.run pins s σ H D I (w D σ H h)⟩
theorem _root_.L2.PSs.wk {X : Cx} {e : List Stmt} {t t' : TS} (p : PSs X e t) (w : ∀ D σ H, t' D σ H → t D σ H) : PSs X e t' := ⟨fun pins s σ H D I h => p.run pins s σ H D I (w D σ H h)⟩

section
variable {X : Cx} {O : List Nat} {e a b c : Expr} {fr : Bool} {ev ea eb ec : EvE} {pos : Pos}
theorem SX.sh (h : SX X O fr e ev) : SX X O false e ev := h.wk fun σ H Q ⟨g, hh, ρ, pv, ρ', k, e1, q⟩ => ⟨g, hh, ρ, pv, ρ', k, e1, fun v H' h' k' l r => by
  obtain ⟨h2, k2, l2, r2⟩ := RetOk.share k' r
  exact q v H' h2 k2 (l.trans l2) r2⟩
theorem SX.vw (h : SX X O fr e ev) : SV X O e ev := h.sh.wk fun σ H Q ⟨g, hh, ρ, pv, ρ', k, e1, q⟩ => ⟨g, hh, ρ, pv, ρ', k, e1, fun v H' h' k' l r => q v H' h' k' l (.inl r)⟩

/-! ### names, constants -/
def eVar (i : Nat) : EvE := fun ρ => match ρ[i]? with
  | some (some v) => some (v, ρ)
  | _ => none
def eMove (i : Nat) : EvE := fun ρ => match ρ[i]? with
  | some (some v) => some (v, ρ.set i none)
  | _ => none
def eC (v : PV) : EvE := fun ρ => some (v, ρ)
theorem eVar_inv {i : Nat} {ρ ρ' : Env} {pv : PV} (h : eVar i ρ = some (pv, ρ')) : ρ[i]? = some (some pv) ∧ ρ' = ρ := by
  unfold eVar at h
  split at h
  · rename_i v e
    cases h
    exact ⟨e, rfl⟩
  · cases h
theorem eMove_inv {i : Nat} {ρ ρ' : Env} {pv : PV} (h : eMove i ρ = some (pv, ρ')) : ρ[i]? = some (some pv) ∧ ρ' = ρ.set i none := by
  unfold eMove at h
  split at h
  · rename_i v e
    cases h
    exact ⟨e, rfl⟩
  · cases h
/-- a name that is not of one's own lists -/
theorem s_var (i : Nat) {x : Str} (ho : i ∉ O := by decide) (hN : X.N[i]? = some x := by rfl) (hv : Vis X.env.scope x := by first | exact Or.inl rfl | exact Or.inr (Or.inl rfl) | exact Or.inr (Or.inr rfl))
    (hd : (x == ("__debug__" : Str)) = false := by decide) (hcd : (x == ("__classdict__" : Str)) = false := by decide) : SX X O false (.Name x pos) (eVar i) :=
  (pe_var hN hv hd hcd).wk fun σ H Q ⟨g, hh, ρ, pv, ρ', k, e1, q⟩ => by
    obtain ⟨e2, rfl⟩ := eVar_inv e1
    obtain ⟨v, e3, r⟩ := k.sh i pv ho e2
    exact ⟨v, e3, q v H hh k (.refl _) r⟩
/-- a list of one's own, given away -/
theorem s_move (i : Nat) {x : Str} (ho : i ∈ O := by decide) (hN : X.N[i]? = some x := by rfl) (hv : Vis X.env.scope x := by first | exact Or.inl rfl | exact Or.inr (Or.inl rfl) | exact Or.inr (Or.inr rfl))
    (hd : (x == ("__debug__" : Str)) = false := by decide) (hcd : (x == ("__classdict__" : Str)) = false := by decide) : SX X O true (.Name x pos) (eMove i) :=
  (pe_var hN hv hd hcd).wk fun σ H Q ⟨g, hh, ρ, pv, ρ', k, e1, q⟩ => by
    obtain ⟨e2, rfl⟩ := eMove_inv e1
    obtain ⟨xs, ad, vs, rfl, e3, e4, r, n1, n2⟩ := k.own i pv ho e2
    refine ⟨_, e3, q _ H hh (k.forget i) (.refl _) ⟨xs, ad, vs, rfl, rfl, e4, r, n1, n2, fun j qv hj e5 e6 => ?_⟩⟩
    by_cases z : i = j
    · subst z
      rw [List.getElem?_set] at e5
      simp at e5
    · rw [List.getElem?_set_ne z] at e5
      exact z (k.inj i j _ _ ad ho hj e2 e5 e3 e6)
/-- a list of one's own, looked at -/
theorem s_look (i : Nat) {x : Str} (ho : i ∈ O := by decide) (hN : X.N[i]? = some x := by rfl) (hv : Vis X.env.scope x := by first | exact Or.inl rfl | exact Or.inr (Or.inl rfl) | exact Or.inr (Or.inr rfl))
    (hd : (x == ("__debug__" : Str)) = false := by decide) (hcd : (x == ("__classdict__" : Str)) = false := by decide) : SV X O (.Name x pos) (eVar i) :=
  (pe_var hN hv hd hcd).wk fun σ H Q ⟨g, hh, ρ, pv, ρ', k, e1, q⟩ => by
    obtain ⟨e2, rfl⟩ := eVar_inv e1
    obtain ⟨xs, ad, vs, rfl, e3, e4, r, n1, n2⟩ := k.own i pv ho e2
    exact ⟨_, e3, q _ H hh k (.refl _) (.inr ⟨xs, ad, vs, rfl, rfl, e4, r⟩)⟩
theorem s_int {i : Int} {j} : SX X O false (.Constant (.int i) j pos) (eC (.int i)) := pe_int.wk fun σ H Q ⟨g, hh, ρ, pv, ρ', k, e1, q⟩ => by
  cases e1
  exact q _ H hh k (.refl _) (.int i)
theorem s_bl {i : Bool} {j} : SX X O false (.Constant (.bool i) j pos) (eC (.bl i)) := pe_bl.wk fun σ H Q ⟨g, hh, ρ, pv, ρ', k, e1, q⟩ => by
  cases e1
  exact q _ H hh k (.refl _) (.bl i)
theorem s_non {j} : SX X O false (.Constant .none j pos) (eC .non) := pe_non.wk fun σ H Q ⟨g, hh, ρ, pv, ρ', k, e1, q⟩ => by
  cases e1
  exact q _ H hh k (.refl _) .non
theorem s_str {i : Str} {j} : SX X O false (.Constant (.str i) j pos) (eC (.str i)) := pe_str.wk fun σ H Q ⟨g, hh, ρ, pv, ρ', k, e1, q⟩ => by
  cases e1
  exact q _ H hh k (.refl _) (.str i)
/-- a module's constant: what its name stands for -/
def Glob (K : Frg) (mg : Str → Option Value) (x : Str) (pv : PV) : Prop := ∃ v u, mg x = some u ∧ RelV v u ∧ ∀ h, Rep K h pv v
theorem s_glob {x : Str} {pv : PV} (G : Glob X.K X.mg x pv) (hg : Gl X x := by rfl) (hd : (x == ("__debug__" : Str)) = false := by decide) : SX X O false (.Name x pos) (eC pv) := by
  obtain ⟨v, u, hm, r, rep⟩ := G
  exact (pe_glob hg hm r hd).wk fun σ H Q ⟨g, hh, ρ, pv, ρ', k, e1, q⟩ => by
    cases e1
    exact q _ H hh k (.refl _) (rep hh)

/-! ### operators by values -/
abbrev Op1 := PV → Option PV
abbrev Op2 := PV → PV → Option PV
def rdO1 (K : Frg) (O : List Nat) (fr : Bool) (op : Op1) : V → Hp → VK → Prop := fun v H Q => ∃ g h ρ σ x z, Ok K O g h ρ σ H ∧ View K h H x v ∧ op x = some z ∧
  ∀ w H' h', Ok K O g h' ρ σ H' → Le h h' → RetOk K O fr g h' ρ σ H' z w → Q w H'
def rdO (K : Frg) (O : List Nat) (fr : Bool) (op : Op2) : R2 := fun v u H Q => ∃ g h ρ σ x y z, Ok K O g h ρ σ H ∧ View K h H x v ∧ View K h H y u ∧ op x y = some z ∧
  ∀ w H' h', Ok K O g h' ρ σ H' → Le h h' → RetOk K O fr g h' ρ σ H' z w → Q w H'
def OpS (X : Cx) (f : Value → Value → Sem Value) (fr : Bool) (op : Op2) : Prop := ∀ O, OpR X f (rdO X.K O fr op)
def UnS (X : Cx) (f : Value → Sem Value) (fr : Bool) (op : Op1) : Prop := ∀ O, UnR X f (rdO1 X.K O fr op)
theorem _root_.L2.OpR.wk {f : Value → Value → Sem Value} {r r' : R2} (o : OpR X f r) (w : ∀ x y H Q, r' x y H Q → r x y H Q) : OpR X f r' := fun pins s σ H x y v u Q I rx ry h => o pins s σ H x y v u Q I rx ry (w _ _ _ _ h)
theorem _root_.L2.UnR.wk {f : Value → Sem Value} {r r' : V → Hp → VK → Prop} (o : UnR X f r) (w : ∀ x H Q, r' x H Q → r x H Q) : UnR X f r' := fun pins s σ H x v Q I rx h => o pins s σ H x v Q I rx (w _ _ _ h)
def eBin (op : Op2) (ea eb : EvE) : EvE := fun ρ => (ea ρ).bind fun p => (eb p.2).bind fun q => (op p.1 q.1).map fun z => (z, q.2)
def eUn (op : Op1) (ea : EvE) : EvE := fun ρ => (ea ρ).bind fun p => (op p.1).map fun z => (z, p.2)
theorem View.le {K : Frg} {h h' H : Hp} {x : PV} {v : V} (r : Rep K h x v) (l : Le h h') : View K h' H x v := .inl (r.le l)
theorem bind_inv {α β : Type} {o : Option α} {f : α → Option β} {z : β} (h : o.bind f = some z) : ∃ p, o = some p ∧ f p = some z := by
  cases o with
  | none => cases h
  | some p => exact ⟨p, rfl, h⟩
theorem map_inv {α β : Type} {o : Option α} {f : α → β} {z : β} (h : o.map f = some z) : ∃ p, o = some p ∧ f p = z := by
  cases o with
  | none => cases h
  | some p => exact ⟨p, rfl, Option.some.inj h⟩
/-- two operands, then the operation -/
theorem two_wk {K : Frg} {op : Op2} {ta tb : TE} (ha : ∀ σ H Q, rdX K O false ea σ H Q → ta σ H Q) (hb : ∀ σ H Q, rdV K O eb σ H Q → tb σ H Q) {r : R2} (hr : ∀ x y H Q, rdO K O fr op x y H Q → r x y H Q) :
    ∀ σ H Q, rdX K O fr (eBin op ea eb) σ H Q → tOp r ta tb σ H Q := fun σ H Q ⟨g, hh, ρ, pv, ρ', k, e1, q⟩ => by
  obtain ⟨⟨x, ρ1⟩, e2, e1⟩ := bind_inv e1
  obtain ⟨⟨y, ρ2⟩, e3, e1⟩ := bind_inv e1
  obtain ⟨z, e4, e5⟩ := map_inv e1
  cases e5
  refine ha σ H _ ⟨g, hh, ρ, x, ρ1, k, e2, fun v H1 h1 k1 l1 r1 => hb σ H1 _ ⟨g, h1, ρ1, y, ρ2, k1, e3, fun u H2 h2 k2 l2 r2 => hr _ _ _ _ ⟨g, h2, ρ2, σ, x, y, _, k2, .inl (Rep.le l2 r1), r2, e4, fun w H3 h3 k3 l3 r3 => q w H3 h3 k3 ((l1.trans l2).trans l3) r3⟩⟩⟩
theorem s_bin {op : Operator} {o2 : Op2} (ho : OpS X (binaryOp op) fr o2) (ha : SX X O false a ea) (hb : SV X O b eb) : SX X O fr (.BinOp a op b pos) (eBin o2 ea eb) :=
  (pe_op (ho O) ha hb).wk (two_wk (fun _ _ _ h => h) (fun _ _ _ h => h) fun _ _ _ _ h => h)
theorem s_cmp {op : CmpOp} {o2 : Op2} (ho : OpS X (compareOp op) fr o2) (ha : SX X O false a ea) (hb : SV X O b eb) (hm : behindInMarks op b = false := by first | exact nomark _ | rfl) : SX X O fr (.Compare a [op] [b] pos) (eBin o2 ea eb) :=
  (pe_cmpR (ho O) ha hb hm).wk (two_wk (fun _ _ _ h => h) (fun _ _ _ h => h) fun _ _ _ _ h => h)
theorem s_un {op : UnaryOp} {o1 : Op1} (ho : UnS X (unaryOp op) fr o1) (ha : SV X O a ea) : SX X O fr (.UnaryOp op a pos) (eUn o1 ea) :=
  (pe_un (ho O) ha).wk fun σ H Q ⟨g, hh, ρ, pv, ρ', k, e1, q⟩ => by
    obtain ⟨⟨x, ρ1⟩, e2, e1⟩ := bind_inv e1
    obtain ⟨z, e4, e5⟩ := map_inv e1
    cases e5
    exact ⟨g, hh, ρ, x, ρ1, k, e2, fun v H1 h1 k1 l1 r1 => ⟨g, h1, ρ1, σ, x, _, k1, r1, e4, fun w H3 h3 k3 l3 r3 => q w H3 h3 k3 (l1.trans l3) r3⟩⟩
/-- a bool value as a test -/
def tOf (ev : EvE) : EvT := fun ρ => match ev ρ with
  | some (.bl b, ρ') => some (b, ρ')
  | _ => none
def eOf (tv : EvT) : EvE := fun ρ => (tv ρ).map fun p => (.bl p.1, p.2)
theorem tOf_inv {ev : EvE} {ρ ρ' : Env} {b : Bool} (h : tOf ev ρ = some (b, ρ')) : ev ρ = some (.bl b, ρ') := by
  unfold tOf at h
  split at h
  · rename_i e
    cases h
    exact e
  · cases h
theorem s_cmpT {op : CmpOp} {o2 : Op2} (ho : OpS X (compareOp op) false o2) (ha : SX X O false a ea) (hb : SV X O b eb) (hm : behindInMarks op b = false := by first | exact nomark _ | rfl) : ST X O (.Compare a [op] [b] pos) (tOf (eBin o2 ea eb)) :=
  (pt_cmpR (ho O) ha hb hm).wk fun σ H Q ⟨g, hh, ρ, pv, ρ', k, e1, q⟩ => by
    refine two_wk (fr := false) (fun _ _ _ h => h) (fun _ _ _ h => h) (fun _ _ _ _ h => h) σ H _ ⟨g, hh, ρ, .bl pv, ρ', k, tOf_inv e1, fun w H' h' k' l r => ?_⟩
    have r : Rep X.K h' (.bl pv) w := r
    cases r
    exact ⟨_, rfl, q H' h' k' l⟩
theorem s_valT (h : SX X O false e ev) (he : ∀ whole, isTrue e X.env whole = (do let v ← whole; standAt e.pos; holding [v] (truthy v)) := by intro _; rfl) : ST X O e (tOf ev) :=
  (pt_val h he).wk fun σ H Q ⟨g, hh, ρ, pv, ρ', k, e1, q⟩ => ⟨g, hh, ρ, .bl pv, ρ', k, tOf_inv e1, fun w H' h' k' l r => by
    have r : Rep X.K h' (.bl pv) w := r
    cases r
    exact ⟨_, rfl, q H' h' k' l⟩⟩
/-- a chain of two comparisons -/
def eChain (o1 o2 : Op2) (ea eb ec : EvE) : EvE := fun ρ => (ea ρ).bind fun p => (eb p.2).bind fun q => match o1 p.1 q.1 with
  | some (.bl true) => (ec q.2).bind fun r => (o2 q.1 r.1).map fun z => (z, r.2)
  | some (.bl false) => some (.bl false, q.2)
  | _ => none
theorem chain_wk {K : Frg} {o1 o2 : Op2} : ∀ σ H Q, rdX K O false (eChain o1 o2 ea eb ec) σ H Q → tChain (rdO K O false o1) (rdO K O false o2) (rdX K O false ea) (rdX K O false eb) (rdV K O ec) σ H Q := fun σ H Q ⟨g, hh, ρ, pv, ρ', k, e1, q⟩ => by
  obtain ⟨⟨x, ρ1⟩, e2, e1⟩ := bind_inv e1
  obtain ⟨⟨y, ρ2⟩, e3, e1⟩ := bind_inv e1
  refine ⟨g, hh, ρ, x, ρ1, k, e2, fun v H1 h1 k1 l1 r1 => ⟨g, h1, ρ1, y, ρ2, k1, e3, fun u H2 h2 k2 l2 r2 => ?_⟩⟩
  have r1 : Rep K h1 x v := r1
  have r2 : Rep K h2 y u := r2
  simp only at e1
  split at e1
  · rename_i e4
    refine ⟨g, h2, ρ2, σ, x, y, _, k2, .inl (r1.le l2), .inl r2, e4, fun w H3 h3 k3 l3 r3 => ?_⟩
    have r3 : Rep K h3 (.bl true) w := r3
    cases r3
    refine ⟨true, rfl, ?_⟩
    refine iteT ?_
    obtain ⟨⟨z, ρ3⟩, e5, e1⟩ := bind_inv e1
    obtain ⟨t, e6, e7⟩ := map_inv e1
    cases e7
    exact ⟨g, h3, ρ2, z, ρ3, k3, e5, fun u' H4 h4 k4 l4 r4 => ⟨g, h4, ρ3, σ, y, z, _, k4, .inl ((r2.le l3).le l4), r4, e6, fun w H5 h5 k5 l5 r5 => q w H5 h5 k5 ((((l1.trans l2).trans l3).trans l4).trans l5) r5⟩⟩
  · rename_i e4
    cases e1
    refine ⟨g, h2, ρ', σ, x, y, _, k2, .inl (r1.le l2), .inl r2, e4, fun w H3 h3 k3 l3 r3 => ?_⟩
    have r3 : Rep K h3 (.bl false) w := r3
    cases r3
    refine ⟨false, rfl, ?_⟩
    refine iteF ?_
    exact q _ H3 h3 k3 ((l1.trans l2).trans l3) (.bl false)
  · cases e1
theorem s_chain {op op' : CmpOp} {o1 o2 : Op2} (h1 : OpS X (compareOp op) false o1) (h2 : OpS X (compareOp op') false o2) (ha : SX X O false a ea) (hb : SX X O false b eb) (hc : SV X O c ec)
    (hm : lastMarks [op, op'] [b, c] = false := by with_unfolding_all rfl) : SX X O false (.Compare a [op, op'] [b, c] pos) (eChain o1 o2 ea eb ec) :=
  (pe_chain (h1 O) (h2 O) ha hb hc hm).wk chain_wk
theorem s_chainT {op op' : CmpOp} {o1 o2 : Op2} (h1 : OpS X (compareOp op) false o1) (h2 : OpS X (compareOp op') false o2) (ha : SX X O false a ea) (hb : SX X O false b eb) (hc : SV X O c ec)
    (hm : lastMarks [op, op'] [b, c] = false := by with_unfolding_all rfl) : ST X O (.Compare a [op, op'] [b, c] pos) (tOf (eChain o1 o2 ea eb ec)) :=
  (pt_chain (h1 O) (h2 O) ha hb hc hm).wk fun σ H Q ⟨g, hh, ρ, pv, ρ', k, e1, q⟩ =>
    chain_wk σ H _ ⟨g, hh, ρ, .bl pv, ρ', k, tOf_inv e1, fun w H' h' k' l r => by
      have r : Rep X.K h' (.bl pv) w := r
      cases r
      exact ⟨_, rfl, q H' h' k' l⟩⟩

/-! ### and, or, not, if -/
def tvAnd (a b : EvT) : EvT := fun ρ => match a ρ with
  | some (true, ρ1) => b ρ1
  | r => r
def tvOr (a b : EvT) : EvT := fun ρ => match a ρ with
  | some (false, ρ1) => b ρ1
  | r => r
def tvNot (a : EvT) : EvT := fun ρ => (a ρ).map fun p => (!p.1, p.2)
variable {rest : List Expr} {ta tb : EvT}
theorem and_wk {K : Frg} : ∀ σ H Q, rdT K O (tvAnd ta tb) σ H Q → tAnd (rdT K O ta) (rdT K O tb) σ H Q := fun σ H Q ⟨g, hh, ρ, pv, ρ', k, e1, q⟩ => by
  unfold tvAnd at e1
  split at e1
  · rename_i ρ1 e2
    refine ⟨g, hh, ρ, true, ρ1, k, e2, fun H1 h1 k1 l1 => ?_⟩
    refine iteT ?_
    exact ⟨g, h1, ρ1, pv, ρ', k1, e1, fun H2 h2 k2 l2 => q H2 h2 k2 (l1.trans l2)⟩
  · rename_i r hr
    refine ⟨g, hh, ρ, pv, ρ', k, e1, fun H1 h1 k1 l1 => ?_⟩
    cases pv with
    | true => exact absurd e1 (hr ρ')
    | false =>
      refine iteF ?_
      exact q H1 h1 k1 l1
theorem or_wk {K : Frg} : ∀ σ H Q, rdT K O (tvOr ta tb) σ H Q → tOr (rdT K O ta) (rdT K O tb) σ H Q := fun σ H Q ⟨g, hh, ρ, pv, ρ', k, e1, q⟩ => by
  unfold tvOr at e1
  split at e1
  · rename_i ρ1 e2
    refine ⟨g, hh, ρ, false, ρ1, k, e2, fun H1 h1 k1 l1 => ?_⟩
    refine iteF ?_
    exact ⟨g, h1, ρ1, pv, ρ', k1, e1, fun H2 h2 k2 l2 => q H2 h2 k2 (l1.trans l2)⟩
  · rename_i r hr
    refine ⟨g, hh, ρ, pv, ρ', k, e1, fun H1 h1 k1 l1 => ?_⟩
    cases pv with
    | false => exact absurd e1 (hr ρ')
    | true =>
      refine iteT ?_
      exact q H1 h1 k1 l1
theorem sw_and1 (ha : ST X O a ta) : SW X O (.BoolOp .And [a] pos) ta := pw_and1 ha
theorem sw_or1 (ha : ST X O a ta) : SW X O (.BoolOp .Or [a] pos) ta := pw_or1 ha
theorem sw_and (ha : ST X O a ta) (hb : SW X O (.BoolOp .And (b :: rest) pos) tb) : SW X O (.BoolOp .And (a :: b :: rest) pos) (tvAnd ta tb) := (pw_and ha hb).wk and_wk
theorem sw_or (ha : ST X O a ta) (hb : SW X O (.BoolOp .Or (b :: rest) pos) tb) : SW X O (.BoolOp .Or (a :: b :: rest) pos) (tvOr ta tb) := (pw_or ha hb).wk or_wk
theorem st_w (h : SW X O e ta) : ST X O e ta := h.pt
theorem st_not (ha : ST X O a ta) : ST X O (.UnaryOp .Not a pos) (tvNot ta) := (pt_not ha).wk fun σ H Q ⟨g, hh, ρ, pv, ρ', k, e1, q⟩ => by
  obtain ⟨⟨x, ρ1⟩, e2, e3⟩ := map_inv e1
  cases e3
  exact ⟨g, hh, ρ, x, ρ1, k, e2, q⟩
/-- as values -/
def eAnd (a b : EvE) : EvE := fun ρ => match a ρ with
  | some (.bl true, ρ1) => b ρ1
  | some (.bl false, ρ1) => some (.bl false, ρ1)
  | _ => none
def eOr (a b : EvE) : EvE := fun ρ => match a ρ with
  | some (.bl false, ρ1) => b ρ1
  | some (.bl true, ρ1) => some (.bl true, ρ1)
  | _ => none
def eNot (a : EvE) : EvE := fun ρ => match a ρ with
  | some (.bl b, ρ1) => some (.bl (!b), ρ1)
  | _ => none
theorem se_one {op} (h : SX X O fr a ea) : SX X O fr (.BoolOp op [a] pos) ea := pe_one h
theorem se_and (ha : SX X O false a ea) (hb : SX X O false (.BoolOp .And (b :: rest) pos) eb) : SX X O false (.BoolOp .And (a :: b :: rest) pos) (eAnd ea eb) :=
  (pe_and ha hb).wk fun σ H Q ⟨g, hh, ρ, pv, ρ', k, e1, q⟩ => by
    unfold eAnd at e1
    split at e1
    · rename_i ρ1 e2
      refine ⟨g, hh, ρ, _, ρ1, k, e2, fun v H1 h1 k1 l1 r => ?_⟩
      have r : Rep X.K h1 (.bl true) v := r
      cases r
      refine ⟨true, rfl, ?_⟩
      refine iteT ?_
      exact ⟨g, h1, ρ1, pv, ρ', k1, e1, fun v H2 h2 k2 l2 r2 => q v H2 h2 k2 (l1.trans l2) r2⟩
    · rename_i ρ1 e2
      cases e1
      refine ⟨g, hh, ρ, _, ρ', k, e2, fun v H1 h1 k1 l1 r => ?_⟩
      have r' : Rep X.K h1 (.bl false) v := r
      cases r'
      refine ⟨false, rfl, ?_⟩
      refine iteF ?_
      exact q _ H1 h1 k1 l1 r
    · cases e1
theorem se_or (ha : SX X O false a ea) (hb : SX X O false (.BoolOp .Or (b :: rest) pos) eb) : SX X O false (.BoolOp .Or (a :: b :: rest) pos) (eOr ea eb) :=
  (pe_or ha hb).wk fun σ H Q ⟨g, hh, ρ, pv, ρ', k, e1, q⟩ => by
    unfold eOr at e1
    split at e1
    · rename_i ρ1 e2
      refine ⟨g, hh, ρ, _, ρ1, k, e2, fun v H1 h1 k1 l1 r => ?_⟩
      have r : Rep X.K h1 (.bl false) v := r
      cases r
      refine ⟨false, rfl, ?_⟩
      refine iteF ?_
      exact ⟨g, h1, ρ1, pv, ρ', k1, e1, fun v H2 h2 k2 l2 r2 => q v H2 h2 k2 (l1.trans l2) r2⟩
    · rename_i ρ1 e2
      cases e1
      refine ⟨g, hh, ρ, _, ρ', k, e2, fun v H1 h1 k1 l1 r => ?_⟩
      have r' : Rep X.K h1 (.bl true) v := r
      cases r'
      refine ⟨true, rfl, ?_⟩
      refine iteT ?_
      exact q _ H1 h1 k1 l1 r
    · cases e1
theorem se_not (ha : SX X O false a ea) : SX X O false (.UnaryOp .Not a pos) (eNot ea) := (pe_not ha).wk fun σ H Q ⟨g, hh, ρ, pv, ρ', k, e1, q⟩ => by
  unfold eNot at e1
  split at e1
  · rename_i b ρ1 e2
    cases e1
    refine ⟨g, hh, ρ, _, ρ', k, e2, fun v H1 h1 k1 l1 r => ?_⟩
    have r : Rep X.K h1 (.bl b) v := r
    cases r
    exact ⟨b, rfl, q _ H1 h1 k1 l1 (.bl _)⟩
  · cases e1
def eIf (t : EvT) (a b : EvE) : EvE := fun ρ => match t ρ with
  | some (true, ρ1) => a ρ1
  | some (false, ρ1) => b ρ1
  | none => none
theorem s_if (ht : ST X O c ta) (ha : SX X O fr a ea) (hb : SX X O fr b eb) : SX X O fr (.IfExp c a b pos) (eIf ta ea eb) := (pe_ifExp ht ha hb).wk fun σ H Q ⟨g, hh, ρ, pv, ρ', k, e1, q⟩ => by
  unfold eIf at e1
  split at e1
  · rename_i ρ1 e2
    refine ⟨g, hh, ρ, _, ρ1, k, e2, fun H1 h1 k1 l1 => ?_⟩
    refine iteT ?_
    exact ⟨g, h1, ρ1, pv, ρ', k1, e1, fun v H2 h2 k2 l2 r2 => q v H2 h2 k2 (l1.trans l2) r2⟩
  · rename_i ρ1 e2
    refine ⟨g, hh, ρ, _, ρ1, k, e2, fun H1 h1 k1 l1 => ?_⟩
    refine iteF ?_
    exact ⟨g, h1, ρ1, pv, ρ', k1, e1, fun v H2 h2 k2 l2 r2 => q v H2 h2 k2 (l1.trans l2) r2⟩
  · cases e1

/-! ### arguments, displays -/
variable {es : List Expr} {eas : EvA}
def aNil : EvA := fun ρ => some ([], ρ)
def aCons (ea : EvE) (r : EvA) : EvA := fun ρ => (ea ρ).bind fun p => (r p.2).map fun q => (p.1 :: q.1, q.2)
/-- *e in a display -/
def items? : PV → Option (List PV)
  | .tup xs => some xs
  | .lst xs => some xs
  | _ => none
def aStar (ea : EvE) (r : EvA) : EvA := fun ρ => (ea ρ).bind fun p => (items? p.1).bind fun xs => (r p.2).map fun q => (xs ++ q.1, q.2)
theorem sa_nil : SA X O [] aNil := pa_nil.wk fun σ H Q ⟨g, hh, ρ, pv, ρ', k, e1, q⟩ => by
  cases e1
  exact q [] H hh k (.refl _) .nil
theorem sa_cons (ha : SX X O false e ea) (hr : SA X O es eas) (hs : starEach (e :: es) X.env = (false, eval e X.env) :: starEach es X.env := by rfl) : SA X O (e :: es) (aCons ea eas) :=
  (pa_cons ha hr hs).wk fun σ H Q ⟨g, hh, ρ, pv, ρ', k, e1, q⟩ => by
    obtain ⟨⟨x, ρ1⟩, e2, e1⟩ := bind_inv e1
    obtain ⟨⟨xs, ρ2⟩, e3, e4⟩ := map_inv e1
    cases e4
    exact ⟨g, hh, ρ, x, ρ1, k, e2, fun v H1 h1 k1 l1 r1 => ⟨g, h1, ρ1, xs, _, k1, e3, fun vs H2 h2 k2 l2 r2 => q _ H2 h2 k2 (l1.trans l2) (.cons (Rep.le l2 r1) r2)⟩⟩
theorem sa_one (ha : SV X O e ea) (P : List V → Hp → Prop) : True := trivial
theorem sa_star {p : Pos} (ha : SX X O false e ea) (hr : SA X O es eas) (hs : starEach (.Starred e p :: es) X.env = (true, eval e X.env) :: starEach es X.env := by rfl) : SA X O (.Starred e p :: es) (aStar ea eas) :=
  (StX.pa_star ha hr hs).wk fun σ H Q ⟨g, hh, ρ, pv, ρ', k, e1, q⟩ => by
    obtain ⟨⟨x, ρ1⟩, e2, e1⟩ := bind_inv e1
    obtain ⟨xs, e5, e1⟩ := bind_inv e1
    obtain ⟨⟨ys, ρ2⟩, e3, e4⟩ := map_inv e1
    cases e4
    refine ⟨g, hh, ρ, x, ρ1, k, e2, fun v H1 h1 k1 l1 r1 => ?_⟩
    have r1 : Rep X.K h1 x v := r1
    cases r1 with
    | tup s r =>
      cases e5
      exact ⟨_, _, rfl, .inl (k1.sub.sqT s), g, h1, ρ1, ys, _, k1, e3, fun vs H2 h2 k2 l2 r2 => q _ H2 h2 k2 (l1.trans l2) ((r.le l2).append r2)⟩
    | lst s r =>
      cases e5
      exact ⟨_, _, rfl, .inr (.inl (.inl (k1.sub _ _ s))), g, h1, ρ1, ys, _, k1, e3, fun vs H2 h2 k2 l2 r2 => q _ H2 h2 k2 (l1.trans l2) ((r.le l2).append r2)⟩
    | _ => cases e5
/-- sizes within the line -/
def fits (n : Nat) : Bool := decide (n ≤ 16777216)
theorem fits_ok {n : Nat} (h : fits n = true) : n ≤ sizeLine := by
  rw [sizeLine_eq]
  exact of_decide_eq_true h
def eTup (ea : EvA) : EvE := fun ρ => (ea ρ).bind fun p => if fits p.1.length then some (.tup p.1, p.2) else none
def eLst (ea : EvA) : EvE := fun ρ => (ea ρ).bind fun p => if fits p.1.length then some (.lst p.1, p.2) else none
theorem ite_inv {α : Type} {c : Bool} {a : Option α} {z : α} (h : (if c = true then a else none) = some z) : c = true ∧ a = some z := by
  cases c with
  | true => exact ⟨rfl, h⟩
  | false => cases h
theorem s_tup {j} (ha : SA X O es eas) : SX X O false (.Tuple es j pos) (eTup eas) := (pe_tup ha).wk fun σ H Q ⟨g, hh, ρ, pv, ρ', k, e1, q⟩ => by
  obtain ⟨⟨xs, ρ1⟩, e2, e1⟩ := bind_inv e1
  obtain ⟨e3, e4⟩ := ite_inv e1
  cases e4
  refine ⟨g, hh, ρ, xs, _, k, e2, fun vs H1 h1 k1 l1 r1 => ⟨by rw [← r1.length]; exact fits_ok e3, fun p np => ?_⟩⟩
  obtain ⟨k2, l2⟩ := k1.laid np (.tup vs)
  exact q _ _ _ k2 (l1.trans l2) (Rep.tup (.inl (.inl upd_same)) (r1.le l2))
theorem s_lst (ha : SA X O es eas) : SX X O true (.List es pos) (eLst eas) := (pe_lst ha).wk fun σ H Q ⟨g, hh, ρ, pv, ρ', k, e1, q⟩ => by
  obtain ⟨⟨xs, ρ1⟩, e2, e1⟩ := bind_inv e1
  obtain ⟨e3, e4⟩ := ite_inv e1
  cases e4
  refine ⟨g, hh, ρ, xs, _, k, e2, fun vs H1 h1 k1 l1 r1 => ⟨by rw [← r1.length]; exact fits_ok e3, fun p np => ?_⟩⟩
  obtain ⟨k2, f⟩ := k1.fresh np r1
  exact q _ _ _ k2 l1 f
end
end PL

/-! PL3: the operators, the built-in functions, subscripts and slices by plain values -/
namespace PL
open PySem PySem.Spec PyProof.Rows L2

section
variable {K : Frg} {h H : Hp} {v : V}
theorem View.int {i : Int} (r : View K h H (.int i) v) : v = .int i := by
  rcases r with r | ⟨_, _, _, e, _⟩
  · cases r
    rfl
  · cases e
theorem View.bl {i : Bool} (r : View K h H (.bl i) v) : v = .bl i := by
  rcases r with r | ⟨_, _, _, e, _⟩
  · cases r
    rfl
  · cases e
theorem View.str {i : Str} (r : View K h H (.str i) v) : v = .str i := by
  rcases r with r | ⟨_, _, _, e, _⟩
  · cases r
    rfl
  · cases e
theorem View.non (r : View K h H .non v) : v = .non := by
  rcases r with r | ⟨_, _, _, e, _⟩
  · cases r
    rfl
  · cases e
theorem View.tup {xs : List PV} (r : View K h H (.tup xs) v) : ∃ a vs, v = .ref a ∧ SqT K h a vs ∧ RepL K h xs vs := by
  rcases r with r | ⟨_, _, _, e, _⟩
  · cases r with
    | tup s t => exact ⟨_, _, rfl, s, t⟩
  · cases e
theorem View.lst {xs : List PV} (r : View K h H (.lst xs) v) (l : Le h H) : ∃ a vs, v = .ref a ∧ H a = some (.lst vs) ∧ RepL K h xs vs := by
  rcases r with r | ⟨_, a, vs, e, e2, e3, t⟩
  · cases r with
    | lst s t => exact ⟨_, _, rfl, l _ _ s, t⟩
  · cases e
    exact ⟨a, vs, e2, e3, t⟩
theorem View.scr {xs : List Int} (r : View K h H (.scr xs) v) : ∃ a, v = .ref a ∧ SqL K h a (xs.map V.int) := by
  rcases r with r | ⟨_, _, _, e, _⟩
  · cases r with
    | scr s => exact ⟨_, rfl, s⟩
  · cases e
end

/-! ### arithmetic -/
def mulOk (i j : Int) : Bool := decide ((-(2 ^ 64) < i ∧ i < 2 ^ 64) ∨ (-(2 ^ 64) < j ∧ j < 2 ^ 64)) || decide (i.natAbs.log2 + j.natAbs.log2 < 1000000)
theorem mulOk_left {i j : Int} (h1 : -18446744073709551616 < i) (h2 : i < 18446744073709551616) : mulOk i j = true := by
  unfold mulOk
  rw [Bool.or_eq_true]
  exact .inl (decide_eq_true (.inl ⟨by omega, by omega⟩))
theorem mulOk_right {i j : Int} (h1 : -18446744073709551616 < j) (h2 : j < 18446744073709551616) : mulOk i j = true := by
  unfold mulOk
  rw [Bool.or_eq_true]
  exact .inl (decide_eq_true (.inr ⟨by omega, by omega⟩))
def divOk (j : Int) : Bool := decide (0 < j) && decide (j.natAbs.log2 < 9000)
theorem divOk_of {j : Int} (h1 : 0 < j) (h2 : j < 18446744073709551616) : divOk j = true := by
  unfold divOk
  rw [Bool.and_eq_true]
  refine ⟨decide_eq_true h1, decide_eq_true ?_⟩
  have h3 : j.natAbs < 2 ^ 64 := by omega
  have h4 : j.natAbs.log2 < 64 := PySem.Flt.log2_lt_of (by decide) h3
  omega
def opAdd : Op2
  | .int i, .int j => some (.int (i + j))
  | .tup xs, .tup ys => if fits (xs.length + ys.length) = true then some (.tup (xs ++ ys)) else none
  | .lst xs, .lst ys => if fits (xs.length + ys.length) = true then some (.lst (xs ++ ys)) else none
  | _, _ => none
def opCat : Op2
  | .lst xs, .lst ys => if fits (xs.length + ys.length) = true then some (.lst (xs ++ ys)) else none
  | _, _ => none
def opI (f : Int → Int → Int) : Op2
  | .int i, .int j => some (.int (f i j))
  | _, _ => none
def opIc (c : Int → Int → Bool) (f : Int → Int → Int) : Op2
  | .int i, .int j => if c i j = true then some (.int (f i j)) else none
  | _, _ => none
def opB (f : Int → Int → Bool) : Op2
  | .int i, .int j => some (.bl (f i j))
  | _, _ => none
abbrev opSub : Op2 := opI fun i j => i - j
abbrev opMul : Op2 := opIc mulOk fun i j => i * j
abbrev opMod : Op2 := opIc (fun _ j => decide (0 < j)) fun i j => i % j
abbrev opDiv : Op2 := opIc (fun _ j => divOk j) fun i j => i / j
def powOk (i j : Int) : Bool := decide (0 ≤ j ∧ j ≤ 1000000 ∧ i.natAbs < 2 ^ 64)
abbrev opPow : Op2 := opIc powOk fun i j => i ^ j.toNat
abbrev opShl : Op2 := opIc powOk fun i j => i * 2 ^ j.toNat
abbrev opShr : Op2 := opIc (fun _ j => decide (0 ≤ j)) fun i j => i / 2 ^ j.toNat
abbrev opBand : Op2 := opI Builtin.bitAnd
abbrev opBor : Op2 := opI Builtin.bitOr
abbrev opXor : Op2 := opI Builtin.bitXor
abbrev opLt : Op2 := opB fun i j => decide (i < j)
abbrev opLe : Op2 := opB fun i j => decide (i ≤ j)
abbrev opGt : Op2 := opB fun i j => decide (j < i)
abbrev opGe : Op2 := opB fun i j => decide (j ≤ i)
/-- [..] * n -/
def opRep : Op2
  | .lst xs, .int k => if (decide (-(2 ^ 63) ≤ k ∧ k < 2 ^ 63) && fits (xs.length * k.toNat)) = true then some (.lst (List.replicate k.toNat xs).flatten) else none
  | _, _ => none
section
variable {X : Cx} {f : Value → Value → Sem Value}
theorem os_I {g : Int → Int → Int} (o : OpR X f (rI0 fun i j => .int (g i j))) : OpS X f false (opI g) := fun O => o.wk fun x y H Q ⟨gg, h, ρ, σ, a, b, z, k, r1, r2, e, q⟩ => by
  cases a with
  | int i =>
    cases b with
    | int j =>
      cases e
      exact ⟨i, j, r1.int, r2.int, q _ H h k (.refl _) (.int _)⟩
    | _ => cases e
  | _ => cases e
theorem os_Ic {C : Int → Int → Prop} {c : Int → Int → Bool} {g : Int → Int → Int} (o : OpR X f (rI C fun i j => .int (g i j))) (hc : ∀ i j, c i j = true → C i j) : OpS X f false (opIc c g) := fun O => o.wk fun x y H Q ⟨gg, h, ρ, σ, a, b, z, k, r1, r2, e, q⟩ => by
  cases a with
  | int i =>
    cases b with
    | int j =>
      obtain ⟨e1, e2⟩ := ite_inv e
      cases e2
      exact ⟨i, j, r1.int, r2.int, hc _ _ e1, q _ H h k (.refl _) (.int _)⟩
    | _ => cases e
  | _ => cases e
theorem os_B {g : Int → Int → Bool} (o : OpR X f (rI0 fun i j => .bl (g i j))) : OpS X f false (opB g) := fun O => o.wk fun x y H Q ⟨gg, h, ρ, σ, a, b, z, k, r1, r2, e, q⟩ => by
  cases a with
  | int i =>
    cases b with
    | int j =>
      cases e
      exact ⟨i, j, r1.int, r2.int, q _ H h k (.refl _) (.bl _)⟩
    | _ => cases e
  | _ => cases e
theorem mulOk_ok {i j : Int} (h : mulOk i j = true) : IntMulOk i j := by
  unfold mulOk at h
  rw [Bool.or_eq_true] at h
  rcases h with h | h
  · exact CMul.ok (of_decide_eq_true (p := (-(2 ^ 64) < i ∧ i < 2 ^ 64) ∨ (-(2 ^ 64) < j ∧ j < 2 ^ 64)) h)
  · exact CMulW.ok (of_decide_eq_true (p := i.natAbs.log2 + j.natAbs.log2 < 1000000) h)
theorem os_sub : OpS X (binaryOp .Sub) false opSub := os_I op_sub
theorem os_mul : OpS X (binaryOp .Mult) false opMul := os_Ic (C := IntMulOk) (L2.opI (g := fun i j => i * j) fun _ _ _ _ _ _ _ hc q => mul_int q hc) fun _ _ h => mulOk_ok h
theorem os_mod : OpS X (binaryOp .Mod) false opMod := os_Ic op_mod fun _ j h => of_decide_eq_true (p := 0 < j) h
theorem divOk_ok {i j : Int} (h : divOk j = true) : CDivW i j := by
  unfold divOk at h
  rw [Bool.and_eq_true] at h
  exact ⟨of_decide_eq_true h.1, of_decide_eq_true h.2⟩
theorem os_div : OpS X (binaryOp .FloorDiv) false opDiv := os_Ic op_fdivW fun _ _ h => divOk_ok h
theorem os_pow : OpS X (binaryOp .Pow) false opPow := os_Ic op_pow fun i j h => of_decide_eq_true (p := 0 ≤ j ∧ j ≤ 1000000 ∧ i.natAbs < 2 ^ 64) h
theorem os_shl : OpS X (binaryOp .LShift) false opShl := os_Ic op_shl fun i j h => of_decide_eq_true (p := 0 ≤ j ∧ j ≤ 1000000 ∧ i.natAbs < 2 ^ 64) h
theorem os_shr : OpS X (binaryOp .RShift) false opShr := os_Ic op_shr fun i j h => of_decide_eq_true (p := 0 ≤ j) h
theorem os_band : OpS X (binaryOp .BitAnd) false opBand := os_I op_and
theorem os_bor : OpS X (binaryOp .BitOr) false opBor := os_I op_or
theorem os_xor : OpS X (binaryOp .BitXor) false opXor := os_I op_xor
theorem os_lt : OpS X (compareOp .Lt) false opLt := os_B op_lt
theorem os_le : OpS X (compareOp .LtE) false opLe := os_B op_le
theorem os_gt : OpS X (compareOp .Gt) false opGt := os_B op_gt
theorem os_ge : OpS X (compareOp .GtE) false opGe := os_B op_ge
/-- in place -/
theorem ip_mul : OpS X (inplaceOp .Mult) false opMul := os_Ic (C := IntMulOk) (L2.opI (g := fun i j => i * j) fun _ _ _ _ _ _ _ hc q => imul_int q hc) fun _ _ h => mulOk_ok h
theorem ip_addI : OpS X (inplaceOp .Add) false (opI fun i j => i + j) := os_I iop_add
theorem ip_subI : OpS X (inplaceOp .Sub) false opSub := os_I iop_sub
theorem ip_div : OpS X (inplaceOp .FloorDiv) false opDiv := os_Ic iop_fdivW fun _ _ h => divOk_ok h
theorem ip_mod : OpS X (inplaceOp .Mod) false opMod := os_Ic iop_mod fun _ j h => of_decide_eq_true (p := 0 < j) h
theorem ip_shr : OpS X (inplaceOp .RShift) false opShr := os_Ic iop_shr fun i j h => of_decide_eq_true (p := 0 ≤ j) h
theorem ip_bor : OpS X (inplaceOp .BitOr) false opBor := os_I iop_or
theorem os_cat : OpS X (binaryOp .Add) true opCat := fun O => op_cat.wk fun x y H Q ⟨gg, h, ρ, σ, a, b, z, k, r1, r2, e, q⟩ => by
  cases a with
  | lst xs =>
    cases b with
    | lst ys =>
      obtain ⟨e1, e2⟩ := ite_inv e
      cases e2
      obtain ⟨p1, vs, rfl, h1, t1⟩ := r1.lst k.sub
      obtain ⟨p2, ws, rfl, h2, t2⟩ := r2.lst k.sub
      refine ⟨p1, p2, vs, ws, rfl, rfl, h1, h2, by rw [← t1.length, ← t2.length]; exact fits_ok e1, fun p np => ?_⟩
      obtain ⟨k2, f2⟩ := k.fresh np (t1.append t2)
      exact q _ _ _ k2 (.refl _) f2
    | _ => cases e
  | _ => cases e
theorem os_add : OpS X (binaryOp .Add) false opAdd := fun O => ((op_add.or op_catA).or (os_cat O)).wk fun x y H Q ⟨gg, h, ρ, σ, a, b, z, k, r1, r2, e, q⟩ => by
  cases a with
  | int i =>
    cases b with
    | int j =>
      cases e
      exact .inl (.inl ⟨i, j, r1.int, r2.int, q _ H h k (.refl _) (.int _)⟩)
    | _ => cases e
  | tup xs =>
    cases b with
    | tup ys =>
      obtain ⟨e1, e2⟩ := ite_inv e
      cases e2
      obtain ⟨p1, vs, rfl, h1, t1⟩ := r1.tup
      obtain ⟨p2, ws, rfl, h2, t2⟩ := r2.tup
      have n1 := t1.length
      have n2 := t2.length
      refine .inl (.inr ⟨p1, p2, vs, ws, rfl, rfl, k.sub.sqT h1, k.sub.sqT h2, by rw [← n1, ← n2]; exact fits_ok e1, fun z => ?_, fun _ z => ?_, fun _ _ p np => ?_⟩)
      · subst z
        have : xs = [] := List.length_eq_zero_iff.mp n1
        subst this
        exact q _ H h k (.refl _) (.tup h2 t2)
      · subst z
        have : ys = [] := List.length_eq_zero_iff.mp n2
        subst this
        exact q _ H h k (.refl _) (by
          rw [List.append_nil]
          exact .tup h1 t1)
      · obtain ⟨k2, l2⟩ := k.laid np (.tup (vs ++ ws))
        exact q _ _ _ k2 l2 (Rep.tup (.inl (.inl upd_same)) ((t1.append t2).le l2))
    | _ => cases e
  | lst xs =>
    cases b with
    | lst ys =>
      exact .inr ⟨gg, h, ρ, σ, _, _, _, k, r1, r2, e, fun w H' h' k' l f => by
        obtain ⟨h2, k2, l2, r⟩ := k'.share f
        exact q w H' h2 k2 (l.trans l2) r⟩
    | _ => cases e
  | _ => cases e
theorem os_rep : OpS X (binaryOp .Mult) true opRep := fun O => op_rep.wk fun x y H Q ⟨gg, h, ρ, σ, a, b, z, k, r1, r2, e, q⟩ => by
  cases a with
  | lst xs =>
    cases b with
    | int j =>
      obtain ⟨e1, e2⟩ := ite_inv e
      cases e2
      rw [Bool.and_eq_true] at e1
      obtain ⟨e0, e1⟩ := e1
      obtain ⟨b1, b2⟩ := of_decide_eq_true e0
      obtain ⟨p1, vs, rfl, h1, t1⟩ := r1.lst k.sub
      refine ⟨p1, j, vs, rfl, r2.int, h1, b1, b2, by rw [← t1.length]; exact fits_ok e1, fun p np => ?_⟩
      obtain ⟨k2, f2⟩ := k.fresh np (t1.rep j.toNat)
      exact q _ _ _ k2 (.refl _) f2
    | _ => cases e
  | _ => cases e
def opNeg : Op1
  | .int i => some (.int (-i))
  | _ => none
theorem us_neg : UnS X (unaryOp .USub) false opNeg := fun O => un_neg.wk fun x H Q ⟨gg, h, ρ, σ, a, z, k, r1, e, q⟩ => by
  cases a with
  | int i =>
    cases e
    exact ⟨i, r1.int, q _ H h k (.refl _) (.int _)⟩
  | _ => cases e
end

/-! ### comparisons of data -/
mutual
def dat : PV → PyData
  | .non => .none
  | .bl b => .bool b
  | .int i => .int i
  | .str x => .str x
  | .tup xs => .tuple (datL xs)
  | .lst xs => .list (datL xs)
  | .scr ns => .list (ns.map .int)
def datL : List PV → List PyData
  | [] => []
  | x :: xs => dat x :: datL xs
end
theorem dpAll_ints {K : Frg} {H : Hp} : ∀ ns : List Int, DpAll K H (ns.map V.int) (ns.map PyData.int)
  | [] => .nil
  | _ :: r => .cons (.int _) (dpAll_ints r)
mutual
theorem Rep.dp {K : Frg} {h H : Hp} (l : Le h H) : ∀ {x : PV} {v : V}, Rep K h x v → Dp K H v (dat x)
  | _, _, .non => .non
  | _, _, .bl b => .bl b
  | _, _, .int i => .int i
  | _, _, .str x => .str x
  | _, _, .tup s r => .tup (l.sqT s) (RepL.dp l r)
  | _, _, .lst s r => .lst (.inl (.inl (l _ _ s))) (RepL.dp l r)
  | _, _, .scr s => .lst (l.sqL s) (dpAll_ints _)
theorem RepL.dp {K : Frg} {h H : Hp} (l : Le h H) : ∀ {xs : List PV} {vs : List V}, RepL K h xs vs → DpAll K H vs (datL xs)
  | _, _, .nil => .nil
  | _, _, .cons r t => .cons (Rep.dp l r) (RepL.dp l t)
end
theorem View.dp {K : Frg} {h H : Hp} {x : PV} {v : V} (r : View K h H x v) (l : Le h H) : Dp K H v (dat x) := by
  rcases r with r | ⟨xs, a, vs, rfl, rfl, e, t⟩
  · exact r.dp l
  · exact .lst (.inl (.inl e)) (t.dp l)
def shp (x : PV) : Bool := SeqAt.shaped (dat x)
def peq (x y : PV) : Bool := PyData.eqv (dat x) (dat y)
def opEq : Op2 := fun x y => if (shp x && shp y) = true then some (.bl (peq x y)) else none
def opNe : Op2 := fun x y => if (shp x && shp y) = true then some (.bl (!peq x y)) else none
section
variable {X : Cx}
theorem os_eq (hu : X.A.units + 64 < cLine) : OpS X (compareOp .Eq) false opEq := fun O => (op_eqD hu).wk fun x y H Q ⟨gg, h, ρ, σ, a, b, z, k, r1, r2, e, q⟩ => by
  obtain ⟨e1, e2⟩ := ite_inv e
  cases e2
  rw [Bool.and_eq_true] at e1
  exact ⟨dat a, dat b, r1.dp k.sub, r2.dp k.sub, e1.1, e1.2, q _ H h k (.refl _) (.bl _)⟩
theorem os_ne (hu : X.A.units + 64 < cLine) : OpS X (compareOp .NotEq) false opNe := fun O => (op_neD hu).wk fun x y H Q ⟨gg, h, ρ, σ, a, b, z, k, r1, r2, e, q⟩ => by
  obtain ⟨e1, e2⟩ := ite_inv e
  cases e2
  rw [Bool.and_eq_true] at e1
  exact ⟨dat a, dat b, r1.dp k.sub, r2.dp k.sub, e1.1, e1.2, q _ H h k (.refl _) (.bl _)⟩
/-- is None, is not None: the right side None -/
def isNon : PV → Bool
  | .non => true
  | _ => false
def opIsN : Op2 := fun x y => if isNon y = true then some (.bl (isNon x)) else none
def opIsNotN : Op2 := fun x y => if isNon y = true then some (.bl (!isNon x)) else none
theorem View.isNon {K : Frg} {h H : Hp} {x : PV} {v : V} (r : View K h H x v) : decide (v = .non) = isNon x := by
  rcases r with r | ⟨xs, a, vs, rfl, rfl, e, t⟩
  · cases r <;> first | rfl | exact decide_eq_false (fun z => nomatch z)
  · exact decide_eq_false (fun z => nomatch z)
theorem isNon_eq {x : PV} (h : isNon x = true) : x = .non := by
  cases x <;> first | rfl | cases h
theorem os_isN : OpS X (compareOp .Is) false opIsN := fun O => op_isN.wk fun x y H Q ⟨gg, h, ρ, σ, a, b, z, k, r1, r2, e, q⟩ => by
  obtain ⟨e1, e2⟩ := ite_inv e
  cases e2
  have e3 := isNon_eq e1
  subst e3
  refine ⟨r2.non, ?_⟩
  rw [r1.isNon]
  exact q _ H h k (.refl _) (.bl _)
theorem os_isNotN : OpS X (compareOp .IsNot) false opIsNotN := fun O => op_notN.wk fun x y H Q ⟨gg, h, ρ, σ, a, b, z, k, r1, r2, e, q⟩ => by
  obtain ⟨e1, e2⟩ := ite_inv e
  cases e2
  have e3 := isNon_eq e1
  subst e3
  refine ⟨r2.non, ?_⟩
  rw [r1.isNon]
  exact q _ H h k (.refl _) (.bl _)
/-- in a list or tuple of flat things -/
def flat : PV → Bool
  | .non => true
  | .bl _ => true
  | .int _ => true
  | .str _ => true
  | _ => false
def feq : PV → PV → Bool
  | .non, .non => true
  | .bl a, .bl b => a == b
  | .bl a, .int b => (if a then 1 else 0) == b
  | .int a, .bl b => a == (if b then 1 else 0)
  | .int a, .int b => a == b
  | .str a, .str b => a == b
  | _, _ => false
theorem Rep.flat {K : Frg} {h : Hp} {x : PV} {v : V} (r : Rep K h x v) (f : PL.flat x = true) : flatV v = true := by
  cases r <;> first | rfl | cases f
theorem RepL.flat {K : Frg} {h : Hp} : ∀ {xs : List PV} {vs : List V}, RepL K h xs vs → xs.all PL.flat = true → vs.all flatV = true
  | _, _, .nil, _ => rfl
  | _, _, .cons r t, f => by
    rw [List.all_cons, Bool.and_eq_true] at f ⊢
    exact ⟨r.flat f.1, t.flat f.2⟩
theorem Rep.feq {K : Frg} {h h' : Hp} {x y : PV} {v u : V} (r : Rep K h x v) (r' : Rep K h' y u) (f : PL.flat x = true) (f' : PL.flat y = true) : eqV v u = PL.feq x y := by
  cases r <;> cases r' <;> first | rfl | cases f | cases f'
theorem RepL.any {K : Frg} {h h' : Hp} {x : PV} {v : V} (rx : Rep K h' x v) (fx : PL.flat x = true) : ∀ {xs : List PV} {vs : List V}, RepL K h xs vs → xs.all PL.flat = true → inV v vs = xs.any fun y => PL.feq y x
  | _, _, .nil, _ => rfl
  | _, _, .cons r t, f => by
    rw [List.all_cons, Bool.and_eq_true] at f
    show (eqV _ v || inV v _) = _
    rw [r.feq rx f.1 fx, RepL.any rx fx t f.2]
    rfl
def opIn : Op2 := fun x y => (items? y).bind fun xs => if (flat x && xs.all flat) = true then some (.bl (xs.any fun y => feq y x)) else none
def opNotIn : Op2 := fun x y => (items? y).bind fun xs => if (flat x && xs.all flat) = true then some (.bl (!xs.any fun y => feq y x)) else none
theorem View.seq {K : Frg} {h H : Hp} {x : PV} {v : V} {xs : List PV} (r : View K h H x v) (l : Le h H) (e : items? x = some xs) : ∃ a vs, v = .ref a ∧ (SqL K H a vs ∨ SqT K H a vs) ∧ RepL K h xs vs := by
  cases x with
  | tup ys =>
    cases e
    obtain ⟨a, vs, e, s, t⟩ := r.tup
    exact ⟨a, vs, e, .inr (l.sqT s), t⟩
  | lst ys =>
    cases e
    obtain ⟨a, vs, e, s, t⟩ := r.lst l
    exact ⟨a, vs, e, .inl (.inl (.inl s)), t⟩
  | _ => cases e
theorem View.rep {K : Frg} {h H : Hp} {x : PV} {v : V} (r : View K h H x v) (f : PL.flat x = true) : Rep K h x v := by
  rcases r with r | ⟨xs, a, vs, rfl, rfl, e, t⟩
  · exact r
  · cases f
theorem os_in : OpS X (compareOp .In) false opIn := fun O => op_in_seq.wk fun x y H Q ⟨gg, h, ρ, σ, a, b, z, k, r1, r2, e, q⟩ => by
  obtain ⟨xs, e3, e⟩ := bind_inv e
  obtain ⟨e1, e2⟩ := ite_inv e
  cases e2
  rw [Bool.and_eq_true] at e1
  obtain ⟨p, vs, rfl, s, t⟩ := r2.seq k.sub e3
  refine ⟨p, vs, rfl, s, (r1.rep e1.1).flat e1.1, t.flat e1.2, ?_⟩
  show Q (.bl (inV x vs)) H
  rw [t.any (r1.rep e1.1) e1.1 e1.2]
  exact q _ H h k (.refl _) (.bl _)
theorem os_notIn : OpS X (compareOp .NotIn) false opNotIn := fun O => op_notIn_seq.wk fun x y H Q ⟨gg, h, ρ, σ, a, b, z, k, r1, r2, e, q⟩ => by
  obtain ⟨xs, e3, e⟩ := bind_inv e
  obtain ⟨e1, e2⟩ := ite_inv e
  cases e2
  rw [Bool.and_eq_true] at e1
  obtain ⟨p, vs, rfl, s, t⟩ := r2.seq k.sub e3
  refine ⟨p, vs, rfl, s, (r1.rep e1.1).flat e1.1, t.flat e1.2, ?_⟩
  show Q (.bl (!inV x vs)) H
  rw [t.any (r1.rep e1.1) e1.1 e1.2]
  exact q _ H h k (.refl _) (.bl _)
end
end PL

/-! PL4: built-in functions, subscripts, slices -/
namespace HT2
open PySem PySem.Spec PyProof.Rows HT
section
variable {prog : Program} {w : World} {A : Around} {E : Value → Shared → Prop} {s : Shared}
theorem adjust_rev (n : Nat) : Builtin.Slice.sliceAdjust none none (-1) (n : Int) = ((n : Int) - 1, -1) := by
  unfold Builtin.Slice.sliceAdjust
  rfl
theorem places_rev (n : Nat) : Builtin.Slice.slicePlaces ((n : Int) - 1) (-1) (-1) = n := by
  unfold Builtin.Slice.slicePlaces
  have h1 : ¬ ((-1 : Int) > 0) := by omega
  simp only [h1, if_false]
  split
  · have : ((n : Int) - 1 - -1 - 1) / (- -1) = (n : Int) - 1 := by
      rw [show (- -1 : Int) = 1 by decide, Int.ediv_one]
      omega
    omega
  · omega
theorem sliceApplied_rev {sl : Addr} {vs : Value} {n : Nat} {Q : Int × Int × Nat → Shared → Prop} (hs : s.heap.IsSliceOf sl .none .none vs) (ps : IsPart vs (some (-1)))
    (h : Q ((n : Int) - 1, -1, n) s) : wpAny (model prog w) A (Builtin.Slice.sliceApplied (.ref sl) (pure (n : Int))) Q E s := by
  obtain ⟨os, hos, hcs, hds⟩ := id hs
  unfold Builtin.Slice.sliceApplied Builtin.Slice.sliceFields
  refine wpAny_bind (wpAny_bind (wpAny_field hos hds (x := .none) rfl (wpAny_bind (wpAny_field hos hds (x := .none) rfl (wpAny_bind (wpAny_field hos hds (x := vs) rfl (wpAny_pure ?_)))))))
  refine wpAny_bind (slicePart_ ps ?_)
  show wpAny _ _ (if ((-1 : Int) == 0) = true then _ else _) _ _ s
  rw [if_neg (by decide)]
  refine wpAny_bind (slicePart_none (wpAny_bind (slicePart_none (wpAny_bind (wpAny_pure ?_)))))
  show wpAny _ _ (match Builtin.Slice.sliceAdjust none none (-1) (n : Int) with | (lo, hi) => pure (lo, (-1 : Int), Builtin.Slice.slicePlaces lo hi (-1))) _ _ s
  rw [adjust_rev n]
  show wpAny _ _ (pure ((n : Int) - 1, (-1 : Int), Builtin.Slice.slicePlaces ((n : Int) - 1) (-1) (-1))) _ _ s
  rw [places_rev]
  exact wpAny_pure h
theorem pick_rev (xs : Array Value) : ((List.range xs.size).filterMap fun (m : Nat) => xs[(((xs.size : Nat) : Int) - 1 + (m : Int) * -1).toNat]?).toArray = xs.toList.reverse.toArray := by
  have e : ((List.range xs.size).filterMap fun (m : Nat) => xs[(((xs.size : Nat) : Int) - 1 + (m : Int) * -1).toNat]?) = ((List.range xs.size).map fun k => xs.size - 1 - k).filterMap (xs[·]?) := by
    rw [List.filterMap_map]
    congr 1
    funext m
    have : (((xs.size : Nat) : Int) - 1 + (m : Int) * -1).toNat = xs.size - 1 - m := by omega
    show xs[_]? = xs[_]?
    rw [this]
  rw [e, PySem.W.krv_range, List.filterMap_reverse, PySem.W.krv_all]
theorem getItem_tuple_rev {t sl : Addr} {items : Array Value} {vs : Value} {Q : Value → Shared → Prop} (ht : IsTup s.heap t items) (hs : s.heap.IsSliceOf sl .none .none vs) (ps : IsPart vs (some (-1)))
    (h : Q (.ref s.heap.objs.size) { s with heap := s.heap.push { cls := .type "tuple", data := .seq items.toList.reverse.toArray } })
    (hsz : items.size ≤ sizeLine) : wpAny (model prog w) A (getItem (.ref t) (.ref sl)) Q E s := by
  have htake : sizeOk (.seq items.toList.reverse.toArray) := by
    show items.toList.reverse.toArray.size ≤ sizeLine
    rw [List.size_toArray, List.length_reverse, Array.length_toList]
    omega
  obtain ⟨os, hos, hcs, hds⟩ := id hs
  have hTs : s.TypeIs (.ref sl) "slice" := ⟨os, hos, hcs⟩
  unfold getItem
  try with_reducible refine wpAny_holding ?_
  first | refine wpAny_bind (wpAny_pure ?_) | skip
  refine wpAny_bind (wpAny_sequenceKey ht.typeIs (by decide) ?_)
  refine wpAny_bind (wpAny_callSpecial?_slot (name := Str.ofString "__getitem__") ht.typeIs PyProof.Rows.slot_tuple_getitem
    (wpAny_call_entry PyProof.Rows.slot_tuple_getitem ht.typeIs entry_tuple_getitem ?_ (args_tuple_getitem _ _)))
  show wpAny _ _ (Builtin.Tuple.tupleItemsOf (.ref t) >>= _) _ _ s
  refine wpAny_bind (tupleItemsOf_ ht ?_)
  refine wpAny_bind (wpAny_typeOf hTs ?_)
  rw [if_pos (by decide)]
  refine wpAny_bind (sliceApplied_rev (n := items.size) hs ps ?_)
  show wpAny _ _ (if ((((items.size : Nat) : Int) - 1 == 0 && (-1 : Int) == 1 && items.size == items.size)) = true then _ else _) _ _ s
  rw [if_neg (by rw [show ((-1 : Int) == 1) = false from rfl, Bool.and_false, Bool.false_and]; decide), pick_rev]
  first
    | exact wpAny_bind (m := Builtin.Tuple.tupleExact _) (wpAny_newObj_type (wpAny_pure ⟨_, rfl, wpAny_pure h⟩) htake)
    | exact wpAny_bind (m := Builtin.Tuple.tupleExact _) (wpAny_newObj_type (wpAny_bind (wpAny_pure (wpAny_pure ⟨_, rfl, wpAny_pure h⟩))) htake)
    | exact wpAny_bind (wpAny_bind (m := Builtin.Tuple.tupleExact _) (wpAny_newObj_type (wpAny_pure (wpAny_pure ⟨_, rfl, wpAny_pure h⟩)) htake))
    | exact wpAny_bind (wpAny_bind (m := Builtin.Tuple.tupleExact _) (wpAny_newObj_type (wpAny_pure ⟨_, rfl, wpAny_pure h⟩) htake))
end
end HT2
namespace PL
open PySem PySem.Spec PyProof.Rows L2

/-- the built-in names are the built-in things -/
structure Bi (mg : Str → Option Value) : Prop where
  isinstance : mg "isinstance" = none
  len : mg "len" = none
  range : mg "range" = none
  list : mg "list" = none
  tuple : mg "tuple" = none
  all : mg "all" = none
  any : mg "any" = none
  sum : mg "sum" = none
  max : mg "max" = none
  min : mg "min" = none
  abs : mg "abs" = none
  int : mg "int" = none
  bool : mg "bool" = none
  str : mg "str" = none
  dict : mg "dict" = none
  zip : mg "zip" = none
  enumerate : mg "enumerate" = none
  sorted : mg "sorted" = none
  repr : mg "repr" = none

section
variable {X : Cx} {O : List Nat} {e a b c : Expr} {fr : Bool} {ev ea eb ec : EvE} {p pos : Pos} {id T : String} {x : Str} {o1 : Op1} {o2 : Op2}
theorem _root_.L2.CallR.wk {f : Value} {r r' : List V → Hp → VK → Prop} (o : CallR X f r) (w : ∀ xs H Q, r' xs H Q → r xs H Q) : CallR X f r' := fun pins s σ H xs us Q I rx h => o pins s σ H xs us Q I rx (w _ _ _ h)
def CaS (X : Cx) (f : Value) (fr : Bool) (op : Op1) : Prop := ∀ O, CallR X f (fun xs H Q => ∃ v, xs = [v] ∧ rdO1 X.K O fr op v H Q)
def CaS2 (X : Cx) (f : Value) (fr : Bool) (op : Op2) : Prop := ∀ O, CallR X f (fun xs H Q => ∃ v u, xs = [v, u] ∧ rdO X.K O fr op v u H Q)
theorem one_wk {K : Frg} : ∀ σ H Q, rdX K O fr (eUn o1 ev) σ H Q → tCB (fun xs H Q => ∃ v, xs = [v] ∧ rdO1 K O fr o1 v H Q) (tCons (rdV K O ev) tNil) σ H Q := fun σ H Q ⟨g, hh, ρ, pv, ρ', k, e1, q⟩ => by
  obtain ⟨⟨x, ρ1⟩, e2, e1⟩ := bind_inv e1
  obtain ⟨z, e4, e5⟩ := map_inv e1
  cases e5
  exact ⟨g, hh, ρ, x, _, k, e2, fun v H1 h1 k1 l1 r1 => ⟨v, rfl, g, h1, _, σ, x, _, k1, r1, e4, fun w H3 h3 k3 l3 r3 => q w H3 h3 k3 (l1.trans l3) r3⟩⟩
theorem two_wk2 {K : Frg} : ∀ σ H Q, rdX K O fr (eBin o2 ea eb) σ H Q → tCB (fun xs H Q => ∃ v u, xs = [v, u] ∧ rdO K O fr o2 v u H Q) (tCons (rdX K O false ea) (tCons (rdV K O eb) tNil)) σ H Q := fun σ H Q h =>
  two_wk (r := rdO K O fr o2) (ta := rdX K O false ea) (tb := fun σ H Q => rdV K O eb σ H Q) (fun _ _ _ h => h) (fun _ _ _ h => h) (fun _ _ _ _ h => h) σ H Q h |> fun ⟨g, hh, ρ, pv, ρ', k, e1, q⟩ =>
    ⟨g, hh, ρ, pv, ρ', k, e1, fun v H' h' k' l r => (q v H' h' k' l r) |> fun ⟨g, hh, ρ, pv, ρ', k, e1, q⟩ => ⟨g, hh, ρ, pv, ρ', k, e1, fun u H2 h2 k2 l2 r2 => ⟨v, u, rfl, q u H2 h2 k2 l2 r2⟩⟩⟩
theorem s_callB (hc : CaS X (.builtin id) fr o1) (hm : X.mg x = none) (hv : bootBuiltins x = some (.builtin id)) (ha : SV X O e ev) (hg : Gl X x) (hn : x ≠ "__name__" := by decide) (hdb : (x == ("__debug__" : Str)) = false := by decide)
    (he : starEach (e :: []) X.env = (false, eval e X.env) :: starEach [] X.env := by rfl) (hpl : (backTo pos (starEach [] X.env)).any (·.1) = false := by rfl) : SX X O fr (.Call (.Name x p) [e] [] pos) (eUn o1 ev) :=
  (pe_callB (hc O) hg hm hv (pa_cons ha pa_nil he) hn hdb he hpl).wk one_wk
theorem s_callTy (hc : CaS X (.type T) fr o1) (hm : X.mg x = none) (hv : bootBuiltins x = some (.type T)) (ha : SV X O e ev) (hg : Gl X x) (hn : x ≠ "__name__" := by decide) (hdb : (x == ("__debug__" : Str)) = false := by decide)
    (he : starEach (e :: []) X.env = (false, eval e X.env) :: starEach [] X.env := by rfl) (hpl : (backTo pos (starEach [] X.env)).any (·.1) = false := by rfl) : SX X O fr (.Call (.Name x p) [e] [] pos) (eUn o1 ev) :=
  (pe_callTy (hc O) hg hm hv (pa_cons ha pa_nil he) hn hdb he hpl).wk one_wk
theorem s_callB2 (hc : CaS2 X (.builtin id) fr o2) (hm : X.mg x = none) (hv : bootBuiltins x = some (.builtin id)) (ha : SX X O false a ea) (hb : SV X O b eb) (hg : Gl X x) (hn : x ≠ "__name__" := by decide) (hdb : (x == ("__debug__" : Str)) = false := by decide)
    (he : starEach [a, b] X.env = (false, eval a X.env) :: starEach [b] X.env := by rfl) (he2 : starEach [b] X.env = (false, eval b X.env) :: starEach [] X.env := by rfl) (hpl : (backTo pos (starEach [b] X.env)).any (·.1) = false := by rfl) : SX X O fr (.Call (.Name x p) [a, b] [] pos) (eBin o2 ea eb) :=
  (pe_callB (hc O) hg hm hv (pa_cons ha (pa_cons hb pa_nil he2) he) hn hdb he hpl).wk two_wk2

/-! ### the functions -/
def opLen : Op1
  | .tup xs => some (.int xs.length)
  | .lst xs => some (.int xs.length)
  | .scr ns => some (.int ns.length)
  | _ => none
theorem cs_len : CaS X (.builtin "len") false opLen := fun O => call_len_seq.wk fun xs H Q ⟨v, ex, g, h, ρ, σ, x, z, k, r, e, q⟩ => by
  subst ex
  cases x with
  | tup ys =>
    obtain ⟨p, vs, rfl, s, t⟩ := r.tup
    cases e
    refine ⟨p, vs, rfl, .inr (k.sub.sqT s), ?_⟩
    rw [← t.length]
    exact q _ H h k (.refl _) (.int _)
  | lst ys =>
    obtain ⟨p, vs, rfl, s, t⟩ := r.lst k.sub
    cases e
    refine ⟨p, vs, rfl, .inl (.inl (.inl s)), ?_⟩
    rw [← t.length]
    exact q _ H h k (.refl _) (.int _)
  | scr ns =>
    obtain ⟨p, rfl, s⟩ := r.scr
    cases e
    refine ⟨p, _, rfl, .inl (k.sub.sqL s), ?_⟩
    rw [List.length_map]
    exact q _ H h k (.refl _) (.int _)
  | _ => cases e
def opList : Op1 := fun x => (items? x).map .lst
theorem cs_list : CaS X (.type "list") true opList := fun O => call_list_of.wk fun xs H Q ⟨v, ex, g, h, ρ, σ, x, z, k, r, e, q⟩ => by
  subst ex
  obtain ⟨ys, e1, e2⟩ := map_inv e
  cases e2
  obtain ⟨p, vs, rfl, s, t⟩ := r.seq k.sub e1
  refine ⟨p, vs, rfl, s, fun l nl => ?_⟩
  obtain ⟨k2, f⟩ := k.fresh nl t
  exact q _ _ _ k2 (.refl _) f
def opTuple : Op1 := fun x => (items? x).map .tup
theorem cs_tuple : CaS X (.type "tuple") false opTuple := fun O => call_tuple_of.wk fun xs H Q ⟨v, ex, g, h, ρ, σ, x, z, k, r, e, q⟩ => by
  subst ex
  cases x with
  | tup ys =>
    obtain ⟨p, vs, rfl, s, t⟩ := r.tup
    cases e
    exact ⟨p, vs, rfl, .inr ⟨k.sub.sqT s, q _ H h k (.refl _) (Rep.tup s t)⟩⟩
  | lst ys =>
    obtain ⟨p, vs, rfl, s, t⟩ := r.lst k.sub
    cases e
    refine ⟨p, vs, rfl, .inl ⟨.inl (.inl s), fun l nl => ?_⟩⟩
    obtain ⟨k2, l2⟩ := k.laid nl (.tup vs)
    exact q _ _ _ k2 l2 (Rep.tup (.inl (.inl upd_same)) (t.le l2))
  | _ => cases e
def ints? : List PV → Option (List Int)
  | [] => some []
  | .int i :: r => (ints? r).map fun ns => i :: ns
  | _ => none
theorem ints?_inv : ∀ {xs : List PV} {ns : List Int}, ints? xs = some ns → xs = ns.map PV.int
  | [], ns, h => by
    cases h
    rfl
  | x :: r, ns, h => by
    cases x with
    | int i =>
      obtain ⟨ms, e1, e2⟩ := map_inv (show (ints? r).map (fun ns => i :: ns) = some ns from h)
      subst e2
      rw [ints?_inv e1]
      rfl
    | _ => cases h
theorem ints?_map (ns : List Int) : ints? (ns.map PV.int) = some ns := by
  induction ns with
  | nil => rfl
  | cons n r ih =>
    show (ints? (r.map PV.int)).map (fun ns => n :: ns) = _
    rw [ih]
    rfl
def bls? : List PV → Option (List Bool)
  | [] => some []
  | .bl i :: r => (bls? r).map fun ns => i :: ns
  | _ => none
theorem bls?_inv : ∀ {xs : List PV} {ns : List Bool}, bls? xs = some ns → xs = ns.map PV.bl
  | [], ns, h => by
    cases h
    rfl
  | x :: r, ns, h => by
    cases x with
    | bl i =>
      obtain ⟨ms, e1, e2⟩ := map_inv (show (bls? r).map (fun ns => i :: ns) = some ns from h)
      subst e2
      rw [bls?_inv e1]
      rfl
    | _ => cases h
theorem bls?_map (ns : List Bool) : bls? (ns.map PV.bl) = some ns := by
  induction ns with
  | nil => rfl
  | cons n r ih =>
    show (bls? (r.map PV.bl)).map (fun ns => n :: ns) = _
    rw [ih]
    rfl
def opSum : Op1
  | .lst xs => (ints? xs).map fun ns => .int ns.sum
  | _ => none
def opAll : Op1
  | .lst xs => (bls? xs).map fun bs => .bl (bs.all fun b => b)
  | _ => none
def opAny : Op1
  | .lst xs => (bls? xs).map fun bs => .bl (bs.any fun b => b)
  | _ => none
theorem cs_sum (hc : X.calm = true) : CaS X (.builtin "sum") false opSum := fun O => (cr_sum hc).wk fun xs H Q ⟨v, ex, g, h, ρ, σ, x, z, k, r, e, q⟩ => by
  subst ex
  cases x with
  | lst ys =>
    obtain ⟨ns, e1, e2⟩ := map_inv e
    cases e2
    obtain ⟨p, vs, rfl, s, t⟩ := r.lst k.sub
    rw [ints?_inv e1] at t
    have := t.ints
    subst this
    exact ⟨p, ns, rfl, .inl (.inl s), q _ H h k (.refl _) (.int _)⟩
  | _ => cases e
theorem cs_all (hc : X.calm = true) : CaS X (.builtin "all") false opAll := fun O => (cr_all hc).wk fun xs H Q ⟨v, ex, g, h, ρ, σ, x, z, k, r, e, q⟩ => by
  subst ex
  cases x with
  | lst ys =>
    obtain ⟨ns, e1, e2⟩ := map_inv e
    cases e2
    obtain ⟨p, vs, rfl, s, t⟩ := r.lst k.sub
    rw [bls?_inv e1] at t
    have := t.bls
    subst this
    exact ⟨p, ns, rfl, .inl (.inl s), q _ H h k (.refl _) (.bl _)⟩
  | _ => cases e
theorem cs_any (hc : X.calm = true) : CaS X (.builtin "any") false opAny := fun O => (cr_any hc).wk fun xs H Q ⟨v, ex, g, h, ρ, σ, x, z, k, r, e, q⟩ => by
  subst ex
  cases x with
  | lst ys =>
    obtain ⟨ns, e1, e2⟩ := map_inv e
    cases e2
    obtain ⟨p, vs, rfl, s, t⟩ := r.lst k.sub
    rw [bls?_inv e1] at t
    have := t.bls
    subst this
    exact ⟨p, ns, rfl, .inl (.inl s), q _ H h k (.refl _) (.bl _)⟩
  | _ => cases e
def opAbs : Op1
  | .int i => some (.int (if i < 0 then -i else i))
  | _ => none
theorem cs_abs : CaS X (.builtin "abs") false opAbs := fun O => call_abs.wk fun xs H Q ⟨v, ex, g, h, ρ, σ, x, z, k, r, e, q⟩ => by
  subst ex
  cases x with
  | int i =>
    cases e
    rw [r.int]
    exact ⟨i, rfl, q _ H h k (.refl _) (.int _)⟩
  | _ => cases e
def opInt : Op1
  | .int i => some (.int i)
  | .bl b => some (.int (if b then 1 else 0))
  | _ => none
theorem cs_int : CaS X (.type "int") false opInt := fun O => call_int1.wk fun xs H Q ⟨v, ex, g, h, ρ, σ, x, z, k, r, e, q⟩ => by
  subst ex
  cases x with
  | int i =>
    cases e
    rw [r.int]
    exact .inl ⟨i, rfl, q _ H h k (.refl _) (.int _)⟩
  | bl i =>
    cases e
    rw [r.bl]
    exact .inr ⟨i, rfl, q _ H h k (.refl _) (.int _)⟩
  | _ => cases e
def opMax : Op2
  | .int i, .int j => some (.int (if j > i then j else i))
  | _, _ => none
def opMin : Op2
  | .int i, .int j => some (.int (if j < i then j else i))
  | _, _ => none
theorem cs_max (hc : X.calm = true) : CaS2 X (.builtin "max") false opMax := fun O => (call_max2 hc).wk fun xs H Q ⟨v, u, ex, g, h, ρ, σ, x, y, z, k, r, r2, e, q⟩ => by
  subst ex
  cases x with
  | int i =>
    cases y with
    | int j =>
      cases e
      rw [r.int, r2.int]
      exact ⟨i, j, rfl, q _ H h k (.refl _) (.int _)⟩
    | _ => cases e
  | _ => cases e
theorem cs_min (hc : X.calm = true) : CaS2 X (.builtin "min") false opMin := fun O => (call_min2 hc).wk fun xs H Q ⟨v, u, ex, g, h, ρ, σ, x, y, z, k, r, r2, e, q⟩ => by
  subst ex
  cases x with
  | int i =>
    cases y with
    | int j =>
      cases e
      rw [r.int, r2.int]
      exact ⟨i, j, rfl, q _ H h k (.refl _) (.int _)⟩
    | _ => cases e
  | _ => cases e
theorem s_len (B : Bi X.mg) (ha : SV X O e ev) (hg : Gl X "len" := by rfl) (he : starEach (e :: []) X.env = (false, eval e X.env) :: starEach [] X.env := by rfl) (hpl : (backTo pos (starEach [] X.env)).any (·.1) = false := by rfl) : SX X O false (.Call (.Name "len" p) [e] [] pos) (eUn opLen ev) :=
  s_callB cs_len B.len (by decide +kernel) ha hg (by decide) (by decide) he hpl
theorem s_list (B : Bi X.mg) (ha : SV X O e ev) (hg : Gl X "list" := by rfl) (he : starEach (e :: []) X.env = (false, eval e X.env) :: starEach [] X.env := by rfl) (hpl : (backTo pos (starEach [] X.env)).any (·.1) = false := by rfl) : SX X O true (.Call (.Name "list" p) [e] [] pos) (eUn opList ev) :=
  s_callTy cs_list B.list (by decide +kernel) ha hg (by decide) (by decide) he hpl
theorem s_tuple (B : Bi X.mg) (ha : SV X O e ev) (hg : Gl X "tuple" := by rfl) (he : starEach (e :: []) X.env = (false, eval e X.env) :: starEach [] X.env := by rfl) (hpl : (backTo pos (starEach [] X.env)).any (·.1) = false := by rfl) : SX X O false (.Call (.Name "tuple" p) [e] [] pos) (eUn opTuple ev) :=
  s_callTy cs_tuple B.tuple (by decide +kernel) ha hg (by decide) (by decide) he hpl
theorem s_sum (B : Bi X.mg) (ha : SV X O e ev) (hc : X.calm = true := by rfl) (hg : Gl X "sum" := by rfl) (he : starEach (e :: []) X.env = (false, eval e X.env) :: starEach [] X.env := by rfl) (hpl : (backTo pos (starEach [] X.env)).any (·.1) = false := by rfl) : SX X O false (.Call (.Name "sum" p) [e] [] pos) (eUn opSum ev) :=
  s_callB (cs_sum hc) B.sum (by decide +kernel) ha hg (by decide) (by decide) he hpl
theorem s_all (B : Bi X.mg) (ha : SV X O e ev) (hc : X.calm = true := by rfl) (hg : Gl X "all" := by rfl) (he : starEach (e :: []) X.env = (false, eval e X.env) :: starEach [] X.env := by rfl) (hpl : (backTo pos (starEach [] X.env)).any (·.1) = false := by rfl) : SX X O false (.Call (.Name "all" p) [e] [] pos) (eUn opAll ev) :=
  s_callB (cs_all hc) B.all (by decide +kernel) ha hg (by decide) (by decide) he hpl
theorem s_any (B : Bi X.mg) (ha : SV X O e ev) (hc : X.calm = true := by rfl) (hg : Gl X "any" := by rfl) (he : starEach (e :: []) X.env = (false, eval e X.env) :: starEach [] X.env := by rfl) (hpl : (backTo pos (starEach [] X.env)).any (·.1) = false := by rfl) : SX X O false (.Call (.Name "any" p) [e] [] pos) (eUn opAny ev) :=
  s_callB (cs_any hc) B.any (by decide +kernel) ha hg (by decide) (by decide) he hpl
theorem s_abs (B : Bi X.mg) (ha : SV X O e ev) (hg : Gl X "abs" := by rfl) (he : starEach (e :: []) X.env = (false, eval e X.env) :: starEach [] X.env := by rfl) (hpl : (backTo pos (starEach [] X.env)).any (·.1) = false := by rfl) : SX X O false (.Call (.Name "abs" p) [e] [] pos) (eUn opAbs ev) :=
  s_callB cs_abs B.abs (by decide +kernel) ha hg (by decide) (by decide) he hpl
theorem s_intc (B : Bi X.mg) (ha : SV X O e ev) (hg : Gl X "int" := by rfl) (he : starEach (e :: []) X.env = (false, eval e X.env) :: starEach [] X.env := by rfl) (hpl : (backTo pos (starEach [] X.env)).any (·.1) = false := by rfl) : SX X O false (.Call (.Name "int" p) [e] [] pos) (eUn opInt ev) :=
  s_callTy cs_int B.int (by decide +kernel) ha hg (by decide) (by decide) he hpl
theorem s_max (B : Bi X.mg) (ha : SX X O false a ea) (hb : SV X O b eb) (hc : X.calm = true := by rfl) (hg : Gl X "max" := by rfl) (he : starEach [a, b] X.env = (false, eval a X.env) :: starEach [b] X.env := by rfl) (he2 : starEach [b] X.env = (false, eval b X.env) :: starEach [] X.env := by rfl)
    (hpl : (backTo pos (starEach [b] X.env)).any (·.1) = false := by rfl) : SX X O false (.Call (.Name "max" p) [a, b] [] pos) (eBin opMax ea eb) :=
  s_callB2 (cs_max hc) B.max (by decide +kernel) ha hb hg (by decide) (by decide) he he2 hpl
theorem s_min (B : Bi X.mg) (ha : SX X O false a ea) (hb : SV X O b eb) (hc : X.calm = true := by rfl) (hg : Gl X "min" := by rfl) (he : starEach [a, b] X.env = (false, eval a X.env) :: starEach [b] X.env := by rfl) (he2 : starEach [b] X.env = (false, eval b X.env) :: starEach [] X.env := by rfl)
    (hpl : (backTo pos (starEach [b] X.env)).any (·.1) = false := by rfl) : SX X O false (.Call (.Name "min" p) [a, b] [] pos) (eBin opMin ea eb) :=
  s_callB2 (cs_min hc) B.min (by decide +kernel) ha hb hg (by decide) (by decide) he he2 hpl

/-! ### isinstance -/
def tyOf : PV → String
  | .non => "NoneType"
  | .bl _ => "bool"
  | .int _ => "int"
  | .str _ => "str"
  | .tup _ => "tuple"
  | .lst _ => "list"
  | .scr _ => "list"
theorem View.ty {K : Frg} {h H : Hp} {x : PV} {v : V} (r : View K h H x v) (l : Le h H) : TyX K H v (.type (tyOf x)) := by
  rcases r with r | ⟨xs, a, vs, rfl, rfl, e, t⟩
  · cases r with
    | non => exact .base .non
    | bl b => exact .base (.bl b)
    | int b => exact .base (.int b)
    | str b => exact .base (.str b)
    | tup s t =>
      rcases l.sqT s with (s | ⟨o, s⟩) | ⟨o, _, _, s, c, _⟩
      · exact .base (.tup s)
      · exact .fTuple s
      · exact .kTuple s c
    | lst s t => exact .base (.lst (l _ _ s))
    | scr s =>
      rcases l.sqL s with (s | ⟨o, s⟩) | ⟨o, _, _, s, c, _⟩
      · exact .base (.lst s)
      · exact .base (.frz s)
      · exact .kList s c
  · exact .base (.lst e)
def opIsi (T : String) : Op1 := fun x => (kitB (tyOf x) T).map .bl
theorem s_isi {T : String} {q : Pos} (B : Bi X.mg) (ha : SV X O e ev) (hmT : X.mg (Str.ofString T) = none) (hvT : bootBuiltins (Str.ofString T) = some (.type T) := by decide +kernel) (hg : Gl X "isinstance" := by rfl) (hgT : Gl X (Str.ofString T) := by rfl) (hnT : (Str.ofString T) ≠ "__name__" := by decide) (hdT : ((Str.ofString T) == ("__debug__" : Str)) = false := by decide)
    (he : starEach [e, .Name (Str.ofString T) q] X.env = (false, eval e X.env) :: starEach [.Name (Str.ofString T) q] X.env := by rfl) (he2 : starEach [.Name (Str.ofString T) q] X.env = (false, eval (.Name (Str.ofString T) q) X.env) :: starEach [] X.env := by rfl) (hpl : (backTo pos (starEach [.Name (Str.ofString T) q] X.env)).any (·.1) = false := by rfl) :
    SX X O false (.Call (.Name "isinstance" p) [e, .Name (Str.ofString T) q] [] pos) (eUn (opIsi T) ev) :=
  (pe_callB call_isi hg B.isinstance (by decide +kernel) (pa_cons ha (pa_cons (pe_bltn (v := .ty T) hgT hmT hvT rfl hnT hdT) pa_nil he2) he) (by decide) (by decide) he hpl).wk fun σ H Q ⟨g, hh, ρ, pv, ρ', k, e1, q⟩ => by
    obtain ⟨⟨x, ρ1⟩, e2, e1⟩ := bind_inv e1
    obtain ⟨z, e4, e5⟩ := map_inv e1
    cases e5
    obtain ⟨b, e6, e7⟩ := map_inv e4
    cases e7
    exact ⟨g, hh, ρ, x, _, k, e2, fun v H1 h1 k1 l1 r1 => ⟨v, .ty T, _, .type T, b, rfl, .ty T, r1.ty k1.sub, kit_ty e6, q _ H1 h1 k1 l1 (.bl _)⟩⟩

/-! ### list(range(n)) -/
def rgP (a b : Int) : List PV := (List.range (b - a).toNat).map fun i => PV.int (a + (i : Nat))
theorem rgP_rep {K : Frg} {h : Hp} (a b : Int) : RepL K h (rgP a b) (rgV a b) := by
  have : ∀ l : List Nat, RepL K h (l.map fun i => PV.int (a + (i : Nat))) (l.map fun i => V.int (a + (i : Nat))) := fun l => by
    induction l with
    | nil => exact .nil
    | cons i r ih => exact .cons (.int _) ih
  exact this _
def rgOk (a b : Int) : Bool := decide (-(2 ^ 62) ≤ a ∧ a < 2 ^ 62 ∧ -(2 ^ 62) ≤ b ∧ b < 2 ^ 62 ∧ (b - a).toNat ≤ 2 ^ 24)
def eLstRg1 (ev : EvE) : EvE := fun ρ => match ev ρ with
  | some (.int n, ρ1) => if rgOk 0 n = true then some (.lst (rgP 0 n), ρ1) else none
  | _ => none
theorem s_lstRg1 {p2 pos2 : Pos} (B : Bi X.mg) (ha : SV X O a ea) (hc : X.calm = true := by rfl) (hg : Gl X "list" := by rfl) (hg2 : Gl X "range" := by rfl) (na : starEach [a] X.env = (false, eval a X.env) :: starEach [] X.env := by rfl)
    (nb : starEach [.Call (.Name "range" p2) [a] [] pos2] X.env = (false, eval (.Call (.Name "range" p2) [a] [] pos2) X.env) :: starEach [] X.env := by rfl) :
    SX X O true (.Call (.Name "list" p) [.Call (.Name "range" p2) [a] [] pos2] [] pos) (eLstRg1 ea) :=
  (pe_listRg hc hg B.list (prg_1 hg2 B.range ha na) nb).wk fun σ H Q ⟨g, hh, ρ, pv, ρ', k, e1, q⟩ => by
    unfold eLstRg1 at e1
    split at e1
    · rename_i n ρ1 e2
      obtain ⟨e3, e4⟩ := ite_inv e1
      cases e4
      refine ⟨g, hh, ρ, _, _, k, e2, fun v H1 h1 k1 l1 r1 => ⟨n, r1.int, of_decide_eq_true (p := -(2 ^ 62) ≤ 0 ∧ (0 : Int) < 2 ^ 62 ∧ -(2 ^ 62) ≤ n ∧ n < 2 ^ 62 ∧ (n - 0).toNat ≤ 2 ^ 24) e3, fun l nl => ?_⟩⟩
      obtain ⟨k2, f⟩ := k1.fresh nl (rgP_rep (K := X.K) (h := h1) 0 n)
      exact q _ _ _ k2 l1 f
    · cases e1

/-! ### subscripts -/
def opIx : Op2
  | .tup xs, .int i => atI xs i
  | .lst xs, .int i => atI xs i
  | .scr ns, .int i => (atI ns i).map .int
  | _, _ => none
theorem atI_inv {α : Type} {xs : List α} {i : Int} {z : α} (h : atI xs i = some z) : ∃ j, ixN xs.length i = some j ∧ xs[j]? = some z := bind_inv h
theorem RepL.atI {K : Frg} {h : Hp} {xs : List PV} {vs : List V} (r : RepL K h xs vs) {i : Int} {z : PV} (e : L2.atI xs i = some z) : ∃ v, L2.atI vs i = some v ∧ Rep K h z v := by
  obtain ⟨j, e1, e2⟩ := atI_inv e
  obtain ⟨v, e3, q⟩ := r.get e2
  refine ⟨v, ?_, q⟩
  unfold L2.atI
  rw [← r.length, e1]
  exact e3
theorem atI_map {α β : Type} (f : α → β) {xs : List α} {i : Int} {z : α} (h : atI xs i = some z) : atI (xs.map f) i = some (f z) := by
  obtain ⟨j, e1, e2⟩ := atI_inv h
  unfold atI
  rw [List.length_map, e1]
  show (xs.map f)[j]? = _
  rw [List.getElem?_map, e2]
  rfl
theorem ix_wk {K : Frg} : ∀ x y H Q, rdO K O false opIx x y H Q → rIxL K x y H Q ∨ rIxT K x y H Q := fun x y H Q ⟨gg, h, ρ, σ, a, b, z, k, r1, r2, e, q⟩ => by
  cases b with
  | int i =>
    have e2 := r2.int
    subst e2
    cases a with
    | tup xs =>
      obtain ⟨p, vs, rfl, s, t⟩ := r1.tup
      obtain ⟨v, e3, r⟩ := t.atI e
      exact .inr ⟨p, vs, i, v, rfl, rfl, k.sub.sqT s, e3, q v H h k (.refl _) r⟩
    | lst xs =>
      obtain ⟨p, vs, rfl, s, t⟩ := r1.lst k.sub
      obtain ⟨v, e3, r⟩ := t.atI e
      exact .inl ⟨p, vs, i, v, rfl, rfl, .inl (.inl s), e3, q v H h k (.refl _) r⟩
    | scr ns =>
      obtain ⟨p, rfl, s⟩ := r1.scr
      obtain ⟨n, e3, e4⟩ := map_inv e
      cases e4
      exact .inl ⟨p, _, i, _, rfl, rfl, k.sub.sqL s, atI_map V.int e3, q _ H h k (.refl _) (.int n)⟩
    | _ => cases e
  | _ => cases a <;> cases e
theorem _root_.L2.IxR.wk {r r' : R2} (o : IxR X r) (w : ∀ x y H Q, r' x y H Q → r x y H Q) : IxR X r' := fun vl sl pins s σ H x y v u Q I rx ry h hs => o vl sl pins s σ H x y v u Q I rx ry (w _ _ _ _ h) hs
theorem s_ix (ha : SX X O false a ea) (hb : SV X O b eb) (hs : PlainIx b := by exact fun _ _ => rfl) : SX X O false (.Subscript a b pos) (eBin opIx ea eb) :=
  (pe_ix ((ix_list.or ix_tup).wk ix_wk) ha hb hs).wk (two_wk (r := rdO X.K O false opIx) (fun _ _ _ h => h) (fun _ _ _ h => h) fun _ _ _ _ h => h)

/-! ### a list of one's own is put aside while something else is reckoned -/
theorem Ok.protect {K : Frg} {g h : Hp} {ρ : Env} {σ : L2.St} {H : Hp} {pv : PV} {i : Nat} (k : Ok K O g h ρ σ H) (ho : i ∈ O) (e : ρ[i]? = some (some pv)) :
    ∃ xs a vs, pv = .lst xs ∧ σ[i]? = some (some (.ref a)) ∧ H a = some (.lst vs) ∧ RepL K h xs vs ∧ h a = none ∧ g a = none ∧ Ok K O (upd g a (.lst vs)) h (ρ.set i none) σ H := by
  obtain ⟨xs, a, vs, e1, e2, e3, r, n1, n2⟩ := k.own i pv ho e
  have kf := k.forget i
  refine ⟨xs, a, vs, e1, e2, e3, r, n1, n2, kf.sub, fun b o eb => ?_, fun b o eb => ?_, kf.len, kf.sh, fun j q hj ej => ?_, kf.inj⟩
  · by_cases z : b = a
    · rw [z, upd_same] at eb
      rw [z, ← eb]
      exact e3
    · rw [upd_ne z] at eb
      exact k.gsub _ _ eb
  · by_cases z : b = a
    · rw [z]
      exact n1
    · rw [upd_ne z] at eb
      exact k.dis _ _ eb
  · obtain ⟨ys, b, ws, f1, f2, f3, f4, f5, f6⟩ := kf.own j q hj ej
    refine ⟨ys, b, ws, f1, f2, f3, f4, f5, ?_⟩
    have hij : i ≠ j := fun z => by
      subst z
      rw [List.getElem?_set] at ej
      simp at ej
    rw [List.getElem?_set_ne hij] at ej
    rw [upd_ne (fun z => hij (k.inj i j _ _ a ho hj e ej e2 (by rw [f2, z])))]
    exact f6
theorem Ok.unprotect {K : Frg} {g h : Hp} {ρ : Env} {σ : L2.St} {H : Hp} {i : Nat} {a : Addr} {xs : List PV} {vs : List V} (ho : i ∈ O) (k : Ok K O (upd g a (.lst vs)) h ρ σ H) (n2 : g a = none) (e2 : σ[i]? = some (some (.ref a))) (r : RepL K h xs vs) :
    Ok K O g h (ρ.set i (some (.lst xs))) σ H where
  sub := k.sub
  gsub := fun b o e => k.gsub b o (by rw [upd_ne (ne_of_none e n2)]; exact e)
  dis := fun b o e => k.dis b o (by rw [upd_ne (ne_of_none e n2)]; exact e)
  len := by rw [List.length_set]; exact k.len
  sh := fun j pv hj e => by
    rw [List.getElem?_set_ne (fun z => by rw [← z] at hj; exact hj ho)] at e
    exact k.sh j pv hj e
  own := fun j pv hj e => by
    by_cases z : i = j
    · subst z
      have hl : i < ρ.length := by
        rw [k.len]
        exact (List.getElem?_eq_some_iff.mp e2).1
      rw [List.getElem?_set_self hl] at e
      cases e
      exact ⟨xs, a, vs, rfl, e2, k.gsub _ _ upd_same, r, k.dis _ _ upd_same, n2⟩
    · rw [List.getElem?_set_ne z] at e
      obtain ⟨ys, b, ws, f1, f2, f3, f4, f5, f6⟩ := k.own j pv hj e
      refine ⟨ys, b, ws, f1, f2, f3, f4, f5, ?_⟩
      by_cases zb : b = a
      · rw [zb]
        exact n2
      · rw [upd_ne zb] at f6
        exact f6
  inj := fun p q x y b hp hq e1 e3 f1 f3 => by
    have own_ne : ∀ j pv, j ∈ O → i ≠ j → (ρ.set i (some (.lst xs)))[j]? = some (some pv) → σ[j]? ≠ some (some (.ref a)) := fun j pv hj z e f => by
      rw [List.getElem?_set_ne z] at e
      obtain ⟨ys, b, ws, _, f2, _, _, _, f6⟩ := k.own j pv hj e
      rw [f] at f2
      cases f2
      rw [upd_same] at f6
      cases f6
    by_cases zp : i = p
    · by_cases zq : i = q
      · rw [← zp, ← zq]
      · subst zp
        rw [e2] at f1
        cases f1
        exact absurd f3 (own_ne q y hq zq e3)
    · by_cases zq : i = q
      · subst zq
        rw [e2] at f3
        cases f3
        exact absurd f1 (own_ne p x hp zp e1)
      · rw [List.getElem?_set_ne zp] at e1
        rw [List.getElem?_set_ne zq] at e3
        exact k.inj p q x y b hp hq e1 e3 f1 f3
/-- own i op e -/
def eOwn2 (i : Nat) (op : Op2) (ek : EvE) : EvE := fun ρ => match ρ[i]? with
  | some (some b) => (ek (ρ.set i none)).bind fun p => (op b p.1).map fun z => (z, p.2.set i (some b))
  | _ => none
theorem own2_wk {K : Frg} {i : Nat} (ho : i ∈ O) : ∀ σ H Q, rdX K O fr (eOwn2 i o2 eb) σ H Q → tOp (rdO K O fr o2) (tVar i) (rdV K O eb) σ H Q := fun σ H Q ⟨g, hh, ρ, pv, ρ', k, e1, q⟩ => by
  unfold eOwn2 at e1
  split at e1
  · rename_i b eb'
    obtain ⟨⟨y, ρ1⟩, e2, e1⟩ := bind_inv e1
    obtain ⟨z, e4, e5⟩ := map_inv e1
    cases e5
    obtain ⟨xs, a, vs, rfl, f2, f3, f4, f5, f6, kp⟩ := k.protect ho eb'
    refine ⟨_, f2, _, hh, _, y, ρ1, kp, e2, fun u H1 h1 k1 l1 r1 => ?_⟩
    have k2 := k1.unprotect (xs := xs) ho f6 f2 (f4.le l1)
    exact ⟨g, h1, _, σ, .lst xs, y, _, k2, .inr ⟨xs, a, vs, rfl, rfl, k1.gsub _ _ upd_same, f4.le l1⟩, r1, e4, fun w H3 h3 k3 l3 r3 => q w H3 h3 k3 (l1.trans l3) r3⟩
  · cases e1
theorem s_ixO (i : Nat) {x : Str} {px : Pos} (hb : SV X O b eb) (ho : i ∈ O := by decide) (hN : X.N[i]? = some x := by rfl) (hv : Vis X.env.scope x := by first | exact Or.inl rfl | exact Or.inr (Or.inl rfl) | exact Or.inr (Or.inr rfl))
    (hd : (x == ("__debug__" : Str)) = false := by decide) (hcd : (x == ("__classdict__" : Str)) = false := by decide) (hs : PlainIx b := by exact fun _ _ => rfl) : SX X O false (.Subscript (.Name x px) b pos) (eOwn2 i opIx eb) :=
  (pe_ix ((ix_list.or ix_tup).wk ix_wk) (pe_var hN hv hd hcd) hb hs).wk (own2_wk ho)
theorem s_cmpO {op : CmpOp} (i : Nat) {x : Str} {px : Pos} (hop : OpS X (compareOp op) fr o2) (hb : SV X O b eb) (ho : i ∈ O := by decide) (hN : X.N[i]? = some x := by rfl) (hv : Vis X.env.scope x := by first | exact Or.inl rfl | exact Or.inr (Or.inl rfl) | exact Or.inr (Or.inr rfl))
    (hd : (x == ("__debug__" : Str)) = false := by decide) (hcd : (x == ("__classdict__" : Str)) = false := by decide) (hm : behindInMarks op b = false := by first | exact nomark _ | rfl) : SX X O fr (.Compare (.Name x px) [op] [b] pos) (eOwn2 i o2 eb) :=
  (pe_cmpR (hop O) (pe_var hN hv hd hcd) hb hm).wk (own2_wk ho)
theorem s_cmpOT {op : CmpOp} (i : Nat) {x : Str} {px : Pos} (hop : OpS X (compareOp op) false o2) (hb : SV X O b eb) (ho : i ∈ O := by decide) (hN : X.N[i]? = some x := by rfl) (hv : Vis X.env.scope x := by first | exact Or.inl rfl | exact Or.inr (Or.inl rfl) | exact Or.inr (Or.inr rfl))
    (hd : (x == ("__debug__" : Str)) = false := by decide) (hcd : (x == ("__classdict__" : Str)) = false := by decide) (hm : behindInMarks op b = false := by first | exact nomark _ | rfl) : ST X O (.Compare (.Name x px) [op] [b] pos) (tOf (eOwn2 i o2 eb)) :=
  (pt_cmpR (hop O) (pe_var hN hv hd hcd) hb hm).wk fun σ H Q ⟨g, hh, ρ, pv, ρ', k, e1, q⟩ => by
    refine own2_wk (fr := false) ho σ H _ ⟨g, hh, ρ, .bl pv, ρ', k, tOf_inv e1, fun w H' h' k' l r => ?_⟩
    have r : Rep X.K h' (.bl pv) w := r
    cases r
    exact ⟨_, rfl, q H' h' k' l⟩

/-! ### slices -/
def cutP (xs : List PV) (lo hi : Option Int) : List PV := (xs.drop (HT.sIx xs.length 0 lo)).take (HT.sIx xs.length xs.length hi - HT.sIx xs.length 0 lo)
theorem cutP_rep {K : Frg} {h : Hp} {xs : List PV} {vs : List V} (r : RepL K h xs vs) (lo hi : Option Int) : RepL K h (cutP xs lo hi) (cutV vs lo hi) := by
  unfold cutP cutV
  rw [r.length]
  exact (r.drop _).take _
def opSl (lo hi : Option Int) : Op1
  | .tup xs => some (.tup (cutP xs lo hi))
  | .lst xs => some (.lst (cutP xs lo hi))
  | _ => none
def opSlL (lo hi : Option Int) : Op1
  | .lst xs => some (.lst (cutP xs lo hi))
  | _ => none
abbrev EvP := Env → Option (Option Int × Env)
def pNo : EvP := fun ρ => some (none, ρ)
def pSome (ev : EvE) : EvP := fun ρ => match ev ρ with
  | some (.int i, ρ1) => some (some i, ρ1)
  | _ => none
def rdP (K : Frg) (O : List Nat) (ep : EvP) : TO := fun σ H Q => ∃ g h ρ o ρ', Ok K O g h ρ σ H ∧ ep ρ = some (o, ρ') ∧ ∀ H' h', Ok K O g h' ρ' σ H' → Le h h' → Q o H'
abbrev SP' (X : Cx) (O : List Nat) (e : Option Expr) (ep : EvP) : Prop := PO X e (rdP X.K O ep)
theorem _root_.L2.PO.wk {e : Option Expr} {t t' : TO} (p : PO X e t) (w : ∀ σ H Q, t' σ H Q → t σ H Q) : PO X e t' := ⟨fun pins s σ H Q I h => p.run pins s σ H Q I (w σ H Q h)⟩
theorem sp_no : SP' X O none pNo := po_none.wk fun σ H Q ⟨g, h, ρ, o, ρ', k, e, q⟩ => by
  cases e
  exact q H h k (.refl _)
theorem sp_some (ha : SX X O false e ev) : SP' X O (some e) (pSome ev) := (po_some ha).wk fun σ H Q ⟨g, h, ρ, o, ρ', k, e, q⟩ => by
  unfold pSome at e
  split at e
  · rename_i i ρ1 e2
    cases e
    refine ⟨g, h, ρ, _, _, k, e2, fun v H' h' k' l r => ?_⟩
    have r : Rep X.K h' (.int i) v := r
    cases r
    exact ⟨i, rfl, q H' h' k' l⟩
  · cases e
def eSl (op : Option Int → Option Int → Op1) (ev : EvE) (el eh : EvP) : EvE := fun ρ => (ev ρ).bind fun p => (el p.2).bind fun a => (eh a.2).bind fun b => (op a.1 b.1 p.1).map fun z => (z, b.2)
def rdSl (K : Frg) (O : List Nat) (fr : Bool) (op : Option Int → Option Int → Op1) : V → Option Int → Option Int → Hp → VK → Prop := fun v lo hi H Q => rdO1 K O fr (op lo hi) v H Q
theorem _root_.L2.SlR.wk {r r' : V → Option Int → Option Int → Hp → VK → Prop} (o : SlR X r) (w : ∀ x lo hi H Q, r' x lo hi H Q → r x lo hi H Q) : SlR X r' := fun pins s σ H x v vl vu lo hi sl Q I rx hs pl pu h => o pins s σ H x v vl vu lo hi sl Q I rx hs pl pu (w _ _ _ _ _ h)
theorem sl_fresh : SlR X (rdSl X.K O true opSlL) := sl_list.wk fun x lo hi H Q ⟨g, h, ρ, σ, a, z, k, r, e, q⟩ => by
  cases a with
  | lst xs =>
    cases e
    obtain ⟨p, vs, rfl, s, t⟩ := r.lst k.sub
    refine ⟨p, vs, rfl, .inl (.inl s), fun l nl => ?_⟩
    obtain ⟨k2, f⟩ := k.fresh nl (cutP_rep t lo hi)
    exact q _ _ _ k2 (.refl _) f
  | _ => cases e
theorem sl_any : SlR X (rdSl X.K O false opSl) := (sl_fresh.or sl_tupA).wk fun x lo hi H Q ⟨g, h, ρ, σ, a, z, k, r, e, q⟩ => by
  cases a with
  | lst xs =>
    exact .inl ⟨g, h, ρ, σ, _, _, k, r, e, fun w H' h' k' l f => by
      obtain ⟨h2, k2, l2, r2⟩ := k'.share f
      exact q w H' h2 k2 (l.trans l2) r2⟩
  | tup xs =>
    cases e
    obtain ⟨p, vs, rfl, s, t⟩ := r.tup
    have hl := t.length
    refine .inr ⟨p, vs, rfl, k.sub.sqT s, fun ⟨z1, z2⟩ => ?_, fun _ l nl => ?_⟩
    · refine q _ H h k (.refl _) ?_
      have e : cutP xs lo hi = xs := by
        unfold cutP
        rw [hl, z1, z2, List.drop_zero, Nat.sub_zero, ← hl]
        exact List.take_length
      rw [e]
      exact Rep.tup s t
    · obtain ⟨k2, l2⟩ := k.laid nl (.tup (cutV vs lo hi))
      exact q _ _ _ k2 l2 (Rep.tup (.inl (.inl upd_same)) ((cutP_rep t lo hi).le l2))
  | _ => cases e
variable {lo hi : Option Expr} {el eh : EvP} {p2 : Pos}
theorem sl_wk {K : Frg} {op : Option Int → Option Int → Op1} : ∀ σ H Q, rdX K O fr (eSl op ev el eh) σ H Q → tSl (rdSl K O fr op) (rdX K O false ev) (rdP K O el) (rdP K O eh) σ H Q := fun σ H Q ⟨g, hh, ρ, pv, ρ', k, e1, q⟩ => by
  obtain ⟨⟨x, ρ1⟩, e2, e1⟩ := bind_inv e1
  obtain ⟨⟨y, ρ2⟩, e3, e1⟩ := bind_inv e1
  obtain ⟨⟨y', ρ3⟩, e4, e1⟩ := bind_inv e1
  obtain ⟨z, e5, e6⟩ := map_inv e1
  cases e6
  exact ⟨g, hh, ρ, x, ρ1, k, e2, fun v H1 h1 k1 l1 r1 => ⟨g, h1, ρ1, y, ρ2, k1, e3, fun H2 h2 k2 l2 => ⟨g, h2, ρ2, y', _, k2, e4, fun H3 h3 k3 l3 => ⟨g, h3, _, σ, x, _, k3, .inl ((Rep.le l2 r1).le l3), e5, fun w H4 h4 k4 l4 r4 => q w H4 h4 k4 (((l1.trans l2).trans l3).trans l4) r4⟩⟩⟩⟩
theorem s_sl (ha : SX X O false e ev) (hl : SP' X O lo el) (hh : SP' X O hi eh) : SX X O false (.Subscript e (.Slice lo hi none p2) pos) (eSl opSl ev el eh) := (pe_slice sl_any ha hl hh).wk sl_wk
theorem s_slL (ha : SX X O false e ev) (hl : SP' X O lo el) (hh : SP' X O hi eh) : SX X O true (.Subscript e (.Slice lo hi none p2) pos) (eSl opSlL ev el eh) := (pe_slice sl_fresh ha hl hh).wk sl_wk
/-- own[lo:hi], lo and hi written -/
def eSlO (i : Nat) (op : Option Int → Option Int → Op1) (el eh : EvP) : EvE := fun ρ => match ρ[i]? with
  | some (some b) => (el (ρ.set i none)).bind fun a => (eh a.2).bind fun c => (op a.1 c.1 b).map fun z => (z, c.2.set i (some b))
  | _ => none
theorem slO_wk {K : Frg} {op : Option Int → Option Int → Op1} {i : Nat} (ho : i ∈ O) : ∀ σ H Q, rdX K O fr (eSlO i op el eh) σ H Q → tSl (rdSl K O fr op) (tVar i) (rdP K O el) (rdP K O eh) σ H Q := fun σ H Q ⟨g, hh, ρ, pv, ρ', k, e1, q⟩ => by
  unfold eSlO at e1
  split at e1
  · rename_i b eb'
    obtain ⟨⟨y, ρ2⟩, e3, e1⟩ := bind_inv e1
    obtain ⟨⟨y', ρ3⟩, e4, e1⟩ := bind_inv e1
    obtain ⟨z, e5, e6⟩ := map_inv e1
    cases e6
    obtain ⟨xs, a, vs, rfl, f2, f3, f4, f5, f6, kp⟩ := k.protect ho eb'
    refine ⟨_, f2, _, hh, _, y, ρ2, kp, e3, fun H2 h2 k2 l2 => ⟨_, h2, ρ2, y', _, k2, e4, fun H3 h3 k3 l3 => ?_⟩⟩
    have k4 := k3.unprotect (xs := xs) ho f6 f2 ((f4.le l2).le l3)
    exact ⟨g, h3, _, σ, .lst xs, _, k4, .inr ⟨xs, a, vs, rfl, rfl, k3.gsub _ _ upd_same, (f4.le l2).le l3⟩, e5, fun w H5 h5 k5 l5 r5 => q w H5 h5 k5 ((l2.trans l3).trans l5) r5⟩
  · cases e1
theorem s_slO (i : Nat) {x : Str} {px : Pos} (hl : SP' X O lo el) (hh : SP' X O hi eh) (ho : i ∈ O := by decide) (hN : X.N[i]? = some x := by rfl) (hv : Vis X.env.scope x := by first | exact Or.inl rfl | exact Or.inr (Or.inl rfl) | exact Or.inr (Or.inr rfl))
    (hd : (x == ("__debug__" : Str)) = false := by decide) (hcd : (x == ("__classdict__" : Str)) = false := by decide) : SX X O true (.Subscript (.Name x px) (.Slice lo hi none p2) pos) (eSlO i opSlL el eh) :=
  (pe_slice sl_fresh (pe_var hN hv hd hcd) hl hh).wk (slO_wk ho)
/-- t[::-1] of a tuple -/
def opRev : Op1
  | .tup xs => some (.tup xs.reverse)
  | _ => none
theorem s_rev {st : Expr} {es : EvE} (ha : SX X O false e ev) (hst : ∀ (pins : List (Addr × Obj)) (s : Shared) (σ : L2.St) (H : Hp) (Q : Option Int → Hp → Prop), Inv X pins σ H s → Q (some (-1)) H →
      wpAny (model X.prog X.w) X.A (evalPart (some st) X.env) (fun u s' => ∃ o H', Inv X pins σ H' s' ∧ IsPart u o ∧ Q o H') X.xe s)
    (htl : ∀ (sl t : Addr) (σ : L2.St) (H : Hp) (pins : List (Addr × Obj)) (s : Shared) (Q : Value → Shared → Prop), s.TypeIs (.ref t) "tuple" → wpAny (model X.prog X.w) X.A (getItem (.ref t) (.ref sl)) Q X.xe s → wpAny (model X.prog X.w) X.A (subscriptTail e (.Slice none none (some st) p2) (.ref t) (.ref sl)) Q X.xe s) :
    SX X O false (.Subscript e (.Slice none none (some st) p2) pos) (eUn opRev ev) := by
  refine ⟨fun pins s σ H Q I ⟨g, hh, ρ, pv, ρ', k, e1, q⟩ => ?_⟩
  obtain ⟨⟨x, ρ1⟩, e2, e1⟩ := bind_inv e1
  obtain ⟨z, e4, e5⟩ := map_inv e1
  cases e5
  refine Subscript_ (thn (ha.run pins s σ H _ I ⟨g, hh, ρ, x, _, k, e2, fun v H1 h1 k1 l1 r1 => show (∃ h1, Ok X.K O g h1 ρ1 σ H1 ∧ Le hh h1 ∧ Rep X.K h1 x v) from ⟨h1, k1, l1, r1⟩⟩) fun v s1 ⟨xv, H1, I1, rv, h1, k1, l1, r1⟩ => ?_)
  refine wpAny_Slice ?_
  rw [evalPart_none]
  refine wpAny_pure (wpAny_pure ?_)
  refine thn (hst pins s1 σ H1 (fun o H2 => o = some (-1) ∧ H2 = H1) I1 ⟨rfl, rfl⟩) fun vs s2 ⟨o, H2, I2, pu, eo, eH⟩ => ?_
  subst eo eH
  have I4 : Inv X pins σ H2 { s2 with heap := s2.heap.push { cls := .type "slice", data := .fields #[.none, .none, vs] } } := I2.kept (t' := s2.toks) fun b ob q => Heap.get?_push_of_some _ q
  cases x with
  | tup xs =>
    cases e4
    obtain ⟨t, ws, rfl, st', tt⟩ := (View.tup (H := H2) (.inl r1))
    cases rv
    obtain ⟨its, r, ht, hz⟩ := I4.tuple (k1.sub.sqT st')
    refine htl _ t σ H2 pins _ _ ht.typeIs ?_
    refine HT2.getItem_tuple_rev ht (Heap.IsSliceOf.new ..) pu ?_ (by rw [List.size_toArray, ← r.length]; exact hz)
    have hf := I4.hok.fresh (Nat.le_refl _)
    obtain ⟨k5, l5⟩ := k1.laid hf (.tup ws.reverse)
    refine ⟨.ref _, upd H2 _ (.tup ws.reverse), I4.laid (t' := s2.toks) (fun b o e => Heap.get?_push_of_some _ e) (Nat.le_refl _) (show ObjOk X.prog X.w _ _ _ (.tup ws.reverse) from ⟨by rw [List.length_reverse]; exact hz, its.reverse, r.reverse, ?_⟩), rfl, q _ _ _ k5 (l1.trans l5) (Rep.tup (.inl (.inl upd_same)) (tt.reverse.le l5))⟩
    exact IsTup.new _ _
  | _ => cases e4
end
end PL

/-! PL5: statements -/
namespace PL
open PySem PySem.Spec PyProof.Rows L2

inductive Fl where
  | nx | rt (v : PV)
abbrev EvS := Env → Option (Fl × Env)

def Goal (K : Frg) (O L : List Nat) (fr : Bool) (g h0 : Hp) (σ0 : L2.St) (D : Ends) (ρ' : Env) : Fl → Prop
  | .nx => ∀ σ' H' h', Ok K O g h' ρ' σ' H' → Le h0 h' → (∀ i ∈ L, σ'[i]? = σ0[i]?) → D.nx σ' H'
  | .rt pv => ∀ σ' v H' h', Ok K O g h' ρ' σ' H' → Le h0 h' → (∀ i ∈ L, σ'[i]? = σ0[i]?) → RetOk K O fr g h' ρ' σ' H' pv v → D.rt v H'
def rdS (K : Frg) (O L : List Nat) (fr : Bool) (ex : EvS) : TS := fun D σ H => ∃ g h ρ f ρ', Ok K O g h ρ σ H ∧ ex ρ = some (f, ρ') ∧ Goal K O L fr g h σ D ρ' f
abbrev SS (X : Cx) (O L : List Nat) (fr : Bool) (st : Stmt) (ex : EvS) : Prop := PS X st (rdS X.K O L fr ex)
abbrev SSs (X : Cx) (O L : List Nat) (fr : Bool) (st : List Stmt) (ex : EvS) : Prop := PSs X st (rdS X.K O L fr ex)
theorem Goal.from {K : Frg} {O L : List Nat} {fr : Bool} {g h0 h1 : Hp} {σ0 σ1 : L2.St} {D : Ends} {ρ' : Env} {f : Fl} (q : Goal K O L fr g h0 σ0 D ρ' f) (l : Le h0 h1) (s : ∀ i ∈ L, σ1[i]? = σ0[i]?) : Goal K O L fr g h1 σ1 D ρ' f := by
  cases f with
  | nx => exact fun σ' H' h' k l' s' => q σ' H' h' k (l.trans l') fun i hi => (s' i hi).trans (s i hi)
  | rt pv => exact fun σ' v H' h' k l' s' r => q σ' v H' h' k (l.trans l') (fun i hi => (s' i hi).trans (s i hi)) r

section
variable {X : Cx} {O L : List Nat} {e a b c : Expr} {fr : Bool} {ev ea eb ec : EvE} {p pos : Pos} {st : Stmt} {sts : List Stmt} {x1 x2 : EvS} {tv : EvT}
def sNil : EvS := fun ρ => some (.nx, ρ)
def sSeq (x1 x2 : EvS) : EvS := fun ρ => match x1 ρ with
  | some (.nx, ρ1) => x2 ρ1
  | r => r
theorem ss_nil : SSs X O L fr [] sNil := pss_nil.wk fun D σ H ⟨g, h, ρ, f, ρ', k, e, q⟩ => by
  cases e
  exact q σ H h k (.refl _) fun _ _ => rfl
theorem ss_cons (h1 : SS X O L fr st x1) (h2 : SSs X O L fr sts x2) : SSs X O L fr (st :: sts) (sSeq x1 x2) := (pss_cons h1 h2).wk fun D σ H ⟨g, h, ρ, f, ρ', k, e, q⟩ => by
  unfold sSeq at e
  split at e
  · rename_i ρ1 e2
    exact ⟨g, h, ρ, .nx, ρ1, k, e2, fun σ1 H1 h1 k1 l1 s1 => ⟨g, h1, ρ1, f, ρ', k1, e, q.from l1 s1⟩⟩
  · rename_i r hr
    refine ⟨g, h, ρ, f, ρ', k, e, ?_⟩
    cases f with
    | nx => exact absurd e (hr ρ')
    | rt pv => exact q
theorem ss_one (h1 : SS X O L fr st x1) : SSs X O L fr [st] x1 := pss_one h1
def sRet (ev : EvE) : EvS := fun ρ => (ev ρ).map fun p => (.rt p.1, p.2)
theorem s_ret (ha : SX X O fr e ev) : SS X O L fr (.Return (some e) pos) (sRet ev) := (ps_ret ha).wk fun D σ H ⟨g, h, ρ, f, ρ', k, e, q⟩ => by
  obtain ⟨⟨x, ρ1⟩, e2, e3⟩ := map_inv e
  cases e3
  exact ⟨g, h, ρ, x, _, k, e2, fun v H' h' k' l r => q σ v H' h' k' l (fun _ _ => rfl) r⟩
def sRetN : EvS := fun ρ => some (.rt .non, ρ)
theorem s_retN : SS X O L false (.Return none pos) sRetN := ps_retN.wk fun D σ H ⟨g, h, ρ, f, ρ', k, e, q⟩ => by
  cases e
  exact q σ .non H h k (.refl _) (fun _ _ => rfl) .non
def sExpr (ev : EvE) : EvS := fun ρ => (ev ρ).map fun p => (.nx, p.2)
theorem s_expr (ha : SX X O false e ev) (hs : swapsWith e none pos.line X.env = pure false := by rfl) : SS X O L fr (.Expr e pos) (sExpr ev) := (ps_expr ha hs).wk fun D σ H ⟨g, h, ρ, f, ρ', k, e, q⟩ => by
  obtain ⟨⟨x, ρ1⟩, e2, e3⟩ := map_inv e
  cases e3
  exact ⟨g, h, ρ, x, _, k, e2, fun v H' h' k' l r => q σ H' h' k' l (fun _ _ => rfl)⟩
theorem s_pass : SS X O L fr (.Pass pos) sNil := ps_pass.wk fun D σ H ⟨g, h, ρ, f, ρ', k, e, q⟩ => by
  cases e
  exact q σ H h k (.refl _) fun _ _ => rfl
def sNever : EvS := fun _ => none
theorem s_never : SS X O L fr st sNever := ps_never.wk fun D σ H ⟨g, h, ρ, f, ρ', k, e, q⟩ => by cases e
def sIf (tv : EvT) (x1 x2 : EvS) : EvS := fun ρ => match tv ρ with
  | some (true, ρ1) => x1 ρ1
  | some (false, ρ1) => x2 ρ1
  | none => none
theorem s_ifS {ss1 ss2 : List Stmt} (hc : ST X O c tv) (h1 : SSs X O L fr ss1 x1) (h2 : SSs X O L fr ss2 x2) : SS X O L fr (.If c ss1 ss2 pos) (sIf tv x1 x2) := (ps_if hc h1 h2).wk fun D σ H ⟨g, h, ρ, f, ρ', k, e, q⟩ => by
  unfold sIf at e
  split at e
  · rename_i ρ1 e2
    refine ⟨g, h, ρ, _, ρ1, k, e2, fun H1 h1 k1 l1 => iteT ?_⟩
    exact ⟨g, h1, ρ1, f, ρ', k1, e, q.from l1 fun _ _ => rfl⟩
  · rename_i ρ1 e2
    refine ⟨g, h, ρ, _, ρ1, k, e2, fun H1 h1 k1 l1 => iteF ?_⟩
    exact ⟨g, h1, ρ1, f, ρ', k1, e, q.from l1 fun _ _ => rfl⟩
  · cases e

/-! ### stores to names -/
theorem Ok.setSh {K : Frg} {g h : Hp} {ρ : Env} {σ : L2.St} {H : Hp} {i : Nat} {pv : PV} {v : V} (k : Ok K O g h ρ σ H) (ho : i ∉ O) (r : Rep K h pv v) : Ok K O g h (ρ.set i (some pv)) (σ.set i (some v)) H where
  sub := k.sub
  gsub := k.gsub
  dis := k.dis
  len := by rw [List.length_set, List.length_set]; exact k.len
  sh := fun j q hj e => by
    by_cases z : i = j
    · subst z
      have hl : i < ρ.length := by
        have := (List.getElem?_eq_some_iff.mp e).1
        rw [List.length_set] at this
        exact this
      rw [List.getElem?_set_self hl] at e
      cases e
      exact ⟨v, List.getElem?_set_self (by rw [← k.len]; exact hl), r⟩
    · rw [List.getElem?_set_ne z] at e ⊢
      exact k.sh j q hj e
  own := fun j q hj e => by
    have z : i ≠ j := fun z => ho (z ▸ hj)
    rw [List.getElem?_set_ne z] at e ⊢
    exact k.own j q hj e
  inj := fun a b x y ad ha hb e1 e2 f1 f2 => by
    have za : i ≠ a := fun z => ho (z ▸ ha)
    have zb : i ≠ b := fun z => ho (z ▸ hb)
    rw [List.getElem?_set_ne za] at e1 f1
    rw [List.getElem?_set_ne zb] at e2 f2
    exact k.inj a b x y ad ha hb e1 e2 f1 f2
/-- a new list comes to a slot of its own -/
theorem Ok.setFr {K : Frg} {g h : Hp} {ρ : Env} {σ : L2.St} {H : Hp} {i : Nat} {pv : PV} {v : V} (k : Ok K O g h ρ σ H) (ho : i ∈ O) (f : Fresh K O g h ρ σ H pv v) : Ok K O g h (ρ.set i (some pv)) (σ.set i (some v)) H := by
  obtain ⟨xs, a, vs, rfl, rfl, e0, r, n1, n2, n3⟩ := f
  refine ⟨k.sub, k.gsub, k.dis, by rw [List.length_set, List.length_set]; exact k.len, fun j q hj e => ?_, fun j q hj e => ?_, fun b c x y ad hb hc e1 e2 f1 f2 => ?_⟩
  · have z : i ≠ j := fun z => hj (z ▸ ho)
    rw [List.getElem?_set_ne z] at e ⊢
    exact k.sh j q hj e
  · by_cases z : i = j
    · subst z
      have hl : i < ρ.length := by
        have := (List.getElem?_eq_some_iff.mp e).1
        rw [List.length_set] at this
        exact this
      rw [List.getElem?_set_self hl] at e
      cases e
      exact ⟨xs, a, vs, rfl, List.getElem?_set_self (by rw [← k.len]; exact hl), e0, r, n1, n2⟩
    · rw [List.getElem?_set_ne z] at e ⊢
      exact k.own j q hj e
  · have at_i : ∀ {q : PV}, (ρ.set i (some (.lst xs)))[i]? = some (some q) → (σ.set i (some (.ref a)))[i]? = some (some (.ref ad)) → ad = a := fun {q} e f => by
      have hl : i < ρ.length := by
        have := (List.getElem?_eq_some_iff.mp e).1
        rw [List.length_set] at this
        exact this
      rw [List.getElem?_set_self (by rw [← k.len]; exact hl)] at f
      cases f
      rfl
    by_cases zb : i = b
    · by_cases zc : i = c
      · rw [← zb, ← zc]
      · subst zb
        have ea := at_i e1 f1
        subst ea
        rw [List.getElem?_set_ne zc] at e2 f2
        exact absurd f2 (n3 c _ hc e2)
    · by_cases zc : i = c
      · subst zc
        have ea := at_i e2 f2
        subst ea
        rw [List.getElem?_set_ne zb] at e1 f1
        exact absurd f1 (n3 b _ hb e1)
      · rw [List.getElem?_set_ne zb] at e1 f1
        rw [List.getElem?_set_ne zc] at e2 f2
        exact k.inj b c x y ad hb hc e1 e2 f1 f2
def sSet (i : Nat) (ev : EvE) : EvS := fun ρ => (ev ρ).map fun p => (.nx, p.2.set i (some p.1))
theorem set_agree {σ : L2.St} {i : Nat} {o : Option V} (hl : i ∉ L) : ∀ j ∈ L, (σ.set i o)[j]? = σ[j]? := fun j hj => List.getElem?_set_ne (fun z => by rw [← z] at hj; exact hl hj)
theorem set_wk {K : Frg} {i : Nat} (ho : i ∉ O) (hl : i ∉ L) : ∀ D σ H, rdS K O L fr (sSet i ev) D σ H → tAsg (rdX K O false ev) (gName i) D σ H := fun D σ H ⟨g, h, ρ, f, ρ', k, e, q⟩ => by
  obtain ⟨⟨x, ρ1⟩, e2, e3⟩ := map_inv e
  cases e3
  exact ⟨g, h, ρ, x, _, k, e2, fun v H' h' k' l r => q _ H' h' (k'.setSh ho r) l (set_agree hl)⟩
theorem setO_wk {K : Frg} {i : Nat} (ho : i ∈ O) (hl : i ∉ L) : ∀ D σ H, rdS K O L fr (sSet i ev) D σ H → tAsg (rdX K O true ev) (gName i) D σ H := fun D σ H ⟨g, h, ρ, f, ρ', k, e, q⟩ => by
  obtain ⟨⟨x, ρ1⟩, e2, e3⟩ := map_inv e
  cases e3
  exact ⟨g, h, ρ, x, _, k, e2, fun v H' h' k' l r => q _ H' h' (k'.setFr ho r) l (set_agree hl)⟩
theorem s_set (i : Nat) {x : Str} {pos' : Pos} (ha : SX X O false e ev) (hN : X.N.Nodup) (ho : i ∉ O := by decide) (hl : i ∉ L := by decide) (hi : X.N[i]? = some x := by rfl) (hx : Loc X.env.scope x := by first | exact Or.inl rfl | exact Or.inr rfl)
    (hs : swapsWith e (some (.Name x pos')) pos.line X.env = pure false := by rfl) (hf : X.fn x = true ∨ X.env.scope.names.lookup x = some .local := by exact .inl rfl) : SS X O L fr (.Assign [.Name x pos'] e pos) (sSet i ev) :=
  (ps_set hN hi hx ha hs hf).wk (set_wk ho hl)
theorem s_setO (i : Nat) {x : Str} {pos' : Pos} (ha : SX X O true e ev) (hN : X.N.Nodup) (ho : i ∈ O := by decide) (hl : i ∉ L := by decide) (hi : X.N[i]? = some x := by rfl) (hx : Loc X.env.scope x := by first | exact Or.inl rfl | exact Or.inr rfl)
    (hs : swapsWith e (some (.Name x pos')) pos.line X.env = pure false := by rfl) (hf : X.fn x = true ∨ X.env.scope.names.lookup x = some .local := by exact .inl rfl) : SS X O L fr (.Assign [.Name x pos'] e pos) (sSet i ev) :=
  (ps_set hN hi hx ha hs hf).wk (setO_wk ho hl)
/-- x op= e -/
def sAug (i : Nat) (op : Op2) (ev : EvE) : EvS := fun ρ => match ρ[i]? with
  | some (some x) => (ev ρ).bind fun p => (op x p.1).map fun z => (.nx, p.2.set i (some z))
  | _ => none
theorem s_aug (i : Nat) {x : Str} {pos' : Pos} {op : Operator} {o2 : Op2} (hop : OpS X (inplaceOp op) false o2) (ha : SX X O false e ev) (hN : X.N.Nodup) (ho : i ∉ O := by decide) (hl : i ∉ L := by decide) (hi : X.N[i]? = some x := by rfl) (hx : Loc X.env.scope x := by first | exact Or.inl rfl | exact Or.inr rfl)
    (hf : X.fn x = true ∨ X.env.scope.names.lookup x = some .local := by exact .inl rfl) : SS X O L fr (.AugAssign (.Name x pos') op e pos) (sAug i o2 ev) :=
  (ps_aug (ti := rdO X.K O false o2) hN hi hx ha (hop O) hf).wk fun D σ H ⟨g, h, ρ, f, ρ', k, e, q⟩ => by
    unfold sAug at e
    split at e
    · rename_i y ey
      obtain ⟨⟨w, ρ1⟩, e2, e⟩ := bind_inv e
      obtain ⟨z, e3, e4⟩ := map_inv e
      cases e4
      obtain ⟨v, e5, r⟩ := k.sh i y ho ey
      exact ⟨v, e5, g, h, ρ, w, ρ1, k, e2, fun u H1 h1 k1 l1 r1 => ⟨g, h1, ρ1, σ, y, w, z, k1, .inl (r.le l1), .inl r1, e3, fun u2 H2 h2 k2 l2 r2 => q _ H2 h2 (k2.setSh ho r2) (l1.trans l2) (set_agree hl)⟩⟩
    · cases e

/-! ### several names at once -/
/-- arguments, each shared or a new list of one's own -/
inductive ArgsF (K : Frg) (O : List Nat) (h : Hp) (ρ : Env) (σ : L2.St) (H : Hp) : Hp → List Bool → List PV → List V → Prop
  | nil {g : Hp} : ArgsF K O h ρ σ H g [] [] []
  | sh {g : Hp} {x : PV} {v : V} {fs : List Bool} {xs : List PV} {vs : List V} (r : Rep K h x v) (t : ArgsF K O h ρ σ H g fs xs vs) : ArgsF K O h ρ σ H g (false :: fs) (x :: xs) (v :: vs)
  | fr {g : Hp} {ys : List PV} {a : Addr} {ws : List V} {fs : List Bool} {xs : List PV} {vs : List V} (e : H a = some (.lst ws)) (r : RepL K h ys ws) (n1 : h a = none) (n2 : g a = none) (n3 : ∀ i q, i ∈ O → ρ[i]? = some (some q) → σ[i]? ≠ some (some (.ref a))) (t : ArgsF K O h ρ σ H (upd g a (.lst ws)) fs xs vs) :
      ArgsF K O h ρ σ H g (true :: fs) (.lst ys :: xs) (.ref a :: vs)
/-- a new list is put aside -/
theorem Ok.hold {K : Frg} {g h : Hp} {ρ : Env} {σ : L2.St} {H : Hp} {a : Addr} {vs : List V} (k : Ok K O g h ρ σ H) (e : H a = some (.lst vs)) (n1 : h a = none) (n3 : ∀ i q, i ∈ O → ρ[i]? = some (some q) → σ[i]? ≠ some (some (.ref a))) : Ok K O (upd g a (.lst vs)) h ρ σ H where
  sub := k.sub
  gsub := fun b o eb => by
    by_cases z : b = a
    · rw [z, upd_same] at eb
      rw [z, ← eb]
      exact e
    · rw [upd_ne z] at eb
      exact k.gsub _ _ eb
  dis := fun b o eb => by
    by_cases z : b = a
    · rw [z]
      exact n1
    · rw [upd_ne z] at eb
      exact k.dis _ _ eb
  len := k.len
  sh := k.sh
  own := fun i q hi ei => by
    obtain ⟨xs, b, ws, f1, f2, f3, f4, f5, f6⟩ := k.own i q hi ei
    refine ⟨xs, b, ws, f1, f2, f3, f4, f5, ?_⟩
    rw [upd_ne (fun z => n3 i q hi ei (by rw [f2, z]))]
    exact f6
  inj := k.inj
/-- .. and is there again -/
theorem Ok.release {K : Frg} {g h : Hp} {ρ : Env} {σ : L2.St} {H : Hp} {a : Addr} {ws : List V} (k : Ok K O (upd g a (.lst ws)) h ρ σ H) (n2 : g a = none) :
    Ok K O g h ρ σ H ∧ (∀ i q, i ∈ O → ρ[i]? = some (some q) → σ[i]? ≠ some (some (.ref a))) ∧ H a = some (.lst ws) ∧ h a = none := by
  have n3 : ∀ i q, i ∈ O → ρ[i]? = some (some q) → σ[i]? ≠ some (some (.ref a)) := fun i q hi ei z => by
    obtain ⟨xs', b, ws', f1, f2, f3, f4, f5, f6⟩ := k.own i q hi ei
    rw [z] at f2
    cases f2
    rw [upd_same] at f6
    cases f6
  refine ⟨⟨k.sub, fun b o eb => k.gsub b o (by rw [upd_ne (ne_of_none eb n2)]; exact eb), fun b o eb => k.dis b o (by rw [upd_ne (ne_of_none eb n2)]; exact eb), k.len, k.sh, fun i q' hi ei => ?_, k.inj⟩, n3, k.gsub _ _ upd_same, k.dis _ _ upd_same⟩
  obtain ⟨xs', b, ws', f1, f2, f3, f4, f5, f6⟩ := k.own i q' hi ei
  refine ⟨xs', b, ws', f1, f2, f3, f4, f5, ?_⟩
  by_cases z : b = a
  · rw [z]
    exact n2
  · rw [upd_ne z] at f6
    exact f6
abbrev SAF (X : Cx) (O : List Nat) (fs : List Bool) (es : List Expr) (ea : EvA) : Prop := PA X es (fun σ H Q => ∃ g h ρ ps ρ', Ok X.K O g h ρ σ H ∧ ea ρ = some (ps, ρ') ∧ ∀ vs H' h', Ok X.K O g h' ρ' σ H' → Le h h' → ArgsF X.K O h' ρ' σ H' g fs ps vs → Q vs H')
theorem saf_nil : SAF X O [] [] aNil := pa_nil.wk fun σ H Q ⟨g, h, ρ, ps, ρ', k, e, q⟩ => by
  cases e
  exact q [] H h k (.refl _) .nil
variable {es : List Expr} {eas : EvA} {fs : List Bool}
theorem saf_sh (ha : SX X O false e ea) (hr : SAF X O fs es eas) (hs : starEach (e :: es) X.env = (false, eval e X.env) :: starEach es X.env := by rfl) : SAF X O (false :: fs) (e :: es) (aCons ea eas) :=
  (pa_cons ha hr hs).wk fun σ H Q ⟨g, hh, ρ, pv, ρ', k, e1, q⟩ => by
    obtain ⟨⟨x, ρ1⟩, e2, e1⟩ := bind_inv e1
    obtain ⟨⟨xs, ρ2⟩, e3, e4⟩ := map_inv e1
    cases e4
    exact ⟨g, hh, ρ, x, ρ1, k, e2, fun v H1 h1 k1 l1 r1 => ⟨g, h1, ρ1, xs, _, k1, e3, fun vs H2 h2 k2 l2 r2 => q _ H2 h2 k2 (l1.trans l2) (.sh (Rep.le l2 r1) r2)⟩⟩
theorem saf_fr (ha : SX X O true e ea) (hr : SAF X O fs es eas) (hs : starEach (e :: es) X.env = (false, eval e X.env) :: starEach es X.env := by rfl) : SAF X O (true :: fs) (e :: es) (aCons ea eas) :=
  (pa_cons ha hr hs).wk fun σ H Q ⟨g, hh, ρ, pv, ρ', k, e1, q⟩ => by
    obtain ⟨⟨x, ρ1⟩, e2, e1⟩ := bind_inv e1
    obtain ⟨⟨xs, ρ2⟩, e3, e4⟩ := map_inv e1
    cases e4
    refine ⟨g, hh, ρ, x, ρ1, k, e2, fun v H1 h1 k1 l1 r1 => ?_⟩
    obtain ⟨ys, a, ws, rfl, rfl, e0, r, n1, n2, n3⟩ := r1
    refine ⟨_, h1, ρ1, xs, _, k1.hold e0 n1 n3, e3, fun vs H2 h2 k2 l2 r2 => ?_⟩
    obtain ⟨k3, n3', e0', n1'⟩ := k2.release n2
    exact q _ H2 h2 k3 (l1.trans l2) (.fr e0' (r.le l2) n1' n2 n3' r2)
/-- the slots that take them -/
def setAll : List Nat → List PV → Env → Env
  | i :: is, x :: xs, ρ => (setAll is xs ρ).set i (some x)
  | _, _, ρ => ρ
def setAllV : List Nat → List V → L2.St → L2.St
  | i :: is, x :: xs, ρ => (setAllV is xs ρ).set i (some x)
  | _, _, ρ => ρ
/-- each slot is of the kind of what comes to it -/
def kinds (O : List Nat) : List Nat → List Bool → Bool
  | [], [] => true
  | i :: is, f :: fs => (O.contains i == f) && kinds O is fs
  | _, _ => false
theorem Ok.setAll {K : Frg} {h : Hp} {ρ : Env} {σ : L2.St} {H : Hp} : ∀ {is : List Nat} {fs : List Bool} {g : Hp} {xs : List PV} {vs : List V}, kinds O is fs = true → is.Nodup → (∀ i ∈ is, i < σ.length) → Ok K O g h ρ σ H → ArgsF K O h ρ σ H g fs xs vs →
    Ok K O g h (PL.setAll is xs ρ) (setAllV is vs σ) H
  | [], _, g, xs, vs, _, _, _, k, _ => by
    unfold PL.setAll setAllV
    exact k
  | i :: is, [], g, xs, vs, hk, _, _, _, _ => by cases hk
  | i :: is, f :: fs, g, xs, vs, hk, nd, hlt, k, t => by
    have hk : ((O.contains i == f) && kinds O is fs) = true := hk
    rw [Bool.and_eq_true] at hk
    obtain ⟨ndi, nd⟩ := List.nodup_cons.mp nd
    have len_set : ∀ (is : List Nat) (vs : List V) (σ : L2.St), (setAllV is vs σ).length = σ.length := fun is => by
      induction is with
      | nil => intro vs σ; rfl
      | cons j js ih =>
        intro vs σ
        cases vs with
        | nil => rfl
        | cons v vs =>
          show ((setAllV js vs σ).set j (some v)).length = _
          rw [List.length_set]
          exact ih vs σ
    cases t with
    | @sh _ x v _ xs vs r t =>
      have ho : i ∉ O := fun z => by
        have := hk.1
        rw [List.contains_iff_mem.mpr z] at this
        cases this
      exact (Ok.setAll hk.2 nd (fun j hj => hlt j (List.mem_cons_of_mem _ hj)) k t).setSh ho r
    | @fr _ ys a ws _ xs vs e r n1 n2 n3 t =>
      have ho : i ∈ O := by
        have := hk.1
        cases q : O.contains i with
        | true => exact List.contains_iff_mem.mp q
        | false =>
          rw [q] at this
          cases this
      obtain ⟨k3, n3', e0', n1'⟩ := (Ok.setAll hk.2 nd (fun j hj => hlt j (List.mem_cons_of_mem _ hj)) (k.hold e n1 n3) t).release n2
      exact k3.setFr ho ⟨ys, a, ws, rfl, rfl, e0', r, n1', n2, n3'⟩
end
end PL

/-! PL6: several names at once, targets, stores into one's own lists, methods, while, for -/
namespace PL
open PySem PySem.Spec PyProof.Rows L2
section
variable {X : Cx} {O L : List Nat} {e a b c : Expr} {fr : Bool} {ev ea eb ec : EvE} {p pos : Pos} {st : Stmt} {sts : List Stmt} {x1 x2 : EvS} {tv : EvT} {es : List Expr} {eas : EvA} {fs : List Bool}
def sPar (is : List Nat) (ea : EvA) : EvS := fun ρ => (ea ρ).map fun p => (.nx, setAll is p.1 p.2)
theorem setAllV_out : ∀ {is : List Nat} {vs : List V} {σ : L2.St} {j : Nat}, j ∉ is → (setAllV is vs σ)[j]? = σ[j]?
  | [], _, _, _, _ => by unfold setAllV; rfl
  | _ :: _, [], _, _, _ => by unfold setAllV; rfl
  | i :: is, v :: vs, σ, j, h => by
    show ((setAllV is vs σ).set i (some v))[j]? = _
    rw [List.getElem?_set_ne (fun z => h (by rw [z]; exact List.mem_cons_self))]
    exact setAllV_out fun z => h (List.mem_cons_of_mem _ z)
def apart (is L : List Nat) : Bool := is.all fun i => !L.contains i
theorem apart_ok {is L : List Nat} (h : apart is L = true) : ∀ i ∈ L, i ∉ is := fun i hi z => by
  have := List.all_eq_true.mp h i z
  rw [List.contains_iff_mem.mpr hi] at this
  cases this
theorem par_go {K : Frg} {g h h' : Hp} {ρ' : Env} {σ : L2.St} {H' : Hp} {D : Ends} {is : List Nat} {xs : List PV} {vs : List V} (hk : kinds O is fs = true) (nd : is.Nodup) (hlt : ∀ i ∈ is, i < σ.length) (ha : apart is L = true)
    (q : Goal K O L fr g h σ D (setAll is xs ρ') .nx) (k : Ok K O g h' ρ' σ H') (l : Le h h') (t : ArgsF K O h' ρ' σ H' g fs xs vs) : D.nx (setAllV is vs σ) H' :=
  q _ H' h' (Ok.setAll hk nd hlt k t) l fun i hi => setAllV_out (apart_ok ha i hi)
theorem kinds_len {O : List Nat} : ∀ {is : List Nat} {fs : List Bool}, kinds O is fs = true → fs.length = is.length
  | [], [], _ => rfl
  | [], _ :: _, h => by cases h
  | _ :: _, [], h => by cases h
  | i :: is, f :: fs, h => by
    have h : ((O.contains i == f) && kinds O is fs) = true := h
    rw [Bool.and_eq_true] at h
    simp [kinds_len h.2]
theorem argsF_len {K : Frg} {g h : Hp} {ρ : Env} {σ : L2.St} {H : Hp} {xs : List PV} {vs : List V} (t : ArgsF K O h ρ σ H g fs xs vs) : vs.length = fs.length := by
  induction t with
  | nil => rfl
  | sh r t ih => simp [ih]
  | fr e r n1 n2 n3 t ih => simp [ih]
theorem s_par2 (i j : Nat) {x y : Str} {px py pt : Pos} {kt k2 : Nat} {pt2 : Pos} (ha : SAF X O fs [a, b] eas) (hN : X.N.Nodup) (hk : kinds O [i, j] fs = true := by rfl) (hap : apart [i, j] L = true := by rfl) (hc : X.calm = true := by rfl) (hi : X.N[i]? = some x := by rfl) (hj : X.N[j]? = some y := by rfl) (hij : i ≠ j := by decide)
    (hx : X.env.scope.names.lookup x = some .local := by rfl) (hy : X.env.scope.names.lookup y = some .local := by rfl)
    (hw : swappedStores [.Tuple [.Name x px, .Name y py] kt pt] (.Tuple [a, b] k2 pt2) X.env = pure (some [x, y]) := by rfl)
    (hs : swapsWithSole [.Tuple [.Name x px, .Name y py] kt pt] (.Tuple [a, b] k2 pt2) pos.line X.env = pure false := by rfl) : SS X O L fr (.Assign [.Tuple [.Name x px, .Name y py] kt pt] (.Tuple [a, b] k2 pt2) pos) (sPar [i, j] eas) := by
  refine ⟨fun pins s σ H D I hh => (ps_par hc hN hi hj hij hx hy ha hw hs).run pins s σ H D I ?_⟩
  obtain ⟨g, h, ρ, f, ρ', k, e, q⟩ := hh
  obtain ⟨⟨xs, ρ1⟩, e2, e3⟩ := map_inv e
  cases e3
  refine ⟨g, h, ρ, xs, _, k, e2, fun vs H' h' k' l t => ?_⟩
  have hl := argsF_len t
  rw [kinds_len hk] at hl
  match vs, hl, t with
  | [v, w], _, t =>
    refine ⟨v, w, rfl, ?_⟩
    have z := par_go hk (by simp [hij]) (fun n hn => ?_) hap q k' l t
    · show D.nx ((σ.set i (some v)).set j (some w)) H'
      rw [List.set_comm _ _ hij]
      exact z
    · rw [I.len]
      rcases List.mem_cons.mp hn with rfl | hn
      · exact (List.getElem?_eq_some_iff.mp hi).1
      · rcases List.mem_cons.mp hn with rfl | hn
        · exact (List.getElem?_eq_some_iff.mp hj).1
        · cases hn
theorem s_par3 (i j l : Nat) {x y z : Str} {px py pz pt : Pos} {kt k2 : Nat} {pt2 : Pos} (ha : SAF X O fs [a, b, c] eas) (hN : X.N.Nodup) (hk : kinds O [i, j, l] fs = true := by rfl) (hap : apart [i, j, l] L = true := by rfl) (hc : X.calm = true := by rfl) (hi : X.N[i]? = some x := by rfl) (hj : X.N[j]? = some y := by rfl) (hl : X.N[l]? = some z := by rfl) (hij : i ≠ j := by decide) (hil : i ≠ l := by decide) (hjl : j ≠ l := by decide)
    (hx : X.env.scope.names.lookup x = some .local := by rfl) (hy : X.env.scope.names.lookup y = some .local := by rfl) (hz : X.env.scope.names.lookup z = some .local := by rfl)
    (hw : swappedStores [.Tuple [.Name x px, .Name y py, .Name z pz] kt pt] (.Tuple [a, b, c] k2 pt2) X.env = pure (some [x, y, z]) := by rfl)
    (hs : swapsWithSole [.Tuple [.Name x px, .Name y py, .Name z pz] kt pt] (.Tuple [a, b, c] k2 pt2) pos.line X.env = pure false := by rfl) : SS X O L fr (.Assign [.Tuple [.Name x px, .Name y py, .Name z pz] kt pt] (.Tuple [a, b, c] k2 pt2) pos) (sPar [i, j, l] eas) := by
  refine ⟨fun pins s σ H D I hh => (ps_par3 hc hN hi hj hl hij hil hjl hx hy hz ha hw hs).run pins s σ H D I ?_⟩
  obtain ⟨g, h, ρ, f, ρ', k, e, q⟩ := hh
  obtain ⟨⟨xs, ρ1⟩, e2, e3⟩ := map_inv e
  cases e3
  refine ⟨g, h, ρ, xs, _, k, e2, fun vs H' h' k' le t => ?_⟩
  have hln := argsF_len t
  rw [kinds_len hk] at hln
  match vs, hln, t with
  | [u, v, w], _, t =>
    refine ⟨u, v, w, rfl, ?_⟩
    have zz := par_go hk (by simp [hij, hil, hjl]) (fun n hn => ?_) hap q k' le t
    · show D.nx (((σ.set i (some u)).set j (some v)).set l (some w)) H'
      rw [List.set_comm _ _ hij, List.set_comm _ _ hil, List.set_comm _ _ hjl]
      exact zz
    · rw [I.len]
      rcases List.mem_cons.mp hn with rfl | hn
      · exact (List.getElem?_eq_some_iff.mp hi).1
      · rcases List.mem_cons.mp hn with rfl | hn
        · exact (List.getElem?_eq_some_iff.mp hj).1
        · rcases List.mem_cons.mp hn with rfl | hn
          · exact (List.getElem?_eq_some_iff.mp hl).1
          · cases hn

/-! ### targets -/
/-- but for these slots the same -/
def Ag (vs : List Nat) (σ σ' : L2.St) : Prop := σ'.length = σ.length ∧ ∀ i, i ∉ vs → σ'[i]? = σ[i]?
theorem wipe_in {σ : L2.St} {i : Nat} : ∀ {vs : List Nat}, i ∈ vs → i < σ.length → (wipe σ vs)[i]? = some none
  | v :: vs, h, hl => by
    show ((wipe σ vs).set v none)[i]? = _
    by_cases z : v = i
    · subst z
      rw [List.getElem?_set_self (by rw [wipe_length]; exact hl)]
    · rw [List.getElem?_set_ne z]
      exact wipe_in ((List.mem_cons.mp h).resolve_left fun q => z q.symm) hl
theorem Ag.wipe {vs : List Nat} {σ σ' : L2.St} (h : Ag vs σ σ') : wipe σ' vs = wipe σ vs := by
  apply List.ext_getElem?
  intro i
  by_cases hi : i ∈ vs
  · by_cases hl : i < σ.length
    · rw [wipe_in hi hl, wipe_in hi (by rw [h.1]; exact hl)]
    · rw [List.getElem?_eq_none (by rw [wipe_length, h.1]; omega), List.getElem?_eq_none (by rw [wipe_length]; omega)]
  · rw [L2.wipe_out hi, L2.wipe_out hi]
    exact h.2 i hi
theorem Ag.trans {vs ws : List Nat} {σ σ1 σ2 : L2.St} (h : Ag vs σ σ1) (h' : Ag ws σ1 σ2) : Ag (vs ++ ws) σ σ2 :=
  ⟨h'.1.trans h.1, fun i hi => (h'.2 i fun z => hi (List.mem_append_right _ z)).trans (h.2 i fun z => hi (List.mem_append_left _ z))⟩
abbrev EvG := PV → Env → Option Env
abbrev EvGs := List PV → Env → Option Env
def rdG (K : Frg) (O : List Nat) (vs : List Nat) (eg : EvG) : TG := fun v σ H Q => ∃ g h ρ pv ρ', Ok K O g h ρ σ H ∧ Rep K h pv v ∧ eg pv ρ = some ρ' ∧ ∀ σ' H' h', Ok K O g h' ρ' σ' H' → Le h h' → Ag vs σ σ' → Q σ' H'
def rdGs (K : Frg) (O : List Nat) (vs : List Nat) (eg : EvGs) : TGs := fun v σ H Q => ∃ g h ρ pv ρ', Ok K O g h ρ σ H ∧ RepL K h pv v ∧ eg pv ρ = some ρ' ∧ ∀ σ' H' h', Ok K O g h' ρ' σ' H' → Le h h' → Ag vs σ σ' → Q σ' H'
abbrev SG (X : Cx) (O : List Nat) (vs : List Nat) (tg : Expr) (eg : EvG) : Prop := PG X tg (rdG X.K O vs eg)
abbrev SGs (X : Cx) (O : List Nat) (vs : List Nat) (tg : List Expr) (eg : EvGs) : Prop := PGs X tg (rdGs X.K O vs eg)
theorem _root_.L2.PG.wk {e : Expr} {t t' : TG} (p : PG X e t) (w : ∀ v σ H Q, t' v σ H Q → t v σ H Q) : PG X e t' := ⟨fun pins s σ H v u Q I r h => p.run pins s σ H v u Q I r (w _ _ _ _ h)⟩
theorem _root_.L2.PGs.wk {e : List Expr} {t t' : TGs} (p : PGs X e t) (w : ∀ v σ H Q, t' v σ H Q → t v σ H Q) : PGs X e t' := ⟨fun pins s σ H v u Q I r h => p.run pins s σ H v u Q I r (w _ _ _ _ h)⟩
def gNm (i : Nat) : EvG := fun v ρ => some (ρ.set i (some v))
theorem Ag.set {σ : L2.St} {i : Nat} {o : Option V} : Ag [i] σ (σ.set i o) := ⟨List.length_set .., fun j hj => List.getElem?_set_ne (fun z => hj (by rw [z]; exact List.mem_singleton_self _))⟩
theorem sg_name (i : Nat) {x : Str} (hN : X.N.Nodup) (ho : i ∉ O := by decide) (hi : X.N[i]? = some x := by rfl) (hx : Loc X.env.scope x := by first | exact Or.inl rfl | exact Or.inr rfl) (hf : X.fn x = true ∨ X.env.scope.names.lookup x = some .local := by first | exact .inl rfl | exact .inr rfl) : SG X O [i] (.Name x pos) (gNm i) :=
  (pg_name hN hi hx hf).wk fun v σ H Q ⟨g, h, ρ, pv, ρ', k, r, e, q⟩ => by
    cases e
    exact q _ H h (k.setSh ho r) (.refl _) .set
def gsNil : EvGs := fun vs ρ => match vs with
  | [] => some ρ
  | _ => none
def gsCons (eg : EvG) (egs : EvGs) : EvGs := fun vs ρ => match vs with
  | v :: r => (eg v ρ).bind fun ρ1 => egs r ρ1
  | _ => none
theorem sgs_nil : SGs X O [] [] gsNil := pgs_nil.wk fun v σ H Q ⟨g, h, ρ, pv, ρ', k, r, e, q⟩ => by
  cases r with
  | nil =>
    cases e
    exact ⟨rfl, q σ H h k (.refl _) ⟨rfl, fun _ _ => rfl⟩⟩
  | cons r t => cases e
theorem sgs_cons {vs ws : List Nat} {eg : EvG} {egs : EvGs} (h1 : SG X O vs e eg) (h2 : SGs X O ws es egs) (hs : (assignEach (e :: es) X.env).map (·.2) = assign e X.env :: (assignEach es X.env).map (·.2) := by rfl) : SGs X O (vs ++ ws) (e :: es) (gsCons eg egs) :=
  (pgs_cons h1 h2 hs).wk fun v σ H Q ⟨g, h, ρ, pv, ρ', k, r, e, q⟩ => by
    cases r with
    | nil => cases e
    | cons r t =>
      obtain ⟨ρ1, e1, e2⟩ := bind_inv e
      exact ⟨_, _, rfl, g, h, ρ, _, ρ1, k, r, e1, fun σ1 H1 h1 k1 l1 a1 => ⟨g, h1, ρ1, _, ρ', k1, t.le l1, e2, fun σ2 H2 h2 k2 l2 a2 => q σ2 H2 h2 k2 (l1.trans l2) (a1.trans a2)⟩⟩
def gTp (n : Nat) (egs : EvGs) : EvG := fun v ρ => match v with
  | .tup xs => if xs.length = n then egs xs ρ else none
  | _ => none
theorem sg_tup {vs : List Nat} {egs : EvGs} {k n : Nat} (hg : SGs X O vs es egs) (hc : X.calm = true := by rfl) (hn : (assignEach es X.env).length = n := by rfl) (hst : (assignEach es X.env).findIdx? (·.1) = none := by rfl) : SG X O vs (.Tuple es k pos) (gTp n egs) :=
  (pg_tup hc hg hn hst).wk fun v σ H Q ⟨g, h, ρ, pv, ρ', k, r, e, q⟩ => by
    cases r with
    | @tup a ws xs s t =>
      have e : (if xs.length = n then egs xs ρ else none) = some ρ' := e
      split at e
      · rename_i hn'
        exact ⟨a, ws, rfl, k.sub.sqT s, by rw [← t.length]; exact hn', g, h, ρ, xs, ρ', k, t, e, q⟩
      · cases e
    | _ => cases e
def sAsgT (ev : EvE) (eg : EvG) : EvS := fun ρ => (ev ρ).bind fun p => (eg p.1 p.2).map fun ρ1 => (.nx, ρ1)
theorem s_asgT {tg : Expr} {vs : List Nat} {eg : EvG} (ha : SX X O false e ev) (hg : SG X O vs tg eg) (hap : apart vs L = true := by rfl) (hs : swapsWithSole [tg] e pos.line X.env = pure false := by rfl) (hw : swappedStores [tg] e X.env = pure none := by rfl)
    (h1 : (assignEach [tg] X.env).map (·.2) = [assign tg X.env] := by rfl) : SS X O L fr (.Assign [tg] e pos) (sAsgT ev eg) := (ps_asg ha hg hs hw h1).wk fun D σ H ⟨g, h, ρ, f, ρ', k, e, q⟩ => by
  obtain ⟨⟨x, ρ1⟩, e2, e⟩ := bind_inv e
  obtain ⟨ρ2, e3, e4⟩ := map_inv e
  cases e4
  exact ⟨g, h, ρ, x, ρ1, k, e2, fun v H1 h1 k1 l1 r1 => ⟨g, h1, ρ1, x, _, k1, r1, e3, fun σ2 H2 h2 k2 l2 a2 => q σ2 H2 h2 k2 (l1.trans l2) fun i hi => a2.2 i (apart_ok hap i hi)⟩⟩

/-! ### one's own lists are changed -/
theorem Ok.write {K : Frg} {g h : Hp} {ρ : Env} {σ : L2.St} {H : Hp} {i : Nat} {a : Addr} {xs ys : List PV} {ws : List V} (k : Ok K O g h ρ σ H) (ho : i ∈ O) (e : ρ[i]? = some (some (.lst xs))) (e2 : σ[i]? = some (some (.ref a))) (r : RepL K h ys ws) :
    Ok K O g h (ρ.set i (some (.lst ys))) σ (upd H a (.lst ws)) := by
  obtain ⟨_, a', _, _, f2, f3, _, n1, n2⟩ := k.own i _ ho e
  rw [e2] at f2
  cases f2
  have le_ne : ∀ {G : Hp}, Le G H → G a = none → Le G (upd H a (.lst ws)) := fun {G} l n b o eb => by
    rw [upd_ne (ne_of_none eb n)]
    exact l _ _ eb
  refine ⟨le_ne k.sub n1, le_ne k.gsub n2, k.dis, by rw [List.length_set]; exact k.len, fun j q hj ej => ?_, fun j q hj ej => ?_, fun b c x y ad hb hc e1 e3 f1 f3 => ?_⟩
  · rw [List.getElem?_set_ne (fun z => by rw [← z] at hj; exact hj ho)] at ej
    exact k.sh j q hj ej
  · by_cases z : i = j
    · subst z
      have hl : i < ρ.length := (List.getElem?_eq_some_iff.mp e).1
      rw [List.getElem?_set_self hl] at ej
      cases ej
      exact ⟨ys, a, ws, rfl, e2, upd_same, r, n1, n2⟩
    · rw [List.getElem?_set_ne z] at ej
      obtain ⟨ys', b, ws', g1, g2, g3, g4, g5, g6⟩ := k.own j q hj ej
      refine ⟨ys', b, ws', g1, g2, ?_, g4, g5, g6⟩
      rw [upd_ne (fun q' => z (k.inj i j _ _ a ho hj e ej e2 (by rw [g2, q'])))]
      exact g3
  · have back : ∀ {j : Nat} {q : PV}, (ρ.set i (some (.lst ys)))[j]? = some (some q) → ∃ q', ρ[j]? = some (some q') := fun {j q} ej => by
      by_cases z : i = j
      · subst z
        exact ⟨_, e⟩
      · rw [List.getElem?_set_ne z] at ej
        exact ⟨_, ej⟩
    obtain ⟨x', e1'⟩ := back e1
    obtain ⟨y', e3'⟩ := back e3
    exact k.inj b c x' y' ad hb hc e1' e3' f1 f3
/-- the list of slot i -/
def lstAt (ρ : Env) (i : Nat) : Option (List PV) := match ρ[i]? with
  | some (some (.lst xs)) => some xs
  | _ => none
theorem lstAt_inv {ρ : Env} {i : Nat} {xs : List PV} (h : lstAt ρ i = some xs) : ρ[i]? = some (some (.lst xs)) := by
  unfold lstAt at h
  split at h
  · rename_i e
    cases h
    exact e
  · cases h
/-- own.append(e) -/
def eAppend (i : Nat) (ev : EvE) : EvE := fun ρ => (ev ρ).bind fun p => (lstAt p.2 i).bind fun xs => if fits (xs.length + 1) = true then some (.non, p.2.set i (some (.lst (xs ++ [p.1])))) else none
section
variable {x : Str} {px apos cpos : Pos} {i : Nat}
/-- what a method's call on a list of one's own asks first -/
theorem own_ref {K : Frg} {g h : Hp} {ρ : Env} {σ : L2.St} {H : Hp} {pv : PV} (k : Ok K O g h ρ σ H) (ho : i ∈ O) (e : ρ[i]? = some (some pv)) : ∃ a vs, σ[i]? = some (some (.ref a)) ∧ H a = some (.lst vs) := by
  obtain ⟨xs, a, vs, _, f2, f3, _⟩ := k.own i pv ho e
  exact ⟨a, vs, f2, f3⟩
theorem s_append (i : Nat) (ha : SX X O false e ev) (ho : i ∈ O := by decide) (hN : X.N[i]? = some x := by rfl) (hv : Vis X.env.scope x := by first | exact Or.inl rfl | exact Or.inr (Or.inl rfl) | exact Or.inr (Or.inr rfl))
    (hd : (x == ("__debug__" : Str)) = false := by decide) (hcd : (x == ("__classdict__" : Str)) = false := by decide) (hbase : attributeBase (.Name x px) "append" X.env (eval (.Name x px) X.env) = eval (.Name x px) X.env := by rfl)
    (hfew : ((backTo cpos (starEach (e :: []) X.env)).all (fun x => !x.1) && (backToKw cpos (keywordEach [] X.env)).all (fun x => x.1.isSome) && decide ((e :: []).length + ([] : List Keyword).length + (if ([] : List Keyword).isEmpty then 0 else 1) < 30)) = true := by rfl)
    (hline : (apos.endLine == cpos.line) = true := by rfl) (hs : starEach (e :: []) X.env = (false, eval e X.env) :: starEach [] X.env := by rfl) (hplain : (backTo cpos (starEach [] X.env)).any (·.1) = false := by rfl) :
    SX X O false (.Call (.Attribute (.Name x px) "append" apos) [e] [] cpos) (fun ρ => (lstAt ρ i).bind fun _ => eAppend i ev ρ) :=
  (pe_bm PySem.F.plainAttrs_list PySem.F.slot_list_append PySem.F.type_list_append mt_append (pe_var hN hv hd hcd) (pa_cons ha pa_nil hs) hbase hfew hline hs hplain).wk fun σ H Q ⟨g, hh, ρ, pv, ρ', k, e0, q⟩ => by
    obtain ⟨xs0, e01, e1⟩ := bind_inv e0
    obtain ⟨⟨x, ρ1⟩, e2, e1⟩ := bind_inv e1
    obtain ⟨xs, e3, e1⟩ := bind_inv e1
    obtain ⟨e4, e5⟩ := ite_inv e1
    cases e5
    obtain ⟨ad, vs0, f1, f2⟩ := own_ref k ho (lstAt_inv e01)
    refine ⟨_, f1, .inl ⟨rfl, _, .inl (.inl f2)⟩, g, hh, ρ, x, ρ1, k, e2, fun v H1 h1 k1 l1 r1 => ?_⟩
    obtain ⟨ys, ad', ws, h2, h3, h4, h5, h6, h7⟩ := k1.own i _ ho (lstAt_inv e3)
    cases h2
    rw [f1] at h3
    cases h3
    refine ⟨ad, ws, v, rfl, rfl, h4, ?_, ?_⟩
    · have := fits_ok e4
      rw [h5.length] at this
      omega
    · exact q _ _ h1 (k1.write ho (lstAt_inv e3) f1 (h5.append (.cons r1 .nil))) l1 .non
/-- own.extend(list) -/
def eExtend (i : Nat) (ev : EvE) : EvE := fun ρ => (lstAt ρ i).bind fun _ => (ev ρ).bind fun p => (lstAt p.2 i).bind fun xs => match p.1 with
  | .lst ys => if fits (xs.length + ys.length) = true then some (.non, p.2.set i (some (.lst (xs ++ ys)))) else none
  | _ => none
theorem s_extend (i : Nat) (ha : SX X O false e ev) (ho : i ∈ O := by decide) (hN : X.N[i]? = some x := by rfl) (hv : Vis X.env.scope x := by first | exact Or.inl rfl | exact Or.inr (Or.inl rfl) | exact Or.inr (Or.inr rfl))
    (hd : (x == ("__debug__" : Str)) = false := by decide) (hcd : (x == ("__classdict__" : Str)) = false := by decide) (hbase : attributeBase (.Name x px) "extend" X.env (eval (.Name x px) X.env) = eval (.Name x px) X.env := by rfl)
    (hfew : ((backTo cpos (starEach (e :: []) X.env)).all (fun x => !x.1) && (backToKw cpos (keywordEach [] X.env)).all (fun x => x.1.isSome) && decide ((e :: []).length + ([] : List Keyword).length + (if ([] : List Keyword).isEmpty then 0 else 1) < 30)) = true := by rfl)
    (hline : (apos.endLine == cpos.line) = true := by rfl) (hs : starEach (e :: []) X.env = (false, eval e X.env) :: starEach [] X.env := by rfl) (hplain : (backTo cpos (starEach [] X.env)).any (·.1) = false := by rfl) :
    SX X O false (.Call (.Attribute (.Name x px) "extend" apos) [e] [] cpos) (eExtend i ev) :=
  (pe_bm PySem.F.plainAttrs_list PySem.F.slot_list_extend PySem.F.type_list_extend mt_extend (pe_var hN hv hd hcd) (pa_cons ha pa_nil hs) hbase hfew hline hs hplain).wk fun σ H Q ⟨g, hh, ρ, pv, ρ', k, e0, q⟩ => by
    obtain ⟨xs0, e01, e1⟩ := bind_inv e0
    obtain ⟨⟨x, ρ1⟩, e2, e1⟩ := bind_inv e1
    obtain ⟨xs, e3, e1⟩ := bind_inv e1
    cases x with
    | lst zs =>
      obtain ⟨e4, e5⟩ := ite_inv e1
      cases e5
      obtain ⟨ad, vs0, f1, f2⟩ := own_ref k ho (lstAt_inv e01)
      refine ⟨_, f1, .inl ⟨rfl, _, .inl (.inl f2)⟩, g, hh, ρ, _, ρ1, k, e2, fun v H1 h1 k1 l1 r1 => ?_⟩
      obtain ⟨ys, ad', ws, h2, h3, h4, h5, h6, h7⟩ := k1.own i _ ho (lstAt_inv e3)
      cases h2
      rw [f1] at h3
      cases h3
      obtain ⟨b, us, rfl, s, t⟩ := View.lst (.inl r1) k1.sub
      refine ⟨ad, b, ws, us, rfl, rfl, h4, s, ?_, ?_⟩
      · have := fits_ok e4
        rw [h5.length, t.length] at this
        exact this
      · exact q _ _ h1 (k1.write ho (lstAt_inv e3) f1 (h5.append t)) l1 .non
    | _ => cases e1
/-- own.pop(k) -/
def ePop1 (i : Nat) (ev : EvE) : EvE := fun ρ => (lstAt ρ i).bind fun _ => (ev ρ).bind fun p => (lstAt p.2 i).bind fun xs => match p.1 with
  | .int k => if fits xs.length = true then (ixN xs.length k).bind fun j => (xs[j]?).map fun y => (y, p.2.set i (some (.lst (xs.eraseIdx j)))) else none
  | _ => none
theorem s_pop1 (i : Nat) (ha : SX X O false e ev) (ho : i ∈ O := by decide) (hN : X.N[i]? = some x := by rfl) (hv : Vis X.env.scope x := by first | exact Or.inl rfl | exact Or.inr (Or.inl rfl) | exact Or.inr (Or.inr rfl))
    (hd : (x == ("__debug__" : Str)) = false := by decide) (hcd : (x == ("__classdict__" : Str)) = false := by decide) (hbase : attributeBase (.Name x px) "pop" X.env (eval (.Name x px) X.env) = eval (.Name x px) X.env := by rfl)
    (hfew : ((backTo cpos (starEach (e :: []) X.env)).all (fun x => !x.1) && (backToKw cpos (keywordEach [] X.env)).all (fun x => x.1.isSome) && decide ((e :: []).length + ([] : List Keyword).length + (if ([] : List Keyword).isEmpty then 0 else 1) < 30)) = true := by rfl)
    (hline : (apos.endLine == cpos.line) = true := by rfl) (hs : starEach (e :: []) X.env = (false, eval e X.env) :: starEach [] X.env := by rfl) (hplain : (backTo cpos (starEach [] X.env)).any (·.1) = false := by rfl) :
    SX X O false (.Call (.Attribute (.Name x px) "pop" apos) [e] [] cpos) (ePop1 i ev) :=
  (pe_bm PySem.F.plainAttrs_list PySem.F.slot_list_pop PySem.F.type_list_pop mt_popAt (pe_var hN hv hd hcd) (pa_cons ha pa_nil hs) hbase hfew hline hs hplain).wk fun σ H Q ⟨g, hh, ρ, pv, ρ', k, e0, q⟩ => by
    obtain ⟨xs0, e01, e1⟩ := bind_inv e0
    obtain ⟨⟨x, ρ1⟩, e2, e1⟩ := bind_inv e1
    obtain ⟨xs, e3, e1⟩ := bind_inv e1
    cases x with
    | int n =>
      obtain ⟨e8, e1⟩ := ite_inv e1
      obtain ⟨j, e4, e5⟩ := bind_inv e1
      obtain ⟨y, e6, e7⟩ := map_inv e5
      cases e7
      have hz := fits_ok e8
      rw [sizeLine_eq] at hz
      obtain ⟨ad, vs0, f1, f2⟩ := own_ref k ho (lstAt_inv e01)
      refine ⟨_, f1, .inl ⟨rfl, _, .inl (.inl f2)⟩, g, hh, ρ, _, ρ1, k, e2, fun v H1 h1 k1 l1 r1 => ?_⟩
      obtain ⟨ys, ad', ws, h2, h3, h4, h5, h6, h7⟩ := k1.own i _ ho (lstAt_inv e3)
      cases h2
      rw [f1] at h3
      cases h3
      have r1 : Rep X.K h1 (.int n) v := r1
      cases r1
      obtain ⟨w, g1, g2⟩ := h5.get e6
      rw [h5.length] at e4 hz
      obtain ⟨m1, m2, m3, m4⟩ := ixN_seq e4
      refine ⟨ad, ws, n, j, w, rfl, rfl, h4, ?_, ?_, m1, g1, ?_⟩
      · omega
      · omega
      · exact q _ _ h1 (k1.write ho (lstAt_inv e3) f1 (h5.eraseIdx j)) l1 g2
    | _ => cases e1
/-- own[k] = e -/
def sStore (i : Nat) (ek ev : EvE) : EvS := fun ρ => (ev ρ).bind fun p => (lstAt p.2 i).bind fun _ => (ek p.2).bind fun q => (lstAt q.2 i).bind fun xs => match q.1 with
  | .int k => (ixN xs.length k).map fun j => (.nx, q.2.set i (some (.lst (xs.set j p.1))))
  | _ => none
theorem s_store (i : Nat) {k : Expr} {ek : EvE} {tpos : Pos} (ha : SX X O false e ev) (hk : SX X O false k ek) (ho : i ∈ O := by decide) (hN : X.N[i]? = some x := by rfl) (hv : Vis X.env.scope x := by first | exact Or.inl rfl | exact Or.inr (Or.inl rfl) | exact Or.inr (Or.inr rfl))
    (hd : (x == ("__debug__" : Str)) = false := by decide) (hcd : (x == ("__classdict__" : Str)) = false := by decide)
    (hsub : ∀ v, assign (.Subscript (.Name x px) k tpos) X.env v = (do
      let ov ← holding [v] (eval (.Name x px) X.env)
      let iv ← holding [v, ov] (eval k X.env)
      standAt tpos
      holding [v, ov, iv] (setItem ov iv v)
      release [v, ov, iv] []) := by intro _; rfl) (hs : swapsWithSole [.Subscript (.Name x px) k tpos] e pos.line X.env = pure false := by rfl) (hw : swappedStores [.Subscript (.Name x px) k tpos] e X.env = pure none := by rfl)
    (h1 : (assignEach [.Subscript (.Name x px) k tpos] X.env).map (·.2) = [assign (.Subscript (.Name x px) k tpos) X.env] := by rfl) : SS X O L fr (.Assign [.Subscript (.Name x px) k tpos] e pos) (sStore i ek ev) :=
  (ps_asg ha (pg_sub (pe_var hN hv hd hcd) hk set_list hsub) hs hw h1).wk fun D σ H ⟨g, h, ρ, f, ρ', k, e, q⟩ => by
    obtain ⟨⟨x, ρ1⟩, e2, e⟩ := bind_inv e
    obtain ⟨xs0, e01, e⟩ := bind_inv e
    obtain ⟨⟨y, ρ2⟩, e3, e⟩ := bind_inv e
    obtain ⟨xs, e4, e⟩ := bind_inv e
    cases y with
    | int n =>
      obtain ⟨j, e5, e6⟩ := map_inv e
      cases e6
      refine ⟨g, h, ρ, x, ρ1, k, e2, fun v H1 h1 k1 l1 r1 => ?_⟩
      obtain ⟨ad, vs0, f1, f2⟩ := own_ref k1 ho (lstAt_inv e01)
      refine ⟨_, f1, g, h1, ρ1, _, ρ2, k1, e3, fun u H2 h2 k2 l2 r2 => ?_⟩
      obtain ⟨ys, ad', ws, m2, m3, m4, m5, m6, m7⟩ := k2.own i _ ho (lstAt_inv e4)
      cases m2
      rw [f1] at m3
      cases m3
      have r2 : Rep X.K h2 (.int n) u := r2
      cases r2
      exact ⟨ad, ws, n, j, rfl, rfl, m4, by rw [← m5.length]; exact e5, q σ _ h2 (k2.write ho (lstAt_inv e4) f1 (m5.set (Rep.le l2 r1) j)) (l1.trans l2) fun _ _ => rfl⟩
    | _ => cases e
/-- own[k] op= e -/
def sAugStore (i : Nat) (op : Op2) (ek ev : EvE) : EvS := fun ρ => (lstAt ρ i).bind fun _ => (ek ρ).bind fun p => (lstAt p.2 i).bind fun xs => match p.1 with
  | .int k => (ixN xs.length k).bind fun j => (xs[j]?).bind fun y => (ev p.2).bind fun q => (lstAt q.2 i).bind fun zs => if zs.length = xs.length then (op y q.1).map fun z => (.nx, q.2.set i (some (.lst (zs.set j z)))) else none
  | _ => none
def rGetL (K : Frg) : V → V → Hp → VK → Prop := fun x y H Q => ∃ p xs i v, x = .ref p ∧ y = .int i ∧ SqL K H p xs ∧ atI xs i = some v ∧ Q v H
theorem get_list : PGet X (rGetL X.K) := by
  intro pins s σ H x y v u Q I rx ry h
  obtain ⟨p, xs, i, z, rfl, rfl, hq, he, q⟩ := h
  cases rx
  obtain ⟨t, rfl⟩ := ry
  obtain ⟨its, r, pl, hz⟩ := I.list hq
  obtain ⟨j, h1, h2, h3, h4, h5⟩ := atI_get he
  obtain ⟨w, ew, rw'⟩ := r.get h2
  have hl := r.length
  have hn := line63
  have fin : EP X pins σ Q w s := ⟨z, H, I, rw', q⟩
  by_cases h0 : 0 ≤ i
  · have hj : i.toNat = j := by
      rw [seqIndex_of h0 h5] at h1
      exact Option.some.inj h1
    exact wpAny_getItem_list (x := w) pl.isList h0 (by omega) (by rw [hj]; simpa using ew) fin
  · have hj : (i + (its.toArray.size : Int)).toNat = j := by
      rw [seqIndex_neg (by omega) h4] at h1
      rw [List.size_toArray, ← hl]
      exact Option.some.inj h1
    exact wpAny_getItem_list_neg pl.isList (by omega) (by rw [List.size_toArray] <;> omega) (by omega) (by rw [hj]; simpa using ew) fin
end
end
end PL

/-! PL7: loops, what they walk, comprehensions -/
namespace PL
open PySem PySem.Spec PyProof.Rows L2
section
variable {X : Cx} {O L : List Nat} {e a b c : Expr} {fr : Bool} {ev ea eb ec : EvE} {p pos : Pos} {st : Stmt} {sts : List Stmt} {x1 x2 : EvS} {tv : EvT} {es : List Expr} {eas : EvA} {fs : List Bool}
theorem s_augStore {x : Str} {px tpos : Pos} (i : Nat) {op : Operator} {o2 : Op2} {k : Expr} {ek : EvE} (hop : OpS X (inplaceOp op) false o2) (ha : SX X O false e ev) (hk : SX X O false k ek) (ho : i ∈ O := by decide) (hN : X.N[i]? = some x := by rfl) (hv : Vis X.env.scope x := by first | exact Or.inl rfl | exact Or.inr (Or.inl rfl) | exact Or.inr (Or.inr rfl))
    (hd : (x == ("__debug__" : Str)) = false := by decide) (hcd : (x == ("__classdict__" : Str)) = false := by decide)
    (hsub : ∀ ov iv new, augStore k ov iv new = (do holding [new, ov, iv] (setItem ov iv new); release [new, ov, iv] []; pure .next) := by intros; rfl) : SS X O L fr (.AugAssign (.Subscript (.Name x px) k tpos) op e pos) (sAugStore i o2 ek ev) :=
  (ps_augS (pe_var hN hv hd hcd) hk get_list ha (hop O) set_list hsub).wk fun D σ H ⟨g, h, ρ, f, ρ', k, e, q⟩ => by
    obtain ⟨xs0, e01, e⟩ := bind_inv e
    obtain ⟨⟨y, ρ2⟩, e3, e⟩ := bind_inv e
    obtain ⟨xs, e4, e⟩ := bind_inv e
    cases y with
    | int n =>
      obtain ⟨j, e5, e⟩ := bind_inv e
      obtain ⟨y, e6, e⟩ := bind_inv e
      obtain ⟨⟨w, ρ3⟩, e7, e⟩ := bind_inv e
      obtain ⟨zs, e8, e⟩ := bind_inv e
      simp only at e
      split at e
      · rename_i hlen
        obtain ⟨z, e9, e10⟩ := map_inv e
        cases e10
        obtain ⟨ad, vs0, f1, f2⟩ := own_ref k ho (lstAt_inv e01)
        refine ⟨_, f1, g, h, ρ, _, ρ2, k, e3, fun u H2 h2 k2 l2 r2 => ?_⟩
        obtain ⟨ys, ad', ws, m2, m3, m4, m5, m6, m7⟩ := k2.own i _ ho (lstAt_inv e4)
        cases m2
        rw [f1] at m3
        cases m3
        have r2 : Rep X.K h2 (.int n) u := r2
        cases r2
        have e5' := e5
        rw [m5.length] at e5'
        obtain ⟨v, g1, g2⟩ := m5.get e6
        refine ⟨ad, ws, n, v, rfl, rfl, .inl (.inl m4), ?_, g, h2, ρ2, w, ρ3, k2, e7, fun w' H3 h3 k3 l3 r3 => ⟨g, h3, ρ3, σ, y, w, z, k3, .inl (g2.le l3), .inl r3, e9, fun z' H4 h4 k4 l4 r4 => ?_⟩⟩
        · unfold L2.atI
          rw [e5']
          exact g1
        · obtain ⟨ys, ad', ws', m2, m3, m4', m5', m6', m7'⟩ := k4.own i _ ho (lstAt_inv e8)
          cases m2
          rw [f1] at m3
          cases m3
          refine ⟨ad, ws', n, j, rfl, rfl, m4', ?_, ?_⟩
          · rw [← m5'.length, hlen]
            exact e5
          · exact q σ _ h4 (k4.write ho (lstAt_inv e8) f1 (m5'.set r4 j)) ((l2.trans l3).trans l4) fun _ _ => rfl
      · cases e
    | _ => cases e

/-! ### while -/
def whileL (tv : EvT) (x : EvS) : Nat → EvS
  | 0, _ => none
  | n + 1, ρ => match tv ρ with
    | some (true, ρ1) => (match x ρ1 with
      | some (.nx, ρ2) => whileL tv x n ρ2
      | r => r)
    | some (false, ρ1) => some (.nx, ρ1)
    | none => none
def sWhile (tv : EvT) (x : EvS) : EvS := whileL tv x 1000000
theorem s_while (hc : ST X O c tv) (hb : SSs X O L fr sts x1) (hp : PassesOwn (model X.prog X.w) X.A X.env X.xe := by exact PassesOwn.never) : SS X O L fr (.While c sts [] pos) (sWhile tv x1) := (ps_while hp hc hb).wk fun D σ H ⟨g, h, ρ, f, ρ', k, e, q⟩ => by
  refine ⟨fun m σ1 H1 => ∃ h1 ρ1, Ok X.K O g h1 ρ1 σ1 H1 ∧ Le h h1 ∧ (∀ i ∈ L, σ1[i]? = σ[i]?) ∧ whileL tv x1 m ρ1 = some (f, ρ'), ⟨_, h, ρ, k, .refl _, fun _ _ => rfl, e⟩, ?_⟩
  rintro m σ1 H1 ⟨h1, ρ1, k1, l1, s1, e1⟩
  cases m with
  | zero => cases e1
  | succ m =>
    unfold whileL at e1
    split at e1
    · rename_i ρ2 e2
      refine ⟨g, h1, ρ1, true, ρ2, k1, e2, fun H2 h2 k2 l2 => iteT ?_⟩
      refine ⟨fun σ3 H3 => ∃ h3 ρ3, Ok X.K O g h3 ρ3 σ3 H3 ∧ Le h h3 ∧ (∀ i ∈ L, σ3[i]? = σ[i]?) ∧ whileL tv x1 m ρ3 = some (f, ρ'), fun σ3 H3 w => ⟨m, Nat.lt_succ_self _, w⟩, ?_⟩
      split at e1
      · rename_i ρ3 e3
        exact ⟨g, h2, ρ2, .nx, ρ3, k2, e3, fun σ3 H3 h3 k3 l3 s3 => ⟨h3, ρ3, k3, (l1.trans l2).trans l3, fun i hi => (s3 i hi).trans (s1 i hi), e1⟩⟩
      · rename_i hr
        refine ⟨g, h2, ρ2, f, ρ', k2, e1, ?_⟩
        cases f with
        | nx => exact absurd e1 (hr ρ')
        | rt pv => exact (q.from (l1.trans l2) s1)
    · rename_i ρ2 e2
      cases e1
      exact ⟨g, h1, ρ1, false, _, k1, e2, fun H2 h2 k2 l2 => iteF (q σ1 H2 h2 k2 (l1.trans l2) s1)⟩
    · cases e1

/-! ### what a loop walks -/
abbrev EvI := Env → Option (List PV × Env)
def ItAt (K : Frg) (O : List Nat) (g h : Hp) (ρ : Env) (σ : L2.St) (H : Hp) (J : It) (i : Nat) : Option PV → Prop
  | some x => J.go i H ∧ ∀ v H3, J.yld i H v H3 → ∃ h3, Ok K O g h3 ρ σ H3 ∧ Le h h3 ∧ Rep K h3 x v
  | none => J.stop i H
def ItOk (K : Frg) (O : List Nat) (g0 h0 : Hp) (J : It) (items : List PV) : Prop := ∀ i H g h ρ σ, i ≤ items.length → Ok K O g h ρ σ H → Le h0 h → Le g0 g → ItAt K O g h ρ σ H J i items[i]?
def rdI (K : Frg) (O : List Nat) (evI : EvI) : TI := fun σ H R => ∃ g h ρ items ρ', Ok K O g h ρ σ H ∧ evI ρ = some (items, ρ') ∧ ∀ J H' h', Ok K O g h' ρ' σ H' → Le h h' → ItOk K O g h' J items → R J H'
abbrev SI (X : Cx) (O : List Nat) (tg iter : Expr) (evI : EvI) : Prop := PI X tg iter (rdI X.K O evI)
theorem _root_.L2.PI.wk {tg e : Expr} {t t' : TI} (p : PI X tg e t) (w : ∀ σ H R, t' σ H R → t σ H R) : PI X tg e t' := ⟨fun pins s σ H R I h => p.run pins s σ H R I (w _ _ _ h)⟩
def iOf (ev : EvE) : EvI := fun ρ => (ev ρ).bind fun p => (items? p.1).map fun xs => (xs, p.2)
/-- a list that stands still -/
theorem itl_ok {K : Frg} {g0 h0 : Hp} {a : Addr} {vs : List V} {xs : List PV} (s : ∀ g h ρ σ H, Ok K O g h ρ σ H → Le h0 h → Le g0 g → SqL K H a vs) (r : RepL K h0 xs vs) : ItOk K O g0 h0 (Itl K a) xs := fun i H g h ρ σ hi0 k l lg => by
  have sq := s g h ρ σ H k l lg
  cases e : xs[i]? with
  | some x =>
    obtain ⟨v, e1, r1⟩ := r.get e
    refine ⟨⟨vs, v, sq, e1⟩, fun w H3 y => ?_⟩
    obtain ⟨e3, y⟩ := y
    subst e3
    have := y vs sq
    rw [e1] at this
    cases this
    exact ⟨h, k, .refl _, r1.le l⟩
  | none =>
    refine ⟨vs, sq, ?_⟩
    rw [← r.length]
    exact List.getElem?_eq_none_iff.mp e
theorem itt_ok {K : Frg} {g0 h0 : Hp} {a : Addr} {vs : List V} {xs : List PV} (s : SqT K h0 a vs) (r : RepL K h0 xs vs) : ItOk K O g0 h0 (Itt K a) xs := fun i H g h ρ σ hi0 k l lg => by
  have sq := k.sub.sqT (l.sqT s)
  cases e : xs[i]? with
  | some x =>
    obtain ⟨v, e1, r1⟩ := r.get e
    refine ⟨⟨vs, v, sq, e1⟩, fun w H3 y => ?_⟩
    obtain ⟨e3, y⟩ := y
    subst e3
    have := y vs sq
    rw [e1] at this
    cases this
    exact ⟨h, k, .refl _, r1.le l⟩
  | none =>
    refine ⟨vs, sq, ?_⟩
    rw [← r.length]
    exact List.getElem?_eq_none_iff.mp e
def iLst (ev : EvE) : EvI := fun ρ => match ev ρ with
  | some (.lst xs, ρ') => some (xs, ρ')
  | _ => none
def iTp (ev : EvE) : EvI := fun ρ => match ev ρ with
  | some (.tup xs, ρ') => some (xs, ρ')
  | _ => none
theorem si_list {tg : Expr} (ha : SX X O false e ev) : SI X O tg e (iLst ev) := (pi_list ha).wk fun σ H R ⟨g, h, ρ, items, ρ', k, e, q⟩ => by
  unfold iLst at e
  split at e
  · rename_i xs ρ1 e1
    cases e
    refine ⟨g, h, ρ, _, _, k, e1, fun v H1 h1 k1 l1 r1 => ?_⟩
    have r1 : Rep X.K h1 (.lst items) v := r1
    cases r1 with
    | lst s t => exact ⟨_, rfl, ⟨_, .inl (.inl (k1.sub _ _ s))⟩, q _ H1 h1 k1 l1 (itl_ok (fun g h ρ σ H k l _ => .inl (.inl (k.sub _ _ (l _ _ s)))) t)⟩
  · cases e
theorem si_tup {tg : Expr} (ha : SX X O false e ev) : SI X O tg e (iTp ev) := (pi_tup ha).wk fun σ H R ⟨g, h, ρ, items, ρ', k, e, q⟩ => by
  unfold iTp at e
  split at e
  · rename_i xs ρ1 e1
    cases e
    refine ⟨g, h, ρ, _, _, k, e1, fun v H1 h1 k1 l1 r1 => ?_⟩
    have r1 : Rep X.K h1 (.tup items) v := r1
    cases r1 with
    | tup s t => exact ⟨_, rfl, ⟨_, k1.sub.sqT s⟩, q _ H1 h1 k1 l1 (itt_ok s t)⟩
  · cases e
/-- a list or a tuple -/
theorem si_any {tg : Expr} (ha : SX X O false e ev) : SI X O tg e (iOf ev) := by
  refine ⟨fun pins s σ H R I ⟨g, h, ρ, items, ρ', k, e1, q⟩ => ?_⟩
  obtain ⟨⟨x, ρ1⟩, e2, e3⟩ := bind_inv e1
  obtain ⟨xs, e4, e5⟩ := map_inv e3
  cases e5
  cases x with
  | lst ys =>
    cases e4
    exact (si_list ha).run pins s σ H R I ⟨g, h, ρ, _, ρ1, k, by first | (unfold iLst; rw [e2]) | (unfold iTp; rw [e2]), q⟩
  | tup ys =>
    cases e4
    exact (si_tup ha).run pins s σ H R I ⟨g, h, ρ, _, ρ1, k, by first | (unfold iLst; rw [e2]) | (unfold iTp; rw [e2]), q⟩
  | _ => cases e4
def rgL (lo : Int) (n : Nat) : List PV := (List.range n).map fun (i : Nat) => PV.int (lo + i)
theorem rgL_get (lo : Int) (n i : Nat) : (rgL lo n)[i]? = if i < n then some (.int (lo + i)) else none := by
  unfold rgL
  rw [List.getElem?_map]
  split
  · rename_i h
    rw [List.getElem?_range h]
    rfl
  · rename_i h
    rw [List.getElem?_eq_none (by rw [List.length_range]; omega)]
    rfl
theorem itr_ok {K : Frg} {g0 h0 : Hp} {lo : Int} {n : Nat} : ItOk K O g0 h0 (Itr lo n) (rgL lo n) := fun i H g h ρ σ hi0 k l lg => by
  rw [rgL_get]
  split
  · rename_i hi
    refine ⟨hi, fun v H3 y => ?_⟩
    obtain ⟨e1, e2⟩ := y
    subst e1 e2
    exact ⟨h, k, .refl _, .int _⟩
  · rename_i hi
    exact Nat.le_of_not_lt hi
def iRng1 (ev : EvE) : EvI := fun ρ => match ev ρ with
  | some (.int n, ρ1) => if decide (-(2 ^ 62) ≤ n ∧ n < 2 ^ 62) = true then some (rgL 0 n.toNat, ρ1) else none
  | _ => none
theorem si_rng1 {tg : Expr} (B : Bi X.mg) (ha : SX X O false a ea) (hg : Gl X "range" := by rfl) (hs : starEach [a] X.env = [(false, eval a X.env)] := by rfl) (hs2 : starEach [a] X.env = (false, eval a X.env) :: starEach [] X.env := by rfl) : SI X O tg (.Call (.Name "range" p) [a] [] pos) (iRng1 ea) :=
  (pi_range1 hg B.range (pa_cons ha pa_nil hs2) hs).wk fun σ H R ⟨g, h, ρ, items, ρ', k, e, q⟩ => by
    unfold iRng1 at e
    split at e
    · rename_i n ρ1 e1
      obtain ⟨e2, e3⟩ := ite_inv e
      cases e3
      obtain ⟨b1, b2⟩ := of_decide_eq_true (p := -(2 ^ 62) ≤ n ∧ n < 2 ^ 62) e2
      refine ⟨g, h, ρ, _, _, k, e1, fun v H1 h1 k1 l1 r1 => ?_⟩
      have r1 : Rep X.K h1 (.int n) v := r1
      cases r1
      exact ⟨n, rfl, b1, b2, q _ H1 h1 k1 l1 itr_ok⟩
    · cases e
def iRng2 (ea eb : EvE) : EvI := fun ρ => match ea ρ with
  | some (.int m, ρ1) => (match eb ρ1 with
    | some (.int n, ρ2) => if decide (-(2 ^ 62) ≤ m ∧ m < 2 ^ 62 ∧ -(2 ^ 62) ≤ n ∧ n < 2 ^ 62) = true then some (rgL m (n - m).toNat, ρ2) else none
    | _ => none)
  | _ => none
theorem si_rng2 {tg : Expr} (B : Bi X.mg) (ha : SX X O false a ea) (hb : SX X O false b eb) (hg : Gl X "range" := by rfl) (hs : starEach [a, b] X.env = [(false, eval a X.env), (false, eval b X.env)] := by rfl) (hs2 : starEach [b] X.env = [(false, eval b X.env)] := by rfl)
    (hs3 : starEach [a, b] X.env = (false, eval a X.env) :: starEach [b] X.env := by rfl) (hs4 : starEach [b] X.env = (false, eval b X.env) :: starEach [] X.env := by rfl) : SI X O tg (.Call (.Name "range" p) [a, b] [] pos) (iRng2 ea eb) :=
  (pi_range2 hg B.range (pa_cons ha (pa_cons hb pa_nil hs4) hs3) hs hs2).wk fun σ H R ⟨g, h, ρ, items, ρ', k, e, q⟩ => by
    unfold iRng2 at e
    split at e
    · rename_i m ρ1 e1
      split at e
      · rename_i n ρ2 e4
        obtain ⟨e2, e3⟩ := ite_inv e
        cases e3
        have bb := of_decide_eq_true (p := -(2 ^ 62) ≤ m ∧ m < 2 ^ 62 ∧ -(2 ^ 62) ≤ n ∧ n < 2 ^ 62) e2
        refine ⟨g, h, ρ, _, _, k, e1, fun v H1 h1 k1 l1 r1 => ⟨g, h1, ρ1, _, _, k1, e4, fun w H2 h2 k2 l2 r2 => ?_⟩⟩
        have r1 : Rep X.K h1 (.int m) v := r1
        cases r1
        have r2 : Rep X.K h2 (.int n) w := r2
        cases r2
        exact ⟨m, n, rfl, bb, q _ H2 h2 k2 (l1.trans l2) itr_ok⟩
      · cases e
    · cases e
/-- range(a, b, c), c > 0 -/
def rgC (lo c : Int) (n : Nat) : List PV := (List.range n).map fun (i : Nat) => PV.int (lo + i * c)
theorem itc_ok {K : Frg} {g0 h0 : Hp} {lo c : Int} {n : Nat} : ItOk K O g0 h0 (Itc lo c n) (rgC lo c n) := fun i H g h ρ σ hi0 k l lg => by
  unfold rgC
  rw [List.getElem?_map]
  by_cases hi : i < n
  · rw [List.getElem?_range hi]
    refine ⟨hi, fun v H3 y => ?_⟩
    obtain ⟨e1, e2⟩ := y
    subst e1 e2
    exact ⟨h, k, .refl _, .int _⟩
  · rw [List.getElem?_eq_none (by rw [List.length_range]; omega)]
    exact Nat.le_of_not_lt hi
def iRng3 (ea eb ec : EvE) : EvI := fun ρ => match ea ρ with
  | some (.int m, ρ1) => (match eb ρ1 with
    | some (.int n, ρ2) => (match ec ρ2 with
      | some (.int c, ρ3) => if (decide (c ≠ 0 ∧ c.natAbs < 1073741824) && Builtin.Range.small m n c) = true then some (rgC m c (Builtin.Range.rangeSize m n c).toNat, ρ3) else none
      | _ => none)
    | _ => none)
  | _ => none
theorem rangeSize_nn (a b c : Int) (hc : c ≠ 0) : 0 ≤ Builtin.Range.rangeSize a b c := by
  unfold Builtin.Range.rangeSize
  split
  · split
    · have : 0 ≤ (b - a - 1) / c := Int.ediv_nonneg (by omega) (by omega)
      omega
    · exact Int.le_refl 0
  · split
    · have : 0 ≤ (a - b - 1) / (-c) := Int.ediv_nonneg (by omega) (by omega)
      omega
    · exact Int.le_refl 0
theorem si_rng3 {tg : Expr} (B : Bi X.mg) (ha : SX X O false a ea) (hb : SX X O false b eb) (hc : SX X O false c ec) (hg : Gl X "range" := by rfl)
    (hs1 : starEach [a, b, c] X.env = (false, eval a X.env) :: starEach [b, c] X.env := by rfl) (hs2 : starEach [b, c] X.env = (false, eval b X.env) :: starEach [c] X.env := by rfl) (hs3 : starEach [c] X.env = (false, eval c X.env) :: starEach [] X.env := by rfl)
    (hp : ∀ ta, PA X [a, b, c] ta → PI X tg (.Call (.Name "range" p) [a, b, c] [] pos) (L2.iRng3 ta) := by intro _ ha; exact pi_range3 (by assumption) (by assumption) ha) : SI X O tg (.Call (.Name "range" p) [a, b, c] [] pos) (iRng3 ea eb ec) :=
  (hp _ (pa_cons ha (pa_cons hb (pa_cons hc pa_nil hs3) hs2) hs1)).wk fun σ H R ⟨g, h, ρ, items, ρ', k, e, q⟩ => by
    unfold iRng3 at e
    split at e
    · rename_i m ρ1 e1
      split at e
      · rename_i n ρ2 e4
        split at e
        · rename_i cc ρ3 e5
          obtain ⟨e2, e3⟩ := ite_inv e
          cases e3
          rw [Bool.and_eq_true] at e2
          obtain ⟨b1, b2⟩ := of_decide_eq_true (p := cc ≠ 0 ∧ cc.natAbs < 1073741824) e2.1
          refine ⟨g, h, ρ, _, _, k, e1, fun v H1 h1 k1 l1 r1 => ⟨g, h1, ρ1, _, _, k1, e4, fun w H2 h2 k2 l2 r2 => ⟨g, h2, ρ2, _, _, k2, e5, fun u H3 h3 k3 l3 r3 => ?_⟩⟩⟩
          have r1 : Rep X.K h1 (.int m) v := r1
          cases r1
          have r2 : Rep X.K h2 (.int n) w := r2
          cases r2
          have r3 : Rep X.K h3 (.int cc) u := r3
          cases r3
          refine ⟨m, n, cc, _, rfl, ⟨b1, b2, e2.2, ?_⟩, q _ H3 h3 k3 ((l1.trans l2).trans l3) itc_ok⟩
          rw [Int.toNat_of_nonneg (rangeSize_nn _ _ _ b1)]
        · cases e
      · cases e
    · cases e

/-! ### for -/
def forgetAll : List Nat → Env → Env
  | [], ρ => ρ
  | i :: is, ρ => (forgetAll is ρ).set i none
theorem Ok.forgetAll {K : Frg} {g h : Hp} {ρ : Env} {σ : L2.St} {H : Hp} (k : Ok K O g h ρ σ H) : ∀ is, Ok K O g h (PL.forgetAll is ρ) σ H
  | [] => k
  | i :: is => (Ok.forgetAll k is).forget i
def forL (f : PV → EvS) : List PV → EvS
  | [], ρ => some (.nx, ρ)
  | x :: xs, ρ => match f x ρ with
    | some (.nx, ρ1) => forL f xs ρ1
    | r => r
/-- one turn -/
def turn (eg : EvG) (x : EvS) (fg : List Nat) (v : PV) : EvS := fun ρ => (eg v ρ).bind fun ρ1 => match x ρ1 with
  | some (.nx, ρ2) => some (.nx, forgetAll fg ρ2)
  | r => r
theorem for_core {K : Frg} {vs fg : List Nat} {eg : EvG} {G : TG} {tb : TS} (hG : ∀ v σ H Q, rdG K O vs eg v σ H Q → G v σ H Q) (hb : ∀ D σ H, rdS K O L fr x1 D σ H → tb D σ H) (ha : apart vs L = true)
    {D : Ends} {g h : Hp} {ρ : Env} {σ : L2.St} {H : Hp} {J : It} {items : List PV} {f : Fl} {ρ' : Env} (k : Ok K O g h ρ σ H) (it : ItOk K O g h J items) (e : forL (turn eg x1 fg) items ρ = some (f, ρ')) (q : Goal K O L fr g h σ D ρ' f) :
    ∃ W : Nat → Nat → L2.St → Hp → Prop, (∃ m, W 0 m σ H) ∧ ∀ i m σ H, W i m σ H →
      (J.stop i H ∧ D.nx σ H) ∨ (J.go i H ∧ ∃ N : L2.St → Hp → Prop, (∀ σ' H', N σ' H' → ∃ m', m' < m ∧ W (i + 1) m' σ' H') ∧ ∀ x H', J.yld i H x H' → G x σ H' fun σ2 H2 => tb { D with nx := N, ct := N, bk := D.nx } σ2 H2) := by
  refine ⟨fun i m σ1 H1 => (m = items.length - i ∧ i ≤ items.length) ∧ ∃ h1 ρ1, Ok K O g h1 ρ1 σ1 H1 ∧ Le h h1 ∧ (∀ j ∈ L, σ1[j]? = σ[j]?) ∧ forL (turn eg x1 fg) (items.drop i) ρ1 = some (f, ρ'), ⟨_, ⟨rfl, Nat.zero_le _⟩, h, ρ, k, .refl _, fun _ _ => rfl, e⟩, ?_⟩
  rintro i m σ1 H1 ⟨⟨rfl, hile⟩, h1, ρ1, k1, l1, s1, e1⟩
  have at1 := it i H1 g h1 ρ1 σ1 hile k1 l1 (.refl _)
  cases ei : items[i]? with
  | none =>
    rw [ei] at at1
    have hd : items.drop i = [] := List.drop_eq_nil_of_le (List.getElem?_eq_none_iff.mp ei)
    rw [hd] at e1
    cases e1
    exact .inl ⟨at1, q σ1 H1 h1 k1 l1 s1⟩
  | some x =>
    rw [ei] at at1
    obtain ⟨hlt, hx⟩ := List.getElem?_eq_some_iff.mp ei
    have hd : items.drop i = x :: items.drop (i + 1) := by
      rw [List.drop_eq_getElem_cons hlt, hx]
    rw [hd] at e1
    refine .inr ⟨at1.1, fun σ3 H3 => ∃ h3 ρ3, Ok K O g h3 ρ3 σ3 H3 ∧ Le h h3 ∧ (∀ j ∈ L, σ3[j]? = σ[j]?) ∧ forL (turn eg x1 fg) (items.drop (i + 1)) ρ3 = some (f, ρ'), fun σ3 H3 ⟨h3, ρ3, k3, l3, s3, e3⟩ => ⟨items.length - (i + 1), by omega, ⟨rfl, hlt⟩, h3, ρ3, k3, l3, s3, e3⟩, fun v H2 y => ?_⟩
    obtain ⟨h2, k2, l2, r2⟩ := at1.2 v H2 y
    unfold forL at e1
    split at e1
    · rename_i ρ3 e3
      obtain ⟨ρ4, e4, e5⟩ := bind_inv e3
      split at e5
      · rename_i ρ5 e6
        cases e5
        refine hG _ _ _ _ ⟨g, h2, ρ1, x, ρ4, k2, r2, e4, fun σ4 H4 h4 k4 l4 a4 => hb _ _ _ ⟨g, h4, ρ4, .nx, ρ5, k4, e6, fun σ5 H5 h5 k5 l5 s5 => ⟨h5, _, k5.forgetAll fg, ((l1.trans l2).trans l4).trans l5, fun j hj => ?_, e1⟩⟩⟩
        rw [s5 j hj, a4.2 j (apart_ok ha j hj), s1 j hj]
      · rename_i hr
        exact absurd e5 (hr ρ3)
    · rename_i hr
      obtain ⟨ρ4, e4, e5⟩ := bind_inv e1
      split at e5
      · rename_i ρ5 e6
        cases e5
        exact absurd e1 (hr _)
      · rename_i hr2
        refine hG _ _ _ _ ⟨g, h2, ρ1, x, ρ4, k2, r2, e4, fun σ4 H4 h4 k4 l4 a4 => hb _ _ _ ⟨g, h4, ρ4, f, ρ', k4, e5, ?_⟩⟩
        cases f with
        | nx => exact absurd e5 (hr2 ρ')
        | rt pv => exact q.from ((l1.trans l2).trans l4) fun j hj => by rw [a4.2 j (apart_ok ha j hj), s1 j hj]
def sFor (ei : EvI) (eg : EvG) (x : EvS) (fg : List Nat) : EvS := fun ρ => (ei ρ).bind fun p => forL (turn eg x fg) p.1 p.2
theorem s_for {tg iter : Expr} {vs : List Nat} (fg : List Nat) {ei : EvI} {eg : EvG} (hi : SI X O tg iter ei) (hG : SG X O vs tg eg) (hb : SSs X O L fr sts x1) (ha : apart vs L = true := by rfl) (hp : PassesOwn (model X.prog X.w) X.A X.env X.xe := by exact PassesOwn.never) (hc : X.calm = true := by rfl)
    (hs : ∀ x, foldedSetIterable iter X.env x = pure x := by intro _; rfl) : SS X O L fr (.For tg iter sts [] pos) (sFor ei eg x1 fg) := (ps_for hp hc hi hG hb hs).wk fun D σ H ⟨g, h, ρ, f, ρ', k, e, q⟩ => by
  obtain ⟨⟨items, ρ1⟩, e1, e2⟩ := bind_inv e
  exact ⟨g, h, ρ, items, ρ1, k, e1, fun J H1 h1 k1 l1 it => for_core (fun _ _ _ _ z => z) (fun _ _ _ z => z) ha k1 it e2 (q.from l1 fun _ _ => rfl)⟩
/-- over a list of one's own, which the body does not touch -/
def rdIO (K : Frg) (O : List Nat) (i : Nat) (mk : List PV → List PV) : TI := fun σ H R => ∃ g h ρ xs a vs, Ok K O g h ρ σ H ∧ σ[i]? = some (some (.ref a)) ∧ g a = some (.lst vs) ∧ RepL K h xs vs ∧ ∀ J H' h', Ok K O g h' ρ σ H' → Le h h' → ItOk K O g h' J (mk xs) → R J H'
abbrev SIO (X : Cx) (O : List Nat) (i : Nat) (tg iter : Expr) (mk : List PV → List PV) : Prop := PI X tg iter (rdIO X.K O i mk)
theorem sio_list {tg : Expr} (i : Nat) {x : Str} (hN : X.N[i]? = some x := by rfl) (hv : Vis X.env.scope x := by first | exact Or.inl rfl | exact Or.inr (Or.inl rfl) | exact Or.inr (Or.inr rfl)) (hd : (x == ("__debug__" : Str)) = false := by decide) (hcd : (x == ("__classdict__" : Str)) = false := by decide) :
    SIO X O i tg (.Name x pos) id := (pi_list (pe_var hN hv hd hcd)).wk fun σ H R ⟨g, h, ρ, xs, a, vs, k, e1, e2, r, q⟩ =>
  ⟨_, e1, a, rfl, ⟨vs, .inl (.inl (k.gsub _ _ e2))⟩, q _ H h k (.refl _) (itl_ok (fun g' h' ρ σ H k' _ lg => .inl (.inl (k'.gsub _ _ (lg _ _ e2)))) r)⟩
def sForO (i : Nat) (mk : List PV → List PV) (eg : EvG) (x : EvS) (fg : List Nat) : EvS := fun ρ => (lstAt ρ i).bind fun xs => match forL (turn eg x fg) (mk xs) (ρ.set i none) with
  | some (.nx, ρ1) => some (.nx, ρ1.set i (some (.lst xs)))
  | some (.rt v, ρ1) => some (.rt v, ρ1)
  | none => none
theorem s_forO {tg iter : Expr} {vs : List Nat} (i : Nat) (fg : List Nat) {mk : List PV → List PV} {eg : EvG} (hi : SIO X O i tg iter mk) (hG : SG X O vs tg eg) (hb : SSs X O (i :: L) fr sts x1) (ho : i ∈ O := by decide) (ha : apart vs (i :: L) = true := by rfl) (hp : PassesOwn (model X.prog X.w) X.A X.env X.xe := by exact PassesOwn.never) (hc : X.calm = true := by rfl)
    (hs : ∀ x, foldedSetIterable iter X.env x = pure x := by intro _; rfl) : SS X O L fr (.For tg iter sts [] pos) (sForO i mk eg x1 fg) := (ps_for hp hc hi hG hb hs).wk fun D σ H ⟨g, h, ρ, f, ρ', k, e, q⟩ => by
  obtain ⟨xs, e1, e2⟩ := bind_inv e
  obtain ⟨xs', a, vs', f1, f2, f3, f4, f5, f6, kp⟩ := k.protect ho (lstAt_inv e1)
  cases f1
  refine ⟨_, h, _, xs, a, vs', kp, f2, upd_same, f4, fun J H1 h1 k1 l1 it => ?_⟩
  have hb' : ∀ D σ H, rdS X.K O (i :: L) fr x1 D σ H → rdS X.K O (i :: L) fr x1 D σ H := fun _ _ _ z => z
  split at e2
  · rename_i ρ1 e3
    cases e2
    refine for_core (L := i :: L) (fun _ _ _ _ z => z) hb' ha k1 it e3 (fun σ2 H2 h2 k2 l2 s2 => ?_)
    have e4 : σ2[i]? = some (some (.ref a)) := by rw [s2 i List.mem_cons_self, f2]
    exact q σ2 H2 h2 (k2.unprotect ho f6 e4 (f4.le (l1.trans l2))) (l1.trans l2) fun j hj => s2 j (List.mem_cons_of_mem _ hj)
  · rename_i v ρ1 e3
    cases e2
    refine for_core (L := i :: L) (fun _ _ _ _ z => z) hb' ha k1 it e3 (fun σ2 u H2 h2 k2 l2 s2 r2 => ?_)
    obtain ⟨k3, n3, e5, n1⟩ := k2.release f6
    refine q σ2 u H2 h2 k3 (l1.trans l2) (fun j hj => s2 j (List.mem_cons_of_mem _ hj)) ?_
    unfold RetOk at r2 ⊢
    split
    · rename_i hf
      rw [if_pos hf] at r2
      obtain ⟨ys, b, ws, g1, g2, g3, g4, g5, g6, g7⟩ := r2
      refine ⟨ys, b, ws, g1, g2, g3, g4, g5, ?_, g7⟩
      by_cases z : b = a
      · rw [z]
        exact f6
      · rw [upd_ne z] at g6
        exact g6
    · rename_i hf
      rw [if_neg hf] at r2
      exact r2
  · cases e2
end
end PL

/-! PL8: enumerate and zip of lists and tuples in any mix -/
namespace PL
open PySem PySem.Spec PyProof.Rows L2

/-- a list or (t) a tuple, and its iterator -/
def SqS (K : Frg) (t : Bool) (H : Hp) (a : Addr) (xs : List V) : Prop := if t = true then SqT K H a xs else SqL K H a xs
def SeqIs (t : Bool) (h : Heap) (a : Addr) (its : Array Value) : Prop := if t = true then h.IsTuple a its else h.IsList a its
def ItrIs (t : Bool) (h : Heap) (it a : Addr) (i : Nat) : Prop := if t = true then h.IsTupleIter it a i else h.IsListIter it a i
def itrO (t : Bool) (a : Addr) : Obj := { cls := .type (if t = true then "tuple_iterator" else "list_iterator"), data := .fields #[.ref a, .int 0 0] }
theorem Inv.src {X : Cx} {pins : List (Addr × Obj)} {σ : L2.St} {H : Hp} {s : Shared} {t : Bool} {a : Addr} {xs : List V} (I : L2.Inv X pins σ H s) (h : SqS X.K t H a xs) : ∃ its : List Value, Vals xs its ∧ SeqIs t s.heap a its.toArray ∧ a < s.heap.objs.size := by
  cases t with
  | true =>
    obtain ⟨its, r, p, _⟩ := I.tuple (show SqT X.K H a xs from h)
    exact ⟨its, r, (show s.heap.IsTuple a its.toArray from p), p.lt⟩
  | false =>
    obtain ⟨its, r, p, _⟩ := I.list (show SqL X.K H a xs from h)
    exact ⟨its, r, (show s.heap.IsList a its.toArray from p.isList), p.lt⟩
theorem Inv.src_inj {X : Cx} {pins : List (Addr × Obj)} {σ : L2.St} {H : Hp} {s : Shared} {t : Bool} {a : Addr} {xs ys : List V} (I : L2.Inv X pins σ H s) (h : SqS X.K t H a xs) (h' : SqS X.K t H a ys) : xs = ys := by
  cases t with
  | true => exact I.tuple_inj (show SqT X.K H a xs from h) h'
  | false => exact I.list_inj (show SqL X.K H a xs from h) h'
theorem draws_src {prog : Program} {w : World} {A : Around} (hh : A.handled = none) (t : Bool) (it a : Addr) (hne : a ≠ it) (its : Array Value) :
    Draws prog w A it [it, a] its.size (fun i v => its[i]? = some v) (fun i h => ItrIs t h it a i ∧ SeqIs t h a its) := by
  cases t with
  | true => exact Draws.tuple hh it a hne its
  | false => exact Draws.list hh it a hne its
theorem begins_src (t : Bool) (a : Addr) (its : Array Value) : Begins (.ref a) (itrO t a) fun h => SeqIs t h a its := by
  cases t with
  | true => exact begins_tuple a its
  | false => exact begins_list a its
theorem itrIs_new {t : Bool} {h : Heap} {it a : Addr} (e : h.get? it = some (itrO t a)) : ItrIs t h it a 0 := by
  cases t with
  | true => exact ⟨_, e, rfl, rfl⟩
  | false => exact ⟨_, e, rfl, rfl⟩
theorem ItrIs.at {t : Bool} {h h' : Heap} {it a : Addr} {i : Nat} (x : ItrIs t h it a i) (k : ∀ o, h.get? it = some o → h'.get? it = some o) : ItrIs t h' it a i := by
  cases t with
  | true => exact Heap.IsTupleIter.at (show h.IsTupleIter it a i from x) k
  | false => exact Heap.IsListIter.at (show h.IsListIter it a i from x) k
theorem ItrIs.obj {t : Bool} {h : Heap} {it a : Addr} {i : Nat} (x : ItrIs t h it a i) : ∃ o, h.get? it = some o ∧ ∀ v, o.data ≠ .cell v := by
  cases t with
  | true =>
    obtain ⟨o, e, c, d⟩ := (show h.IsTupleIter it a i from x)
    exact ⟨o, e, fun v z => by rw [d] at z; cases z⟩
  | false =>
    obtain ⟨o, e, c, d⟩ := (show h.IsListIter it a i from x)
    exact ⟨o, e, fun v z => by rw [d] at z; cases z⟩

/-! ### enumerate -/
theorem meets_enumerate_new1 {v : Value} {o : Obj} {H : Heap → Prop} (B : Begins v o H) :
    Meets (Builtin.«enumerate.__new__» ⟨[.type "enumerate", v], []⟩) (fun _ R s => H s.heap ∧
      R (.ok (.ret (.ref (s.heap.push o).objs.size))) { s with heap := (s.heap.push o).push { cls := .type "enumerate", data := .fields #[.none, .bool false, .ref s.heap.objs.size, rawInt 0, .none, .none] } }) :=
  .of_wp fun prog w A R s h => by
    obtain ⟨hp, g, d, tk, os⟩ := s; obtain ⟨h1, h⟩ := h
    have hsub := sub_enumerate
    have q1 : ∀ {A' : Around} {E : Value → Shared → Prop} {Q : Value → Shared → Prop}, Q (.ref hp.objs.size) ⟨hp.push o, g, d, tk, os⟩ → wpAny (model prog w) A' (pyIter v) Q E ⟨hp, g, d, tk, os⟩ :=
      fun q => B.iter prog w _ _ ⟨hp, g, d, tk, os⟩ _ h1 q
    wp_walk using q1
    refine wpAny_stack_any fun st => wpAny_pure ?_
    split
    · rename_i c _ _ _ _ _
      cases (c == Value.type "enumerate")
      · wp_walk using q1
        exact ⟨_, rfl, h⟩
      · wp_walk using q1
        exact ⟨_, rfl, h⟩
    · wp_walk using q1
      exact ⟨_, rfl, h⟩
theorem enum_begins1 {prog : Program} {w : World} {A : Around} {E : Value → Shared → Prop} {s : Shared} {v : Value} {o : Obj} {H : Heap → Prop} {Q : Value → Shared → Prop} (B : Begins v o H) (h1 : H s.heap)
    (h : ∀ h', IsEnum h' (s.heap.objs.size + 1) s.heap.objs.size 0 .none → h'.get? s.heap.objs.size = some o → h'.objs.size = s.heap.objs.size + 2 →
      (∀ b o, s.heap.get? b = some o → h'.get? b = some o) → Q (.ref (s.heap.objs.size + 1)) { s with heap := h' }) :
    wpAny (model prog w) A (call (.type "enumerate") [v]) Q E s := by
  refine callType_new F.called_enumerate (by decide) (F.typeCall_enumerate_1 _) (F.newCall_enumerate_1 _) (fun obj => F.args_object_init_2 obj _) F.entry_enumerate_new
    (meets_enumerate_new1 B) ⟨h1, ?_⟩
  have hz : (s.heap.push o).objs.size = s.heap.objs.size + 1 := Heap.size_push ..
  show _ ∧ _
  rw [hz]
  have he : IsEnum ((s.heap.push o).push { cls := .type "enumerate", data := .fields #[.none, .bool false, .ref s.heap.objs.size, rawInt 0, .none, .none] }) (s.heap.objs.size + 1) s.heap.objs.size 0 .none := by
    have := Heap.get?_push_size (s.heap.push o) (o := { cls := .type "enumerate", data := .fields #[.none, .bool false, .ref s.heap.objs.size, rawInt 0, .none, .none] }) rfl
    rw [hz] at this; exact this
  refine ⟨⟨_, he, rfl⟩, h _ he (Heap.get?_push_of_some _ (Heap.get?_push_size _ B.free)) (by rw [Heap.size_push, hz]) fun b o x => Heap.get?_push_of_some _ (Heap.get?_push_of_some _ x)⟩
def IteA (K : Frg) (t : Bool) (a : Addr) : It :=
  ⟨fun i H => ∃ (xs : List V) (x : V), SqS K t H a xs ∧ xs[i]? = some x, fun i H v H' => ∃ T x, v = .ref T ∧ H T = none ∧ H' = upd H T (.tup [.int (i : Nat), x]) ∧ ∀ xs, SqS K t H a xs → xs[i]? = some x, fun i H => ∃ xs : List V, SqS K t H a xs ∧ xs.length = i⟩
theorem turn_enumA {P : Program} {w : World} {K : Frg} {elts : List Expr} {kk : Nat} {tpos : Pos} (t : Bool) (a e it : Addr) (hae : a ≠ e) (hai : a ≠ it) :
    Turn P w K (.Tuple elts kk tpos) (IteA K t a) [e, it] e (fun i h => (∃ old, IsEnum h e it ((i : Nat) : Int) old) ∧ ItrIs t h it a i ∧ e ≠ it) where
  mem := by simp
  obj := fun i h st b hb => by
    obtain ⟨⟨old, he⟩, hi, _⟩ := st
    have e' : b = e ∨ b = it := by simpa using hb
    rcases e' with z | z
    · rw [z]; exact ⟨_, he, fun v q => nomatch q⟩
    · rw [z]; exact hi.obj
  keep := fun i h h' st k => let ⟨⟨old, he⟩, hi, hne⟩ := st; ⟨⟨old, k e (by simp) _ he⟩, hi.at fun o q => k it (by simp) o q, hne⟩
  item := by
    intro X hP hw hK hc i pins s σ H E I hf st hg
    subst hP hw hK
    obtain ⟨⟨old, he⟩, hit, hne⟩ := st
    obtain ⟨xs, x, hq, hx⟩ := hg
    obtain ⟨its, rv, p, hal⟩ := Inv.src I hq
    obtain ⟨u, hu, ru⟩ := rv.get hx
    have hel : e < s.heap.objs.size := Heap.lt_size he
    have hil : it < s.heap.objs.size := by obtain ⟨_, q, _⟩ := hit.obj; exact Heap.lt_size q
    have hlt : i < its.toArray.size := by
      have := (List.getElem?_eq_some_iff.mp hu).1
      simpa using this
    refine wpAny_pyNext_enum_itemD (draws_src (A := X.A.in1) (I.ok.hd hc) t it a hai its.toArray) he ⟨hit, p⟩ hlt hne (by
      intro q
      have q' : e = it ∨ e = a := by simpa using q
      rcases q' with q' | q'
      · exact hne q'
      · exact hae q'.symm) fun u' h' tk hP' ho hst' hT hsz hk => ?_
    have eu : u' = u := by
      have h1 : its.toArray[i]? = some u := by simpa using hu
      rw [h1] at hP'
      exact (Option.some.inj hP').symm
    subst eu
    refine ⟨_, rfl, wpAny_letOwnedTupleGo_enum (s := { s with heap := h', toks := tk + 1 }) ho fun h'' he' sb => ?_⟩
    have hT2 : h''.get? s.heap.objs.size = some { cls := .type "tuple", data := .seq #[.int i tk, u'] } := (sb.2 _ (Nat.ne_of_gt hel)).trans hT
    have new : ObjOk X.prog X.w (upd H s.heap.objs.size (.tup [.int (i : Nat), x])) h'' s.heap.objs.size (.tup [.int (i : Nat), x]) :=
      ⟨by show 2 ≤ sizeLine; decide, [.int i tk, u'], .cons ⟨_, rfl⟩ (.cons ru .nil), ⟨_, hT2, rfl, _, rfl⟩⟩
    have I1 : L2.Inv X pins σ (upd H s.heap.objs.size (.tup [.int (i : Nat), x])) { s with heap := h'', toks := tk + 1 } :=
      I.turnedNew (ch := [e, it]) (fun b ob hb q => (sb.2 b (fun z => hb (by simp [z]))).trans (hk b ob (fun z => hb (by simp [z])) (fun z => hb (by simp [z])) q)) hf (Nat.le_refl _) new
    refine ⟨.ref s.heap.objs.size, _, I1, rfl, ⟨_, x, rfl, I.hok.fresh (Nat.le_refl _), rfl, fun ys hy => by rw [Inv.src_inj I hy hq]; exact hx⟩, ⟨⟨u', ?_⟩, hst'.1.at fun o q => (sb.2 it (Ne.symm hne)).trans q, hne⟩, fun b hb => ?_⟩
    · have e1 : ((i + 1 : Nat) : Int) = (i : Int) + 1 := by omega
      rw [e1]; exact he'
    · have hb' : b < s.heap.objs.size := by
        have e' : b = e ∨ b = it := by simpa using hb
        rcases e' with z | z
        · rw [z]; exact hel
        · rw [z]; exact hil
      rw [upd_ne (Nat.ne_of_lt hb')]
      exact (hf b hb).1
  done := by
    intro X hP hw hK hc i pins s σ H E I hf st hg
    subst hP hw hK
    obtain ⟨⟨old, he⟩, hit, hne⟩ := st
    obtain ⟨xs, hq, hx⟩ := hg
    obtain ⟨its, rv, p, hal⟩ := Inv.src I hq
    obtain ⟨f0, f1, f2, f3, f4, f5⟩ := hf it (by simp)
    have hl := rv.length
    have hi : i = its.toArray.size := by simp; omega
    subst hi
    exact wpAny_pyNext_enum_endD (draws_src (A := X.A.in1) (I.ok.hd hc) t it a hai its.toArray) he ⟨hit, p⟩ fun h' eb => ⟨rfl, I.turned (t' := s.toks) (fun b o hb q => eb b o hb q) f0 f1 f3 f4 f5⟩
  self := fun A i s Q E st h => let ⟨⟨_, he⟩, _⟩ := st; wpAny_pyIter_enum he h
def iEnumA (K : Frg) (te : TE) : TI := fun σ H R => te σ H fun v H1 => ∃ t a xs, v = .ref a ∧ SqS K t H1 a xs ∧ R (IteA K t a) H1
theorem pi_enumA {X : Cx} {e : Expr} {te : TE} {p pos tpos : Pos} {elts : List Expr} {kk : Nat} (hg : Gl X "enumerate") (hm : X.mg "enumerate" = none) (ha : PE X e te) (hs1 : starEach [e] X.env = (false, eval e X.env) :: starEach [] X.env) (hs : starEach [e] X.env = [(false, eval e X.env)]) :
    PI X (.Tuple elts kk tpos) (.Call (.Name "enumerate" p) [e] [] pos) (iEnumA X.K te) := by
  refine ⟨fun pins s σ H R I h => ?_⟩
  refine Call_ (ld_blt I hg hm boot_enumerate (PyProof.Rows.callWith_type1 (thn ((pa_cons ha pa_nil hs1).run pos pins s σ H (fun vs H1 => ∃ v, vs = [v] ∧ ∃ t a xs, v = .ref a ∧ SqS X.K t H1 a xs ∧ R (IteA X.K t a) H1) I (by
    have h' : te σ H fun v H1 => ∃ t a xs, v = .ref a ∧ SqS X.K t H1 a xs ∧ R (IteA X.K t a) H1 := h
    show te σ H fun x H1 => ∃ v, [x] = [v] ∧ _
    have : (fun (x : V) (H1 : Hp) => ∃ v, [x] = [v] ∧ ∃ t a xs, v = .ref a ∧ SqS X.K t H1 a xs ∧ R (IteA X.K t a) H1) = fun v H1 => ∃ t a xs, v = .ref a ∧ SqS X.K t H1 a xs ∧ R (IteA X.K t a) H1 := by
      funext x H1
      apply propext
      constructor
      · rintro ⟨v, e, r⟩
        cases e
        exact r
      · exact fun r => ⟨x, rfl, r⟩
    rw [this]
    exact h')) fun us s1 ⟨vs, H1, I1, r1, q1⟩ => ?_) hs rfl))
  obtain ⟨v, ev, t, a, xs, ex, hq, q⟩ := q1
  subst ev ex
  cases r1 with
  | cons r rr =>
    cases rr
    cases r
    obtain ⟨its, rv, p', hal⟩ := Inv.src I1 hq
    refine enum_begins1 (begins_src t a its.toArray) p' fun h' he hit hsz hk => wpAny_pyIter_enum he ?_
    have I2 : L2.Inv X pins σ H1 { s1 with heap := h' } := I1.kept (t' := s1.toks) hk
    refine ⟨s1.heap.objs.size + 1, [s1.heap.objs.size + 1, s1.heap.objs.size], _, _, H1, rfl, I2, turn_enumA t a (s1.heap.objs.size + 1) s1.heap.objs.size (Nat.ne_of_lt (Nat.lt_succ_of_lt hal)) (Nat.ne_of_lt hal), ⟨⟨.none, he⟩, itrIs_new hit, Nat.succ_ne_self _⟩, fun b hb => ?_, q⟩
    have e' : b = s1.heap.objs.size + 1 ∨ b = s1.heap.objs.size := by simpa using hb
    have hle : s1.heap.objs.size ≤ b := by
      rcases e' with z | z
      · rw [z]; exact Nat.le_add_right _ _
      · rw [z]; exact Nat.le_refl _
    exact I1.fpOk hle (I1.hok.fresh hle)
def enumP : Nat → List PV → List PV
  | _, [] => []
  | n, x :: r => .tup [.int (n : Nat), x] :: enumP (n + 1) r
theorem enumP_get : ∀ (xs : List PV) (n i : Nat), (enumP n xs)[i]? = (xs[i]?).map fun x => .tup [.int ((n + i : Nat) : Int), x]
  | [], n, i => by simp [enumP]
  | x :: r, n, 0 => by simp [enumP]
  | x :: r, n, i + 1 => by
    show (enumP (n + 1) r)[i]? = _
    rw [enumP_get r (n + 1) i]
    show _ = (r[i]?).map _
    rw [show n + 1 + i = n + (i + 1) by omega]
theorem enumP_length : ∀ (xs : List PV) (n : Nat), (enumP n xs).length = xs.length
  | [], _ => rfl
  | _ :: r, n => by simp [enumP, enumP_length r]
section
variable {K : Frg} {O : List Nat} {g0 h0 : Hp}
theorem SqS.le {t : Bool} {a : Addr} {vs : List V} {h h' : Hp} (l : Le h h') (s : SqS K t h a vs) : SqS K t h' a vs := by
  cases t with
  | true => exact l.sqT (show SqT K h a vs from s)
  | false => exact l.sqL (show SqL K h a vs from s)
theorem pair_new {g h : Hp} {ρ : Env} {σ : L2.St} {H : Hp} {T : Addr} {x y : PV} {v u : V} (k : Ok K O g h ρ σ H) (n : H T = none) (r1 : Rep K h x v) (r2 : Rep K h y u) : ∃ h3, Ok K O g h3 ρ σ (upd H T (.tup [v, u])) ∧ Le h h3 ∧ Rep K h3 (.tup [x, y]) (.ref T) := by
  obtain ⟨k2, l2⟩ := k.laid n (.tup [v, u])
  exact ⟨_, k2, l2, .tup (.inl (.inl upd_same)) (.cons (r1.le l2) (.cons (r2.le l2) .nil))⟩
theorem ite_ok {t : Bool} {a : Addr} {vs : List V} {xs : List PV} (s : ∀ g h ρ σ H, Ok K O g h ρ σ H → Le h0 h → Le g0 g → SqS K t H a vs) (inj : ∀ H ws, SqS K t H a ws → SqS K t H a vs → ws = vs ∨ True) (r : RepL K h0 xs vs) : ItOk K O g0 h0 (IteA K t a) (enumP 0 xs) := fun i H g h ρ σ hi0 k l lg => by
  have sq := s g h ρ σ H k l lg
  rw [enumP_get, Nat.zero_add]
  cases e : xs[i]? with
  | some x =>
    obtain ⟨v, e1, r1⟩ := r.get e
    refine ⟨⟨vs, v, sq, e1⟩, fun w H3 y => ?_⟩
    obtain ⟨T, x', e2, n, e3, y⟩ := y
    subst e2 e3
    have := y vs sq
    rw [e1] at this
    cases this
    exact pair_new k n (.int _) (r1.le l)
  | none =>
    refine ⟨vs, sq, ?_⟩
    rw [enumP_length] at hi0
    have h1 := List.getElem?_eq_none_iff.mp e
    rw [← r.length]
    omega
end
section
variable {X : Cx} {O : List Nat} {e a b : Expr} {ev ea eb : EvE} {p pos : Pos}
def iEnum (ev : EvE) : EvI := fun ρ => (ev ρ).bind fun p => (items? p.1).map fun xs => (enumP 0 xs, p.2)
theorem si_enum {elts : List Expr} {kk : Nat} {tpos : Pos} (B : Bi X.mg) (ha : SX X O false e ev) (hg : Gl X "enumerate" := by rfl) (hs1 : starEach [e] X.env = (false, eval e X.env) :: starEach [] X.env := by rfl) (hs : starEach [e] X.env = [(false, eval e X.env)] := by rfl) :
    SI X O (.Tuple elts kk tpos) (.Call (.Name "enumerate" p) [e] [] pos) (iEnum ev) := (pi_enumA hg B.enumerate ha hs1 hs).wk fun σ H R ⟨g, h, ρ, items, ρ', k, e, q⟩ => by
  obtain ⟨⟨x, ρ1⟩, e2, e3⟩ := bind_inv e
  obtain ⟨xs, e4, e5⟩ := map_inv e3
  cases e5
  refine ⟨g, h, ρ, x, _, k, e2, fun v H1 h1 k1 l1 r1 => ?_⟩
  have r1 : Rep X.K h1 x v := r1
  cases r1 with
  | tup s t =>
    cases e4
    exact ⟨true, _, _, rfl, k1.sub.sqT s, q _ H1 h1 k1 l1 (ite_ok (fun g h ρ σ H k l _ => k.sub.sqT (l.sqT s)) (fun _ _ _ _ => .inr trivial) t)⟩
  | lst s t =>
    cases e4
    exact ⟨false, _, _, rfl, .inl (.inl (k1.sub _ _ s)), q _ H1 h1 k1 l1 (ite_ok (fun g h ρ σ H k l _ => .inl (.inl (k.sub _ _ (l _ _ s)))) (fun _ _ _ _ => .inr trivial) t)⟩
  | _ => cases e4
/-- enumerate of a list of one's own -/
theorem sio_enum {elts : List Expr} {kk : Nat} {tpos px : Pos} (B : Bi X.mg) (i : Nat) {x : Str} (hN : X.N[i]? = some x := by rfl) (hv : Vis X.env.scope x := by first | exact Or.inl rfl | exact Or.inr (Or.inl rfl) | exact Or.inr (Or.inr rfl)) (hd : (x == ("__debug__" : Str)) = false := by decide) (hcd : (x == ("__classdict__" : Str)) = false := by decide)
    (hg : Gl X "enumerate" := by rfl) (hs1 : starEach [.Name x px] X.env = (false, eval (.Name x px) X.env) :: starEach [] X.env := by rfl) (hs : starEach [.Name x px] X.env = [(false, eval (.Name x px) X.env)] := by rfl) :
    SIO X O i (.Tuple elts kk tpos) (.Call (.Name "enumerate" p) [.Name x px] [] pos) (enumP 0) := (pi_enumA hg B.enumerate (pe_var hN hv hd hcd) hs1 hs).wk fun σ H R ⟨g, h, ρ, xs, a, vs, k, e1, e2, r, q⟩ =>
  ⟨_, e1, false, a, vs, rfl, .inl (.inl (k.gsub _ _ e2)), q _ H h k (.refl _) (ite_ok (fun g' h' ρ σ H k' _ lg => .inl (.inl (k'.gsub _ _ (lg _ _ e2)))) (fun _ _ _ _ => .inr trivial) r)⟩
end
end PL

/-! PL9: zip of two, comprehensions, calls of defs, a def's promise -/
namespace PL
open PySem PySem.Spec PyProof.Rows L2

def ItzA (K : Frg) (t1 t2 : Bool) (a b : Addr) : It :=
  ⟨fun i H => ∃ (xs ys : List V) (x y : V), SqS K t1 H a xs ∧ SqS K t2 H b ys ∧ xs[i]? = some x ∧ ys[i]? = some y,
    fun i H v H' => ∃ T x y, v = .ref T ∧ H T = none ∧ H' = upd H T (.tup [x, y]) ∧ (∀ xs, SqS K t1 H a xs → xs[i]? = some x) ∧ ∀ ys, SqS K t2 H b ys → ys[i]? = some y,
    fun i H => ∃ xs ys : List V, SqS K t1 H a xs ∧ SqS K t2 H b ys ∧ i ≤ xs.length ∧ i ≤ ys.length ∧ (i = xs.length ∨ i = ys.length)⟩
theorem turn_zipA {P : Program} {w : World} {K : Frg} {elts : List Expr} {kk : Nat} {tpos : Pos} {t1 t2 : Bool} {a b z TI TO i1 i2 : Addr} (S : ZipSep2 z TI TO i1 i2 [i1, a] [i2, b]) (h1a : a ≠ i1) (h2b : b ≠ i2) :
    Turn P w K (.Tuple elts kk tpos) (ItzA K t1 t2 a b) [z, TI, TO, i1, i2] z (fun i h => IsZip h z TI TO .none ∧ IsTupOf2 h TI (.ref i1) (.ref i2) ∧ (∃ x y, IsTupOf2 h TO x y) ∧ ItrIs t1 h i1 a i ∧ ItrIs t2 h i2 b i) where
  mem := by simp
  obj := fun i h st c hc => by
    obtain ⟨hz, hTI, ⟨x, y, hTO⟩, h1, h2⟩ := st
    have e' : c = z ∨ c = TI ∨ c = TO ∨ c = i1 ∨ c = i2 := by simpa using hc
    rcases e' with q | q | q | q | q
    · rw [q]; exact ⟨_, hz, fun v q => nomatch q⟩
    · rw [q]; exact ⟨_, hTI, fun v q => nomatch q⟩
    · rw [q]; exact ⟨_, hTO, fun v q => nomatch q⟩
    · rw [q]; exact h1.obj
    · rw [q]; exact h2.obj
  keep := fun i h h' st k => by
    obtain ⟨hz, hTI, ⟨x, y, hTO⟩, h1, h2⟩ := st
    exact ⟨k z (by simp) _ hz, k TI (by simp) _ hTI, ⟨x, y, k TO (by simp) _ hTO⟩, h1.at fun o q => k i1 (by simp) o q, h2.at fun o q => k i2 (by simp) o q⟩
  item := by
    intro X hP hw hK hc i pins s σ H E I hf st hg
    subst hP hw hK
    obtain ⟨hz, hTI, ⟨x0, y0, hTO⟩, h1, h2⟩ := st
    obtain ⟨xs, ys, x, y, hqx, hqy, hx, hy⟩ := hg
    obtain ⟨its, rv, p, _⟩ := Inv.src I hqx
    obtain ⟨its2, rv2, p2, _⟩ := Inv.src I hqy
    obtain ⟨u, hu, ru⟩ := rv.get hx
    obtain ⟨u2, hu2, ru2⟩ := rv2.get hy
    have hzl : z < s.heap.objs.size := Heap.lt_size hz
    have hlt : i < its.toArray.size := by
      have := (List.getElem?_eq_some_iff.mp hu).1
      simpa using this
    have hlt2 : i < its2.toArray.size := by
      have := (List.getElem?_eq_some_iff.mp hu2).1
      simpa using this
    refine wpAny_pyNext_zipD2_item S (draws_src (A := X.A.in1) (I.ok.hd hc) t1 i1 a h1a its.toArray) (draws_src (A := X.A.in1) (I.ok.hd hc) t2 i2 b h2b its2.toArray) hz hTI hTO ⟨h1, p⟩ ⟨h2, p2⟩ hlt hlt2 fun u' u2' h' tk q1 q2 z' TO' h1' h2' hT hsz hk => ?_
    have eu : u' = u := by
      have h1 : its.toArray[i]? = some u := by simpa using hu
      rw [h1] at q1
      exact (Option.some.inj q1).symm
    have eu2 : u2' = u2 := by
      have h1 : its2.toArray[i]? = some u2 := by simpa using hu2
      rw [h1] at q2
      exact (Option.some.inj q2).symm
    subst eu eu2
    refine ⟨_, rfl, wpAny_letOwnedTupleGo_zip (s := { s with heap := h', toks := tk }) z' fun h'' z'' sb => ?_⟩
    have hT2 : h''.get? s.heap.objs.size = some { cls := .type "tuple", data := .seq #[u', u2'] } := (sb.2 _ (Nat.ne_of_gt hzl)).trans hT
    have new : ObjOk X.prog X.w (upd H s.heap.objs.size (.tup [x, y])) h'' s.heap.objs.size (.tup [x, y]) :=
      ⟨by show 2 ≤ sizeLine; decide, [u', u2'], .cons ru (.cons ru2 .nil), ⟨_, hT2, rfl, _, rfl⟩⟩
    have I1 : L2.Inv X pins σ (upd H s.heap.objs.size (.tup [x, y])) { s with heap := h'', toks := tk } :=
      I.turnedNew (t' := tk) (ch := [z, TI, TO, i1, i2]) (fun c o hb q => (sb.2 c (fun q' => hb (by simp [q']))).trans (hk c o (fun q' => hb (by simp [q'])) (fun q' => hb (by simp [q'])) (fun q' => hb (by simp [q'])) (fun q' => hb (by simp [q'])) q)) hf (Nat.le_refl _) new
    refine ⟨.ref s.heap.objs.size, _, I1, rfl, ⟨_, x, y, rfl, I.hok.fresh (Nat.le_refl _), rfl, fun l hl => by rw [Inv.src_inj I hl hqx]; exact hx, fun l hl => by rw [Inv.src_inj I hl hqy]; exact hy⟩, ⟨z'', ?_, ⟨u', u2', ?_⟩, ?_, ?_⟩, fun c hcm => ?_⟩
    · exact (sb.2 _ S.TIz).trans (hk _ _ S.TIz S.TITO S.TIi1 S.TIi2 hTI)
    · exact (sb.2 _ S.TOz).trans TO'
    · exact h1'.1.at fun o q => (sb.2 _ S.zi1.symm).trans q
    · exact h2'.1.at fun o q => (sb.2 _ S.zi2.symm).trans q
    · have hlt : c < s.heap.objs.size := by
        have e' : c = z ∨ c = TI ∨ c = TO ∨ c = i1 ∨ c = i2 := by simpa using hcm
        rcases e' with q | q | q | q | q
        · rw [q]; exact hzl
        · rw [q]; exact Heap.lt_size hTI
        · rw [q]; exact Heap.lt_size hTO
        · rw [q]; obtain ⟨_, e1, _⟩ := h1.obj; exact Heap.lt_size e1
        · rw [q]; obtain ⟨_, e2, _⟩ := h2.obj; exact Heap.lt_size e2
      rw [upd_ne (Nat.ne_of_lt hlt)]
      exact (hf c hcm).1
  done := by
    intro X hP hw hK hc i pins s σ H E I hf st hg
    subst hP hw hK
    obtain ⟨hz, hTI, ⟨x0, y0, hTO⟩, h1, h2⟩ := st
    obtain ⟨xs, ys, hqx, hqy, hl1, hl2, hend⟩ := hg
    obtain ⟨its, rv, p, _⟩ := Inv.src I hqx
    obtain ⟨its2, rv2, p2, _⟩ := Inv.src I hqy
    have l1 := rv.length
    have l2 := rv2.length
    refine wpAny_pyNext_zipD2_end S (draws_src (A := X.A.in1) (I.ok.hd hc) t1 i1 a h1a its.toArray) (draws_src (A := X.A.in1) (I.ok.hd hc) t2 i2 b h2b its2.toArray) hz hTI hTO ⟨h1, p⟩ ⟨h2, p2⟩ (by simp; omega) (by simp; omega) ?_ fun h' tk hk => ⟨rfl, I.turnedL (t' := tk) (ch := [z, TI, TO, i1, i2]) (fun c o hb q =>
      hk c o (fun q' => hb (by simp [q'])) (fun q' => hb (by simp [q'])) (fun q' => hb (by simp [q'])) (fun q' => hb (by simp [q'])) q) hf⟩
    rcases hend with q | q
    · exact .inl (by simp; omega)
    · exact .inr (by simp; omega)
  self := fun A i s Q E st h => wpAny_pyIter_zip st.1 h
def iZipA2 (K : Frg) (ta : TA) : TI := fun σ H R => ta σ H fun vs H1 => ∃ t1 t2 a b xs ys, vs = [.ref a, .ref b] ∧ SqS K t1 H1 a xs ∧ SqS K t2 H1 b ys ∧ R (ItzA K t1 t2 a b) H1
theorem pi_zipA2 {X : Cx} {e e2 : Expr} {ta : TA} {p pos tpos : Pos} {elts : List Expr} {kk : Nat} (hg : Gl X "zip") (hm : X.mg "zip" = none) (ha : PA X [e, e2] ta)
    (hs : starEach [e, e2] X.env = (false, eval e X.env) :: starEach [e2] X.env) (hpl : (backTo pos (starEach [e2] X.env)).any (·.1) = false) :
    PI X (.Tuple elts kk tpos) (.Call (.Name "zip" p) [e, e2] [] pos) (iZipA2 X.K ta) := by
  refine ⟨fun pins s σ H R I h => ?_⟩
  refine Call_ (ld_blt I hg hm PyProof.Rows.boot_zip (PyProof.Rows.callWith_type1 (thn (ha.run pos pins s σ H _ I h) fun us s1 ⟨vs, H1, I1, r1, q1⟩ => ?_) hs hpl))
  obtain ⟨t1, t2, a, b, xs, ys, ex, hqx, hqy, q⟩ := q1
  subst ex
  cases r1 with
  | cons r rr =>
    cases rr with
    | cons r' rr =>
      cases rr
      cases r
      cases r'
      obtain ⟨its, rv, p1, la⟩ := Inv.src I1 hqx
      obtain ⟨its2, rv2, p2, lb⟩ := Inv.src I1 hqy
      refine zip_begins2 (begins_src t1 a its.toArray) (begins_src t2 b its2.toArray) p1 p2 fun h' hz hTI hTO h1 h2 hsz hk => wpAny_pyIter_zip hz ?_
      have I2 : L2.Inv X pins σ H1 { s1 with heap := h' } := I1.kept (t' := s1.toks) hk
      refine ⟨s1.heap.objs.size + 4, [s1.heap.objs.size + 4, s1.heap.objs.size + 2, s1.heap.objs.size + 3, s1.heap.objs.size, s1.heap.objs.size + 1], _, _, H1, rfl, I2,
        turn_zipA (zip_sep2 (fun c hc => by rw [List.mem_singleton.mp hc]; exact la) (fun c hc => by rw [List.mem_singleton.mp hc]; exact lb)) (Nat.ne_of_lt la) (Nat.ne_of_lt (Nat.lt_succ_of_lt lb)), ⟨hz, hTI, ⟨_, _, hTO⟩, itrIs_new h1, itrIs_new h2⟩, fun c hcm => ?_, q⟩
      have e' : c = s1.heap.objs.size + 4 ∨ c = s1.heap.objs.size + 2 ∨ c = s1.heap.objs.size + 3 ∨ c = s1.heap.objs.size ∨ c = s1.heap.objs.size + 1 := by simpa using hcm
      have hle : s1.heap.objs.size ≤ c := by
        rcases e' with z | z | z | z | z
        · rw [z]; exact Nat.le_add_right _ _
        · rw [z]; exact Nat.le_add_right _ _
        · rw [z]; exact Nat.le_add_right _ _
        · rw [z]; exact Nat.le_refl _
        · rw [z]; exact Nat.le_add_right _ _
      exact I1.fpOk hle (I1.hok.fresh hle)
def zipP (xs ys : List PV) : List PV := List.zipWith (fun x y => PV.tup [x, y]) xs ys
section
variable {K : Frg} {O : List Nat} {g0 h0 : Hp}
theorem itz_ok {t1 t2 : Bool} {a b : Addr} {vs ws : List V} {xs ys : List PV} (s1 : ∀ g h ρ σ H, Ok K O g h ρ σ H → Le h0 h → Le g0 g → SqS K t1 H a vs) (s2 : ∀ g h ρ σ H, Ok K O g h ρ σ H → Le h0 h → Le g0 g → SqS K t2 H b ws) (r1 : RepL K h0 xs vs) (r2 : RepL K h0 ys ws) :
    ItOk K O g0 h0 (ItzA K t1 t2 a b) (zipP xs ys) := fun i H g h ρ σ hi0 k l lg => by
  have sq1 := s1 g h ρ σ H k l lg
  have sq2 := s2 g h ρ σ H k l lg
  unfold zipP at hi0 ⊢
  rw [List.length_zipWith] at hi0
  rw [List.getElem?_zipWith]
  cases e : xs[i]? with
  | some x =>
    obtain ⟨v, f1, q1⟩ := r1.get e
    cases e' : ys[i]? with
    | some y =>
      obtain ⟨u, f2, q2⟩ := r2.get e'
      refine ⟨⟨vs, ws, v, u, sq1, sq2, f1, f2⟩, fun w H3 yy => ?_⟩
      obtain ⟨T, x', y', e2, n, e3, y1, y2⟩ := yy
      subst e2 e3
      have a1 := y1 vs sq1
      have a2 := y2 ws sq2
      rw [f1] at a1
      rw [f2] at a2
      cases a1
      cases a2
      exact pair_new k n (q1.le l) (q2.le l)
    | none =>
      have h1 := List.getElem?_eq_none_iff.mp e'
      have h2 := (List.getElem?_eq_some_iff.mp e).1
      have l1 := r1.length
      have l2 := r2.length
      exact ⟨vs, ws, sq1, sq2, by omega, by omega, .inr (by omega)⟩
  | none =>
    have h1 := List.getElem?_eq_none_iff.mp e
    have l1 := r1.length
    have l2 := r2.length
    exact ⟨vs, ws, sq1, sq2, by omega, by omega, .inl (by omega)⟩
end
/-- a shared list or tuple, as something walked -/
theorem rep_src {K : Frg} {h : Hp} {x : PV} {v : V} {xs : List PV} (r : Rep K h x v) (e : items? x = some xs) : ∃ t a vs, v = .ref a ∧ SqS K t h a vs ∧ RepL K h xs vs := by
  cases r with
  | tup s t =>
    cases e
    exact ⟨true, _, _, rfl, s, t⟩
  | lst s t =>
    cases e
    exact ⟨false, _, _, rfl, .inl (.inl s), t⟩
  | _ => cases e
section
variable {X : Cx} {O L : List Nat} {e a b c : Expr} {fr : Bool} {ev ea eb ec : EvE} {p pos : Pos} {tv : EvT} {es : List Expr}
def iZip2 (ea eb : EvE) : EvI := fun ρ => (ea ρ).bind fun p => (eb p.2).bind fun q => (items? p.1).bind fun xs => (items? q.1).map fun ys => (zipP xs ys, q.2)
theorem si_zip2 {elts : List Expr} {kk : Nat} {tpos : Pos} (B : Bi X.mg) (ha : SX X O false a ea) (hb : SX X O false b eb) (hg : Gl X "zip" := by rfl) (hs : starEach [a, b] X.env = (false, eval a X.env) :: starEach [b] X.env := by rfl) (hs2 : starEach [b] X.env = (false, eval b X.env) :: starEach [] X.env := by rfl)
    (hpl : (backTo pos (starEach [b] X.env)).any (·.1) = false := by rfl) : SI X O (.Tuple elts kk tpos) (.Call (.Name "zip" p) [a, b] [] pos) (iZip2 ea eb) := (pi_zipA2 hg B.zip (pa_cons ha (pa_cons hb pa_nil hs2) hs) hs hpl).wk fun σ H R ⟨g, h, ρ, items, ρ', k, e, q⟩ => by
  obtain ⟨⟨x, ρ1⟩, e2, e⟩ := bind_inv e
  obtain ⟨⟨y, ρ2⟩, e3, e⟩ := bind_inv e
  obtain ⟨xs, e4, e⟩ := bind_inv e
  obtain ⟨ys, e5, e6⟩ := map_inv e
  cases e6
  refine ⟨g, h, ρ, x, ρ1, k, e2, fun v H1 h1 k1 l1 r1 => ⟨g, h1, ρ1, y, _, k1, e3, fun u H2 h2 k2 l2 r2 => ?_⟩⟩
  obtain ⟨t1, a1, vs, rfl, s1, q1⟩ := rep_src (Rep.le l2 r1) e4
  obtain ⟨t2, a2, ws, rfl, s2, q2⟩ := rep_src r2 e5
  exact ⟨t1, t2, a1, a2, vs, ws, rfl, s1.le k2.sub, s2.le k2.sub, q _ H2 h2 k2 (l1.trans l2) (itz_ok (fun g h ρ σ H k l _ => (s1.le l).le k.sub) (fun g h ρ σ H k l _ => (s2.le l).le k.sub) q1 q2)⟩

/-! ### comprehensions -/
def wipeE : List Nat → Env → Env
  | [], ρ => ρ
  | v :: vs, ρ => (wipeE vs ρ).set v none
def backE (ρ0 : Env) : List Nat → Env → Env
  | [], ρ => ρ
  | v :: vs, ρ => (backE ρ0 vs ρ).set v ((ρ0[v]?).getD none)
theorem wipeE_out {ρ : Env} {i : Nat} : ∀ {vs : List Nat}, i ∉ vs → (wipeE vs ρ)[i]? = ρ[i]?
  | [], _ => rfl
  | v :: vs, h => by
    show ((wipeE vs ρ).set v none)[i]? = _
    rw [List.getElem?_set_ne (fun z => h (by rw [z]; exact List.mem_cons_self))]
    exact wipeE_out fun z => h (List.mem_cons_of_mem _ z)
theorem wipeE_in {ρ : Env} {i : Nat} {q : PV} : ∀ {vs : List Nat}, i ∈ vs → (wipeE vs ρ)[i]? ≠ some (some q)
  | v :: vs, h => by
    show ((wipeE vs ρ).set v none)[i]? ≠ _
    by_cases z : v = i
    · subst z
      rw [List.getElem?_set]
      simp
    · rw [List.getElem?_set_ne z]
      exact wipeE_in ((List.mem_cons.mp h).resolve_left fun q => z q.symm)
theorem wipeE_length {ρ : Env} : ∀ {vs : List Nat}, (wipeE vs ρ).length = ρ.length
  | [] => rfl
  | v :: vs => by
    show ((wipeE vs ρ).set v none).length = _
    rw [List.length_set]
    exact wipeE_length
theorem backE_out {ρ0 ρ : Env} {i : Nat} : ∀ {vs : List Nat}, i ∉ vs → (backE ρ0 vs ρ)[i]? = ρ[i]?
  | [], _ => rfl
  | v :: vs, h => by
    show ((backE ρ0 vs ρ).set v _)[i]? = _
    rw [List.getElem?_set_ne (fun z => h (by rw [z]; exact List.mem_cons_self))]
    exact backE_out fun z => h (List.mem_cons_of_mem _ z)
theorem backE_length {ρ0 ρ : Env} : ∀ {vs : List Nat}, (backE ρ0 vs ρ).length = ρ.length
  | [] => rfl
  | v :: vs => by
    show ((backE ρ0 vs ρ).set v _).length = _
    rw [List.length_set]
    exact backE_length
theorem backE_in {ρ0 ρ : Env} {i : Nat} {q : PV} : ∀ {vs : List Nat}, i ∈ vs → (backE ρ0 vs ρ)[i]? = some (some q) → ρ0[i]? = some (some q)
  | v :: vs, h, e => by
    have e : ((backE ρ0 vs ρ).set v ((ρ0[v]?).getD none))[i]? = some (some q) := e
    by_cases z : v = i
    · subst z
      rw [List.getElem?_set] at e
      simp at e
      cases e0 : ρ0[v]? with
      | none => rw [e0] at e; simp at e
      | some o =>
        rw [e0] at e
        simp at e
        rw [e.2]
    · rw [List.getElem?_set_ne z] at e
      exact backE_in ((List.mem_cons.mp h).resolve_left fun q => z q.symm) e
section
variable {K : Frg} {g h : Hp} {ρ : Env} {σ : L2.St} {H : Hp}
theorem Ok.wiped (k : Ok K O g h ρ σ H) (vs : List Nat) : Ok K O g h (wipeE vs ρ) (wipe σ vs) H where
  sub := k.sub
  gsub := k.gsub
  dis := k.dis
  len := by rw [wipeE_length, wipe_length]; exact k.len
  sh := fun i q hi e => by
    by_cases z : i ∈ vs
    · exact absurd e (wipeE_in z)
    · rw [wipeE_out z] at e
      rw [L2.wipe_out z]
      exact k.sh i q hi e
  own := fun i q hi e => by
    by_cases z : i ∈ vs
    · exact absurd e (wipeE_in z)
    · rw [wipeE_out z] at e
      rw [L2.wipe_out z]
      exact k.own i q hi e
  inj := fun i j x y ad hi hj e1 e2 f1 f2 => by
    have zi : i ∉ vs := fun z => wipeE_in z e1
    have zj : j ∉ vs := fun z => wipeE_in z e2
    rw [wipeE_out zi] at e1
    rw [wipeE_out zj] at e2
    rw [L2.wipe_out zi] at f1
    rw [L2.wipe_out zj] at f2
    exact k.inj i j x y ad hi hj e1 e2 f1 f2
theorem Ok.back {g0 h0 : Hp} {ρ0 : Env} {H0 : Hp} {vs : List Nat} (ha : apart vs O = true) (k0 : Ok K O g0 h0 ρ0 σ H0) (l : Le h0 h) (k : Ok K O g h ρ (wipe σ vs) H) : Ok K O g h (backE ρ0 vs ρ) σ H where
  sub := k.sub
  gsub := k.gsub
  dis := k.dis
  len := by rw [backE_length, k.len, wipe_length]
  sh := fun i q hi e => by
    by_cases z : i ∈ vs
    · obtain ⟨v, e1, r⟩ := k0.sh i q hi (backE_in z e)
      exact ⟨v, e1, r.le l⟩
    · rw [backE_out z] at e
      obtain ⟨v, e1, r⟩ := k.sh i q hi e
      rw [L2.wipe_out z] at e1
      exact ⟨v, e1, r⟩
  own := fun i q hi e => by
    have z : i ∉ vs := apart_ok ha i hi
    rw [backE_out z] at e
    obtain ⟨xs, ad, ws, f1, f2, f3⟩ := k.own i q hi e
    rw [L2.wipe_out z] at f2
    exact ⟨xs, ad, ws, f1, f2, f3⟩
  inj := fun i j x y ad hi hj e1 e2 f1 f2 => by
    have zi : i ∉ vs := apart_ok ha i hi
    have zj : j ∉ vs := apart_ok ha j hj
    rw [backE_out zi] at e1
    rw [backE_out zj] at e2
    exact k.inj i j x y ad hi hj e1 e2 (by rw [L2.wipe_out zi]; exact f1) (by rw [L2.wipe_out zj]; exact f2)
/-- what is put aside is changed -/
theorem Ok.upG {D : Addr} {as bs : List V} (k : Ok K O (upd g D (.lst as)) h ρ σ H) : Ok K O (upd g D (.lst bs)) h ρ σ (upd H D (.lst bs)) := by
  have hD : h D = none := k.dis _ _ upd_same
  have nown : ∀ i q, i ∈ O → ρ[i]? = some (some q) → σ[i]? ≠ some (some (.ref D)) := fun i q hi ei z => by
    obtain ⟨xs', b, ws', f1, f2, f3, f4, f5, f6⟩ := k.own i q hi ei
    rw [z] at f2
    cases f2
    rw [upd_same] at f6
    cases f6
  refine ⟨fun a o e => ?_, fun a o e => ?_, fun a o e => ?_, k.len, k.sh, fun i q hi e => ?_, k.inj⟩
  · rw [upd_ne (ne_of_none e hD)]
    exact k.sub _ _ e
  · by_cases z : a = D
    · rw [z, upd_same] at e
      rw [z, upd_same]
      exact e
    · rw [upd_ne z] at e
      rw [upd_ne z]
      exact k.gsub _ _ (by rw [upd_ne z]; exact e)
  · by_cases z : a = D
    · rw [z]
      exact hD
    · rw [upd_ne z] at e
      exact k.dis _ _ (by rw [upd_ne z]; exact e)
  · obtain ⟨xs', b, ws', f1, f2, f3, f4, f5, f6⟩ := k.own i q hi e
    have z : b ≠ D := fun z => nown i q hi e (by rw [f2, z])
    rw [upd_ne z] at f6
    exact ⟨xs', b, ws', f1, f2, by rw [upd_ne z]; exact f3, f4, f5, by rw [upd_ne z]; exact f6⟩
end
def lcL (eg : EvG) (tv : EvT) (ev : EvE) (vs : List Nat) : List PV → Env → Option (List PV × Env)
  | [], ρ => some ([], ρ)
  | x :: xs, ρ => (eg x ρ).bind fun ρ1 => (tv ρ1).bind fun p => if p.1 = true then (ev p.2).bind fun q => (lcL eg tv ev vs xs (wipeE vs q.2)).map fun r => (q.1 :: r.1, r.2) else lcL eg tv ev vs xs (wipeE vs p.2)
def eLc (ei : EvI) (eg : EvG) (tv : EvT) (ev : EvE) (vs : List Nat) : EvE := fun ρ => (ei ρ).bind fun p => if fits p.1.length = true then (lcL eg tv ev vs p.1 (wipeE vs p.2)).map fun r => (.lst r.1, backE p.2 vs r.2) else none
def tYes' : EvT := fun ρ => some (true, ρ)
theorem lc_wk {K : Frg} {ei : EvI} {eg : EvG} {vs : List Nat} {wi : TI} {G : TG} {tt : TT} {te : TE} (hap : apart vs O = true) (hi : ∀ σ H R, rdI K O ei σ H R → wi σ H R) (hG : ∀ v σ H Q, rdG K O vs eg v σ H Q → G v σ H Q) (ht : ∀ σ H Q, rdT K O tv σ H Q → tt σ H Q) (he : ∀ σ H Q, rdX K O false ev σ H Q → te σ H Q) :
    ∀ σ H Q, rdX K O true (eLc ei eg tv ev vs) σ H Q → tLc wi G tt te vs σ H Q := fun σ H Q ⟨g, h, ρ, pv, ρ', k, e, q⟩ => by
  obtain ⟨⟨items, ρ1⟩, e1, e⟩ := bind_inv e
  obtain ⟨e2, e⟩ := ite_inv e
  obtain ⟨⟨out, ρ2⟩, e3, e4⟩ := map_inv e
  cases e4
  refine hi _ _ _ ⟨g, h, ρ, items, ρ1, k, e1, fun J H1 h1 k1 l1 it D nD => ?_⟩
  have gD : g D = none := by
    cases z : g D with
    | none => rfl
    | some o => rw [k1.gsub _ _ z] at nD; cases nD
  have start : Ok K O (upd g D (.lst [])) h1 (wipeE vs ρ1) (wipe σ vs) (upd H1 D (.lst [])) := by
    obtain ⟨k2, f⟩ := k1.fresh nD (RepL.nil (K := K) (h := h1))
    obtain ⟨_, _, _, f1, f2, f3, _, f4, f5, f6⟩ := f
    cases f1
    cases f2
    exact (k2.hold upd_same f4 f6).wiped vs
  refine ⟨fun i m H2 => (m = items.length - i ∧ i ≤ items.length) ∧ ∃ h2 ρ2' acc av rest, Ok K O (upd g D (.lst av)) h2 ρ2' (wipe σ vs) H2 ∧ RepL K h2 acc av ∧ acc.length ≤ i ∧ Le h1 h2 ∧ lcL eg tv ev vs (items.drop i) ρ2' = some (rest, ρ2) ∧ acc ++ rest = out,
    ⟨_, ⟨rfl, Nat.zero_le _⟩, h1, _, [], [], out, start, .nil, Nat.le_refl _, .refl _, e3, rfl⟩, ?_⟩
  rintro i m H2 ⟨⟨rfl, hile⟩, h2, ρ2', acc, av, rest, k2, ra, hal, l2, e5, e6⟩
  have at1 := it i H2 _ h2 ρ2' (wipe σ vs) hile k2 l2 (upd_le gD)
  cases ei' : items[i]? with
  | none =>
    rw [ei'] at at1
    have hd : items.drop i = [] := List.drop_eq_nil_of_le (List.getElem?_eq_none_iff.mp ei')
    rw [hd] at e5
    cases e5
    refine .inl ⟨at1, ?_⟩
    rw [List.append_nil] at e6
    subst e6
    obtain ⟨k3, n3, f3, n1⟩ := k2.release gD
    have k4 := Ok.back hap k1 l2 k3
    refine q _ H2 h2 k4 (l1.trans l2) ⟨acc, D, av, rfl, rfl, f3, ra, n1, gD, fun j x hj ej z => ?_⟩
    have zj : j ∉ vs := apart_ok hap j hj
    rw [backE_out zj] at ej
    exact n3 j x hj ej (by rw [L2.wipe_out zj]; exact z)
  | some x =>
    rw [ei'] at at1
    obtain ⟨hlt, hx⟩ := List.getElem?_eq_some_iff.mp ei'
    have hd : items.drop i = x :: items.drop (i + 1) := by
      rw [List.drop_eq_getElem_cons hlt, hx]
    rw [hd] at e5
    refine .inr ⟨at1.1, fun H3 => ∃ h2 ρ2' acc av rest, Ok K O (upd g D (.lst av)) h2 ρ2' (wipe σ vs) H3 ∧ RepL K h2 acc av ∧ acc.length ≤ i + 1 ∧ Le h1 h2 ∧ lcL eg tv ev vs (items.drop (i + 1)) ρ2' = some (rest, ρ2) ∧ acc ++ rest = out, fun H3 w => ⟨items.length - (i + 1), by omega, ⟨rfl, hlt⟩, w⟩, fun v H3 y => ?_⟩
    obtain ⟨h3, k3, l3, r3⟩ := at1.2 v H3 y
    obtain ⟨ρ3, f1, f2⟩ := bind_inv e5
    obtain ⟨⟨bb, ρ4⟩, f3, f4⟩ := bind_inv f2
    refine hG _ _ _ _ ⟨_, h3, ρ2', x, ρ3, k3, r3, f1, fun σ4 H4 h4 k4 l4 a4 => ⟨?_, ht _ _ _ ⟨_, h4, ρ3, bb, ρ4, k4, f3, fun H5 h5 k5 l5 => ?_⟩⟩⟩
    · have w1 := a4.wipe
      rw [w1]
      exact Ag.wipe (vs := vs) (σ := σ) (σ' := wipe σ vs) ⟨wipe_length _ _, fun j hj => L2.wipe_out hj⟩
    · have ws : wipe σ4 vs = wipe σ vs := by
        rw [a4.wipe]
        exact Ag.wipe (vs := vs) (σ := σ) (σ' := wipe σ vs) ⟨wipe_length _ _, fun j hj => L2.wipe_out hj⟩
      have lz := fits_ok e2
      have lz : items.length ≤ sizeLine := lz
      cases bb with
      | true =>
        refine iteT (he _ _ _ ?_)
        have f4 : ((ev ρ4).bind fun q => (lcL eg tv ev vs (items.drop (i + 1)) (wipeE vs q.2)).map fun r => (q.1 :: r.1, r.2)) = some (rest, ρ2) := f4
        obtain ⟨⟨w, ρ5⟩, f5, f6⟩ := bind_inv f4
        obtain ⟨⟨rest', ρ6⟩, f7, f8⟩ := map_inv f6
        cases f8
        refine ⟨_, h5, ρ4, w, ρ5, k5, f5, fun u H6 h6 k6 l6 r6 => ⟨av, k6.gsub _ _ upd_same, ?_, ?_⟩⟩
        · rw [← ra.length]
          omega
        · have k7 := (k6.wiped vs).upG (bs := av ++ [u])
          rw [ws] at k7
          refine ⟨h6, _, acc ++ [w], av ++ [u], rest', k7, ((((ra.le l3).le l4).le l5).le l6).append (.cons r6 .nil), ?_, (((l2.trans l3).trans l4).trans l5).trans l6, f7, ?_⟩
          · rw [List.length_append]
            show acc.length + 1 ≤ i + 1
            omega
          · rw [List.append_assoc]
            exact e6
      | false =>
        refine iteF ?_
        have f4 : lcL eg tv ev vs (items.drop (i + 1)) (wipeE vs ρ4) = some (rest, ρ2) := f4
        have k7 := k5.wiped vs
        rw [ws] at k7
        exact ⟨h5, _, acc, av, rest, k7, ((ra.le l3).le l4).le l5, by omega, ((l2.trans l3).trans l4).trans l5, f4, e6⟩
abbrev STs (X : Cx) (O : List Nat) (ifs : List Expr) (tv : EvT) : Prop := PTs X ifs (rdT X.K O tv)
theorem sts_nil : STs X O [] tYes' := ⟨fun pins s σ H Q I ⟨g, h, ρ, b, ρ', k, e, q⟩ => by
  cases e
  exact pts_nil.run pins s σ H Q I (q H h k (.refl _))⟩
theorem sts_one (h : ST X O c tv) : STs X O [c] tv := pts_one h
theorem s_lc {elt tg iter : Expr} {ifs : List Expr} {scope : Scope} {own : List (Str × Nat)} {ei : EvI} {eg : EvG} (hN : X.N.Nodup) (hi : SI X O tg iter ei) (ok : BlkOk X.N X.env.scope scope own)
    (hg : ∀ (s : Shared) (H : Hp) (C : Addr) (cl : List (Str × Addr)) (fp : List Addr), SG (X.blk s H scope (compEnvC scope cl C X.env) fp) O (own.map (·.2)) tg eg) (ht : ∀ (s : Shared) (H : Hp) (C : Addr) (cl : List (Str × Addr)) (fp : List Addr), STs (X.blk s H scope (compEnvC scope cl C X.env) fp) O ifs tv)
    (he : ∀ (s : Shared) (H : Hp) (C : Addr) (cl : List (Str × Addr)) (fp : List Addr), SX (X.blk s H scope (compEnvC scope cl C X.env) fp) O false elt ev) (hap : apart (own.map (·.2)) O = true := by rfl) (hc : X.calm = true := by rfl) (hs : ∀ x, foldedSetIterable iter X.env x = pure x := by intro _; rfl) :
    SX X O true (.ListComp elt [⟨tg, iter, ifs, 0⟩] scope pos) (eLc ei eg tv ev (own.map (·.2))) :=
  (pe_lc hc hN hi ok hg ht he hs).wk (lc_wk hap (fun _ _ _ z => z) (fun _ _ _ _ z => z) (fun _ _ _ z => z) fun _ _ _ z => z)
theorem s_setLc (i : Nat) {y : Str} {py : Pos} {elt tg iter : Expr} {ifs : List Expr} {scope : Scope} {own : List (Str × Nat)} {ei : EvI} {eg : EvG} {spos : Pos} (hN : X.N.Nodup) (hi : SI X O tg iter ei) (ok : BlkOk X.N X.env.scope scope own)
    (hg : ∀ (s : Shared) (H : Hp) (C : Addr) (cl : List (Str × Addr)) (fp : List Addr), SG (X.blk s H scope (compEnvC scope cl C X.env) fp) O (own.map (·.2)) tg eg) (ht : ∀ (s : Shared) (H : Hp) (C : Addr) (cl : List (Str × Addr)) (fp : List Addr), STs (X.blk s H scope (compEnvC scope cl C X.env) fp) O ifs tv)
    (he : ∀ (s : Shared) (H : Hp) (C : Addr) (cl : List (Str × Addr)) (fp : List Addr), SX (X.blk s H scope (compEnvC scope cl C X.env) fp) O false elt ev) (hap : apart (own.map (·.2)) O = true := by rfl) (hl : i ∉ L := by decide) (hy : X.N[i]? = some y := by rfl) (hyl : X.env.scope.names.lookup y = some .local := by rfl)
    (hsw : swapsWith (.ListComp elt [⟨tg, iter, ifs, 0⟩] scope pos) (some (.Name y py)) spos.line X.env = pure true := by exact sw_true rfl rfl rfl (by decide +kernel)) (hc : X.calm = true := by rfl) (hs : ∀ x, foldedSetIterable iter X.env x = pure x := by intro _; rfl) :
    SS X O L fr (.Assign [.Name y py] (.ListComp elt [⟨tg, iter, ifs, 0⟩] scope pos) spos) (sSet i (eLc ei eg tv ev (own.map (·.2)))) :=
  (ps_setLc hc hN hy hyl hsw hi ok hg ht he hs).wk fun D σ H z => by
    by_cases ho : i ∈ O
    · exact lc_wk hap (fun _ _ _ z => z) (fun _ _ _ _ z => z) (fun _ _ _ z => z) (fun _ _ _ z => z) σ H _ (setO_wk ho hl D σ H z)
    · obtain ⟨g, h, ρ, f, ρ', k, e, q⟩ := z
      obtain ⟨⟨x, ρ1⟩, e2, e3⟩ := map_inv e
      cases e3
      refine lc_wk hap (fun _ _ _ z => z) (fun _ _ _ _ z => z) (fun _ _ _ z => z) (fun _ _ _ z => z) σ H _ ⟨g, h, ρ, x, _, k, e2, fun v H' h' k' l r => ?_⟩
      obtain ⟨h2, k2, l2, r2⟩ := k'.share r
      exact q _ H' h2 (k2.setSh ho r2) (l.trans l2) (set_agree hl)
end
end PL

/-! PL10: what a def promises, its body, its call -/
namespace PL
open PySem PySem.Spec PyProof.Rows L2

/-- called with the values of ρ the def hands back what sem says; the lists at L are lent: they are no one else's, and stand as sem says behind the call -/
def spF (K : Frg) (L : List Nat) (fr : Bool) (n : Nat) (sem : EvE) : Sp := fun vs H Q _ => vs.length = n ∧ ∃ g h ρ r ρ', Ok K L g h ρ (vs.map some) H ∧ sem ρ = some (r, ρ') ∧
  ∀ v H' h', Ok K L g h' ρ' (vs.map some) H' → Le h h' → RetOk K L fr g h' ρ' (vs.map some) H' r v → Q v H'
def keep (L : List Nat) (n : Nat) (ρ : Env) : Env := (List.range n).map fun i => if L.contains i then (ρ[i]?).getD none else none
/-- a def's meaning: n parameters, m other names, its body -/
def semDef (n m : Nat) (L : List Nat) (fr : Bool) (body : EvS) : EvE := fun ρ => match body (ρ ++ List.replicate m none) with
  | some (.rt v, ρ1) => some (v, keep L n ρ1)
  | some (.nx, ρ1) => if fr = true then none else some (.non, keep L n ρ1)
  | none => none
section
variable {K : Frg} {O L : List Nat} {g h : Hp} {ρ : Env} {vs : List V} {H : Hp} {fr : Bool}
theorem keep_get {n i : Nat} {q : PV} (e : (keep L n ρ)[i]? = some (some q)) : i < n ∧ i ∈ L ∧ ρ[i]? = some (some q) := by
  unfold keep at e
  rw [List.getElem?_map] at e
  by_cases hi : i < n
  · rw [List.getElem?_range hi] at e
    have e : (if L.contains i then (ρ[i]?).getD none else none) = some q := Option.some.inj e
    split at e
    · rename_i hc
      refine ⟨hi, List.contains_iff_mem.mp hc, ?_⟩
      cases z : ρ[i]? with
      | none => rw [z] at e; cases e
      | some o => rw [z] at e; rw [← e]; rfl
    · cases e
  · rw [List.getElem?_eq_none (by rw [List.length_range]; omega)] at e
    cases e
theorem start_get {N : List Str} {vs : List V} {i : Nat} (hi : i < vs.length) : (L2.start N vs)[i]? = (vs.map some)[i]? := by
  unfold L2.start
  rw [List.getElem?_append_left (by simpa using hi)]
/-- at the entry -/
theorem Ok.enter {N : List Str} (k : Ok K L g h ρ (vs.map some) H) (hN : vs.length ≤ N.length) (hO : ∀ i ∈ O, i < vs.length → i ∈ L) (hL : ∀ i ∈ L, i ∈ O) : Ok K O g h (ρ ++ List.replicate (N.length - vs.length) none) (L2.start N vs) H := by
  have hl : ρ.length = vs.length := by
    have := k.len
    rw [List.length_map] at this
    exact this
  have get : ∀ {i : Nat} {q : PV}, (ρ ++ List.replicate (N.length - vs.length) none)[i]? = some (some q) → i < vs.length ∧ ρ[i]? = some (some q) := fun {i q} e => by
    by_cases hi : i < ρ.length
    · rw [List.getElem?_append_left hi] at e
      exact ⟨by omega, e⟩
    · rw [List.getElem?_append_right (by omega), List.getElem?_replicate] at e
      split at e <;> cases e
  refine ⟨k.sub, k.gsub, k.dis, ?_, fun i q hi e => ?_, fun i q hi e => ?_, fun i j x y ad hi hj e1 e2 f1 f2 => ?_⟩
  · unfold L2.start
    rw [List.length_append, List.length_append, List.length_map, List.length_replicate, List.length_replicate, hl]
  · obtain ⟨h1, h2⟩ := get e
    rw [start_get h1]
    exact k.sh i q (fun z => hi (hL i z)) h2
  · obtain ⟨h1, h2⟩ := get e
    rw [start_get h1]
    exact k.own i q (hO i hi h1) h2
  · obtain ⟨h1, h2⟩ := get e1
    obtain ⟨h3, h4⟩ := get e2
    rw [start_get h1] at f1
    rw [start_get h3] at f2
    exact k.inj i j x y ad (hO i hi h1) (hO j hj h3) h2 h4 f1 f2
/-- at the end -/
theorem Ok.leave {σ0 σ' : L2.St} {n : Nat} (k : Ok K O g h ρ σ' H) (hn : σ0.length = n) (hL : ∀ i ∈ L, i ∈ O) (ag : ∀ i ∈ L, σ'[i]? = σ0[i]?) : Ok K L g h (keep L n ρ) σ0 H := by
  refine ⟨k.sub, k.gsub, k.dis, ?_, fun i q hi e => ?_, fun i q hi e => ?_, fun i j x y ad hi hj e1 e2 f1 f2 => ?_⟩
  · unfold keep
    rw [List.length_map, List.length_range, hn]
  · exact absurd (keep_get e).2.1 hi
  · obtain ⟨_, _, h3⟩ := keep_get e
    rw [← ag i hi]
    exact k.own i q (hL i hi) h3
  · obtain ⟨_, _, h3⟩ := keep_get e1
    obtain ⟨_, _, h4⟩ := keep_get e2
    rw [← ag i hi] at f1
    rw [← ag j hj] at f2
    exact k.inj i j x y ad (hL i hi) (hL j hj) h3 h4 f1 f2
theorem RetOk.leave {σ0 σ' : L2.St} {n : Nat} {pv : PV} {v : V} (r : RetOk K O fr g h ρ σ' H pv v) (hL : ∀ i ∈ L, i ∈ O) (ag : ∀ i ∈ L, σ'[i]? = σ0[i]?) : RetOk K L fr g h (keep L n ρ) σ0 H pv v := by
  unfold RetOk at r ⊢
  split
  · rename_i hf
    rw [if_pos hf] at r
    obtain ⟨xs, a, ws, e1, e2, e3, e4, e5, e6, e7⟩ := r
    refine ⟨xs, a, ws, e1, e2, e3, e4, e5, e6, fun i q hi e z => ?_⟩
    obtain ⟨_, _, h3⟩ := keep_get e
    exact e7 i q (hL i hi) h3 (by rw [ag i hi]; exact z)
  · rename_i hf
    rw [if_neg hf] at r
    exact r
end
/-- the lists O of a def with n parameters of which those at L are lent -/
def lends (O L : List Nat) (n : Nat) : Bool := (O.all fun i => decide (n ≤ i) || L.contains i) && L.all fun i => O.contains i && decide (i < n)
theorem lends_ok {O L : List Nat} {n : Nat} (h : lends O L n = true) : (∀ i ∈ O, i < n → i ∈ L) ∧ (∀ i ∈ L, i ∈ O) ∧ ∀ i ∈ L, i < n := by
  unfold lends at h
  rw [Bool.and_eq_true, List.all_eq_true, List.all_eq_true] at h
  refine ⟨fun i hi hn => ?_, fun i hi => ?_, fun i hi => ?_⟩
  · have := h.1 i hi
    rw [Bool.or_eq_true] at this
    rcases this with q | q
    · exact absurd (of_decide_eq_true q) (by omega)
    · exact List.contains_iff_mem.mp q
  · have := h.2 i hi
    rw [Bool.and_eq_true] at this
    exact List.contains_iff_mem.mp this.1
  · have := h.2 i hi
    rw [Bool.and_eq_true] at this
    exact of_decide_eq_true this.2
/-- the context of a def's body -/
abbrev ctx (P : Program) (w : World) (K : Frg) (mg : Str → Option Value) (base : Heap) (N : List Str) (qual : Str) (sc : Scope) (f : Addr) (cdv : Value) (A : Around) (outer : List PySem.Env) (s : Shared) (H : Hp) (E : XK) : Cx :=
  (cxOf CX0 P w K mg base N qual sc f cdv A outer s H E).nox
theorem def_ok {P : Program} {w : World} {K : Frg} {mg : Str → Option Value} {base : Heap} {x qual : Str} {params : Arguments} {body : List Stmt} {sc : Scope} {f : Addr} {fd : FuncData} {N ps : List Str} {k m : Nat} {O L : List Nat} {fr : Bool} {ex : EvS}
    (F : FunD K x qual params body sc [] [] f fd) (S : FnScope N ps sc) (hm : m = N.length - ps.length) (hO : lends O L ps.length = true)
    (hb : ∀ (cdv : Value) (A : Around) (outer : List PySem.Env) (s : Shared) (H : Hp) (E : XK), Room k (A.deeper (envOfC qual sc s.heap.objs.size f cdv)) → SSs (ctx P w K mg base N qual sc f cdv A outer s H E) O L fr body ex) :
    FnOk P w K mg base CX0 (k + 1) f fd ps (spF K L fr ps.length (semDef ps.length m L fr ex)) := by
  obtain ⟨hO1, hL1, hL2⟩ := lends_ok hO
  refine F.ok S (fun vs H Q E h => h.1) fun cdv A outer s H vs Q E hr h => ⟨_, (hb cdv A outer s H E hr).nox, ?_⟩
  obtain ⟨hl, g, hh, ρ, r, ρ', k0, e, q⟩ := h
  have hpl : ps.length ≤ N.length := by
    have := congrArg List.length S.pre
    rw [List.length_take] at this
    omega
  have ke := k0.enter (N := N) (O := O) (by omega) (fun i hi hn => hO1 i hi (by omega)) hL1
  unfold semDef at e
  have em : m = N.length - vs.length := by omega
  rw [em] at e
  have ag0 : ∀ i ∈ L, (L2.start N vs)[i]? = (vs.map some)[i]? := fun i hi => start_get (by have := hL2 i hi; omega)
  split at e
  · rename_i v ρ1 e1
    cases e
    exact ⟨g, hh, _, _, ρ1, ke, e1, fun σ' u H' h' k' l ag ret => q u H' h' (k'.leave (by simp [hl]) hL1 fun i hi => (ag i hi).trans (ag0 i hi)) l (ret.leave hL1 fun i hi => (ag i hi).trans (ag0 i hi))⟩
  · rename_i ρ1 e1
    split at e
    · cases e
    · rename_i hf
      cases e
      refine ⟨g, hh, _, _, ρ1, ke, e1, fun σ' H' h' k' l ag => q .non H' h' (k'.leave (by simp [hl]) hL1 fun i hi => (ag i hi).trans (ag0 i hi)) l ?_⟩
      unfold RetOk
      rw [if_neg hf]
      exact .non
  · cases e

/-! ### a call -/
/-- a def of the module, by its name -/
structure Cal (P : Program) (w : World) (K : Frg) (mg : Str → Option Value) (base : Heap) (k : Nat) (x : Str) (n : Nat) (L : List Nat) (fr : Bool) (sem : EvE) : Prop where
  ex : ∃ (f : Addr) (fd : FuncData) (ps : List Str), ps.length = n ∧ FnOk P w K mg base CX0 k f fd ps (spF K L fr n sem) ∧ mg x = some (.ref f) ∧ PySem.W.keepIn K (.ref f) = true ∧ Binds K fd ps []
theorem cal_of {P : Program} {w : World} {K : Frg} {mg : Str → Option Value} {base : Heap} {x qual : Str} {params : Arguments} {body : List Stmt} {sc : Scope} {N ps : List Str} {k m : Nat} {O L : List Nat} {fr : Bool} {ex : EvS} {f : Addr}
    (F : ∃ fd, FunD K x qual params body sc [] [] f fd) (hg : mg x = some (.ref f)) (S : FnScope N ps sc) (hm : m = N.length - ps.length) (hO : lends O L ps.length = true)
    (hbd : ∀ (kV doc pm : Value) (an : Option Addr) (cdv ct : Value) (us : List Value), us.length = ps.length → bindArgs (PySem.W.fnOf x qual params body sc .none kV doc pm an cdv ct) ⟨us, []⟩ = pure (ps.zip us))
    (hb : ∀ (cdv : Value) (A : Around) (outer : List PySem.Env) (s : Shared) (H : Hp) (E : XK), Room k (A.deeper (envOfC qual sc s.heap.objs.size f cdv)) → SSs (ctx P w K mg base N qual sc f cdv A outer s H E) O L fr body ex) :
    Cal P w K mg base (k + 1) x ps.length L fr (semDef ps.length m L fr ex) := by
  obtain ⟨fd, F⟩ := F
  exact ⟨f, fd, ps, rfl, def_ok F S hm hO hb, hg, F.kp, F.bindsN hbd⟩
/-- arguments of which the one at slot i's name is lent -/
abbrev EvL := Env → Option (List (Option PV) × Env)
inductive ArgL (K : Frg) (h : Hp) (σ : L2.St) (i : Nat) : List (Option PV) → List V → Prop
  | nil : ArgL K h σ i [] []
  | sh {x : PV} {v : V} {xs : List (Option PV)} {vs : List V} (r : Rep K h x v) (t : ArgL K h σ i xs vs) : ArgL K h σ i (some x :: xs) (v :: vs)
  | le {a : Addr} {xs : List (Option PV)} {vs : List V} (e : σ[i]? = some (some (.ref a))) (t : ArgL K h σ i xs vs) : ArgL K h σ i (none :: xs) (.ref a :: vs)
def rdL (K : Frg) (O : List Nat) (i : Nat) (ea : EvL) : TA := fun σ H Q => ∃ g h ρ ps ρ', Ok K O g h ρ σ H ∧ ea ρ = some (ps, ρ') ∧
  ∀ vs H' h', Ok K O g h' ρ' σ H' → Le h h' → ArgL K h' σ i ps vs → Q vs H'
abbrev SL (X : Cx) (O : List Nat) (i : Nat) (es : List Expr) (ea : EvL) : Prop := PA X es (rdL X.K O i ea)
section
variable {X : Cx} {O L : List Nat} {e a b c : Expr} {fr : Bool} {ev ea eb ec : EvE} {p pos : Pos} {tv : EvT} {es : List Expr} {eas : EvA} {els : EvL}
def lNil : EvL := fun ρ => some ([], ρ)
def lSh (ea : EvE) (r : EvL) : EvL := fun ρ => (ea ρ).bind fun p => (r p.2).map fun q => (some p.1 :: q.1, q.2)
def lLe (i : Nat) (r : EvL) : EvL := fun ρ => (lstAt ρ i).bind fun _ => (r ρ).map fun q => (none :: q.1, q.2)
theorem ArgL.le' {K : Frg} {h h' : Hp} {σ : L2.St} {i : Nat} {xs : List (Option PV)} {vs : List V} (t : ArgL K h σ i xs vs) (l : Le h h') : ArgL K h' σ i xs vs := by
  induction t with
  | nil => exact .nil
  | sh r t ih => exact .sh (r.le l) ih
  | le e t ih => exact .le e ih
theorem sl_nil {i : Nat} : SL X O i [] lNil := pa_nil.wk fun σ H Q ⟨g, hh, ρ, pv, ρ', k, e1, q⟩ => by
  cases e1
  exact q [] H hh k (.refl _) .nil
theorem sl_sh {i : Nat} (ha : SX X O false e ea) (hr : SL X O i es els) (hs : starEach (e :: es) X.env = (false, eval e X.env) :: starEach es X.env := by rfl) : SL X O i (e :: es) (lSh ea els) :=
  (pa_cons ha hr hs).wk fun σ H Q ⟨g, hh, ρ, pv, ρ', k, e1, q⟩ => by
    obtain ⟨⟨x, ρ1⟩, e2, e1⟩ := bind_inv e1
    obtain ⟨⟨xs, ρ2⟩, e3, e4⟩ := map_inv e1
    cases e4
    exact ⟨g, hh, ρ, x, ρ1, k, e2, fun v H1 h1 k1 l1 r1 => ⟨g, h1, ρ1, xs, _, k1, e3, fun vs H2 h2 k2 l2 r2 => q _ H2 h2 k2 (l1.trans l2) (.sh (Rep.le l2 r1) r2)⟩⟩
theorem sl_le (i : Nat) {x : Str} {px : Pos} (hr : SL X O i es els) (ho : i ∈ O := by decide) (hN : X.N[i]? = some x := by rfl) (hv : Vis X.env.scope x := by first | exact Or.inl rfl | exact Or.inr (Or.inl rfl) | exact Or.inr (Or.inr rfl))
    (hd : (x == ("__debug__" : Str)) = false := by decide) (hcd : (x == ("__classdict__" : Str)) = false := by decide) (hs : starEach (.Name x px :: es) X.env = (false, eval (.Name x px) X.env) :: starEach es X.env := by rfl) : SL X O i (.Name x px :: es) (lLe i els) :=
  (pa_cons (pe_var hN hv hd hcd) hr hs).wk fun σ H Q ⟨g, hh, ρ, pv, ρ', k, e1, q⟩ => by
    obtain ⟨xs0, e01, e1⟩ := bind_inv e1
    obtain ⟨⟨xs, ρ2⟩, e3, e4⟩ := map_inv e1
    cases e4
    obtain ⟨ad, vs0, f1, f2⟩ := own_ref k ho (lstAt_inv e01)
    exact ⟨_, f1, g, hh, ρ, xs, _, k, e3, fun vs H2 h2 k2 l2 r2 => q _ H2 h2 k2 l2 (.le f1 r2)⟩
/-- f(..), nothing lent -/
def eCall (n : Nat) (sem : EvE) (ea : EvA) : EvE := fun ρ => (ea ρ).bind fun p => if (p.1.length == n) = true then (sem (p.1.map some)).map fun q => (q.1, p.2) else none
/-- the callee's frame: one's own lists that are not lent stay as they are -/
noncomputable def asideBut (O : List Nat) (ρ : Env) (σ : L2.St) (g H : Hp) (i : Nat) : Hp := fun a => open Classical in if (∃ j q, j ∈ O ∧ j ≠ i ∧ ρ[j]? = some (some q) ∧ σ[j]? = some (some (.ref a))) then H a else g a
noncomputable def aside (O : List Nat) (ρ : Env) (σ : L2.St) (g H : Hp) : Hp := fun a => open Classical in if (∃ j q, j ∈ O ∧ ρ[j]? = some (some q) ∧ σ[j]? = some (some (.ref a))) then H a else g a
theorem Ok.args {K : Frg} {g h : Hp} {ρ : Env} {σ : L2.St} {H : Hp} {ps : List PV} {vs : List V} (k : Ok K O g h ρ σ H) (r : RepL K h ps vs) : Ok K [] (aside O ρ σ g H) h (ps.map some) (vs.map some) H where
  sub := k.sub
  gsub := fun a o e => by
    unfold aside at e
    split at e
    · exact e
    · exact k.gsub _ _ e
  dis := fun a o e => by
    unfold aside at e
    split at e
    · rename_i hx
      obtain ⟨j, q, hj, e1, e2⟩ := hx
      obtain ⟨xs, b, ws, f1, f2, f3, f4, f5, f6⟩ := k.own j q hj e1
      rw [e2] at f2
      cases f2
      exact f5
    · exact k.dis _ _ e
  len := by simp [r.length]
  sh := fun i pv _ e => by
    rw [List.getElem?_map] at e
    cases z : ps[i]? with
    | none => rw [z] at e; cases e
    | some x =>
      rw [z] at e
      cases e
      obtain ⟨v, e1, r1⟩ := r.get z
      exact ⟨v, by rw [List.getElem?_map, e1]; rfl, r1⟩
  own := fun i pv hi _ => by cases hi
  inj := fun i j x y ad hi _ _ _ _ _ => by cases hi
theorem Ok.back0 {K : Frg} {g h h' : Hp} {ρ : Env} {σ : L2.St} {H H' : Hp} {ρc : Env} {σc : L2.St} (k : Ok K O g h ρ σ H) (kc : Ok K [] (aside O ρ σ g H) h' ρc σc H') (l : Le h h') : Ok K O g h' ρ σ H' := by
  have own' : ∀ j q, j ∈ O → ρ[j]? = some (some q) → ∀ a, σ[j]? = some (some (.ref a)) → aside O ρ σ g H a = H a := fun j q hj e a e2 => by
    unfold aside
    rw [if_pos ⟨j, q, hj, e, e2⟩]
  refine ⟨kc.sub, fun a o e => ?_, fun a o e => ?_, k.len, fun i q hi e => ?_, fun i q hi e => ?_, k.inj⟩
  · refine kc.gsub _ _ ?_
    unfold aside
    split
    · exact k.gsub _ _ e
    · exact e
  · refine kc.dis a o ?_
    unfold aside
    split
    · exact k.gsub _ _ e
    · exact e
  · obtain ⟨v, e1, r⟩ := k.sh i q hi e
    exact ⟨v, e1, r.le l⟩
  · obtain ⟨xs, b, ws, f1, f2, f3, f4, f5, f6⟩ := k.own i q hi e
    have ea := own' i q hi e b f2
    exact ⟨xs, b, ws, f1, f2, kc.gsub _ _ (by rw [ea]; exact f3), f4.le l, kc.dis b _ (by rw [ea]; exact f3), f6⟩
theorem RetOk.back0 {K : Frg} {g h h' : Hp} {ρ : Env} {σ : L2.St} {H H' : Hp} {ρc : Env} {σc : L2.St} {pv : PV} {v : V} (k : Ok K O g h ρ σ H) (r : RetOk K [] fr (aside O ρ σ g H) h' ρc σc H' pv v) : RetOk K O fr g h' ρ σ H' pv v := by
  unfold RetOk at r ⊢
  split
  · rename_i hf
    rw [if_pos hf] at r
    obtain ⟨xs, a, ws, e1, e2, e3, e4, e5, e6, e7⟩ := r
    have nown : ∀ i q, i ∈ O → ρ[i]? = some (some q) → σ[i]? ≠ some (some (.ref a)) := fun i q hi e z => by
      obtain ⟨xs', b, ws', f1, f2, f3, f4, f5, f6⟩ := k.own i q hi e
      rw [z] at f2
      cases f2
      unfold aside at e6
      rw [if_pos ⟨i, q, hi, e, z⟩, f3] at e6
      cases e6
    refine ⟨xs, a, ws, e1, e2, e3, e4, e5, ?_, nown⟩
    unfold aside at e6
    split at e6
    · rename_i hx
      obtain ⟨j, q, hj, f1, f2⟩ := hx
      exact absurd f2 (nown j q hj f1)
    · exact e6
  · rename_i hf
    rw [if_neg hf] at r
    exact r
theorem s_call {j k n : Nat} {x : Str} {sem : EvE} (C : Cal X.prog X.w X.K X.mg X.base j x n [] fr sem) (hr : Room k X.A) (ha : SA X O (e :: es) eas) (hj : j ≤ k := by decide) (hg : Gl X x := by rfl)
    (hdb : (x == ("__debug__" : Str)) = false := by decide) (he : starEach (e :: es) X.env = (false, eval e X.env) :: starEach es X.env := by rfl) (hpl : (backTo pos (starEach es X.env)).any (·.1) = false := by rfl) :
    SX X O fr (.Call (.Name x p) (e :: es) [] pos) (eCall n sem eas) := by
  obtain ⟨f, fd, ps, hps, F, hm, hk, hb⟩ := C.ex
  refine ⟨fun pins s σ H Q I ⟨g, h, ρ, pv, ρ', kk, e1, q⟩ => ?_⟩
  obtain ⟨⟨args, ρ1⟩, e2, e3⟩ := bind_inv e1
  obtain ⟨hl, e3⟩ := ite_inv e3
  obtain ⟨⟨r, ρ2⟩, e4, e5⟩ := map_inv e3
  cases e5
  refine (pe_call F (hr.mono hj) hg hm hk hb .nil pass0 ha hdb he hpl).run pins s σ H Q I ⟨g, h, ρ, args, _, kk, e2, fun vs H1 h1 k1 l1 r1 => ?_⟩
  show spF X.K [] fr n sem (vs ++ []) H1 Q E0
  rw [List.append_nil]
  refine ⟨by rw [← r1.length]; exact eq_of_beq hl, _, h1, _, r, ρ2, k1.args r1, e4, fun v H' h' k' l' ret => ?_⟩
  have kb := k1.back0 k' l'
  refine q v H' h' kb (l1.trans l') ?_
  have ret' := ret.back0 k1
  unfold RetOk at ret' ⊢
  exact ret'
/-- f(.., own, ..): the list at slot i is lent at place m -/
def fill (xs : List PV) (ps : List (Option PV)) : Env := ps.map fun o => match o with
  | some x => some x
  | none => some (.lst xs)
def lentAt : Nat → List (Option PV) → Bool
  | 0, none :: r => r.all Option.isSome
  | m + 1, some _ :: r => lentAt m r
  | _, _ => false
theorem lentAt_get : ∀ {m : Nat} {ps : List (Option PV)}, lentAt m ps = true → ps[m]? = some none ∧ ∀ j, ps[j]? = some none → j = m
  | 0, none :: r, h => by
    refine ⟨rfl, fun j e => ?_⟩
    cases j with
    | zero => rfl
    | succ j =>
      have e : r[j]? = some none := e
      have := List.all_eq_true.mp (show r.all Option.isSome = true from h) none (List.mem_of_getElem? e)
      cases this
  | m + 1, some x :: r, h => by
    obtain ⟨h1, h2⟩ := lentAt_get (m := m) (ps := r) h
    refine ⟨h1, fun j e => ?_⟩
    cases j with
    | zero => cases e
    | succ j => rw [h2 j e]
  | 0, [], h => by cases h
  | 0, some _ :: _, h => by cases h
  | _ + 1, [], h => by cases h
  | _ + 1, none :: _, h => by cases h
theorem ArgL.get {K : Frg} {h : Hp} {σ : L2.St} {i : Nat} {ps : List (Option PV)} {vs : List V} (t : ArgL K h σ i ps vs) : ∀ {j : Nat} {o : Option PV}, ps[j]? = some o → ∃ v, vs[j]? = some v ∧ (match o with
    | some x => Rep K h x v
    | none => σ[i]? = some (some v)) := by
  induction t with
  | nil => intro j o e; simp at e
  | sh r t ih =>
    intro j o e
    cases j with
    | zero =>
      cases e
      exact ⟨_, rfl, r⟩
    | succ j => exact ih (by simpa using e)
  | le e' t ih =>
    intro j o e
    cases j with
    | zero =>
      cases e
      exact ⟨_, rfl, e'⟩
    | succ j => exact ih (by simpa using e)
theorem ArgL.length {K : Frg} {h : Hp} {σ : L2.St} {i : Nat} {ps : List (Option PV)} {vs : List V} (t : ArgL K h σ i ps vs) : ps.length = vs.length := by
  induction t with
  | nil => rfl
  | sh r t ih => simp [ih]
  | le e t ih => simp [ih]
def eCallL (n m i : Nat) (sem : EvE) (ea : EvL) : EvE := fun ρ => (ea ρ).bind fun p => if ((p.1.length == n) && lentAt m p.1) = true then (lstAt p.2 i).bind fun xs => (sem (fill xs p.1)).map fun q => (q.1, p.2.set i ((q.2[m]?).getD none)) else none
theorem Ok.argsL {K : Frg} {g h : Hp} {ρ : Env} {σ : L2.St} {H : Hp} {ps : List (Option PV)} {vs : List V} {i m : Nat} {xs : List PV} (k : Ok K O g h ρ σ H) (ho : i ∈ O) (hl : lentAt m ps = true) (ex : ρ[i]? = some (some (.lst xs))) (r : ArgL K h σ i ps vs) :
    Ok K [m] (asideBut O ρ σ g H i) h (fill xs ps) (vs.map some) H := by
  obtain ⟨l1, l2⟩ := lentAt_get hl
  obtain ⟨xs', a, ws, x1, x2, x3, x4, x5, x6⟩ := k.own i _ ho ex
  cases x1
  refine ⟨k.sub, fun b o e => ?_, fun b o e => ?_, ?_, fun j pv hj e => ?_, fun j pv hj e => ?_, fun j j' x y ad hj hj' _ _ _ _ => ?_⟩
  · unfold asideBut at e
    split at e
    · exact e
    · exact k.gsub _ _ e
  · unfold asideBut at e
    split at e
    · rename_i hx
      obtain ⟨j, q, hj, _, e1, e2⟩ := hx
      obtain ⟨ys, b', us, f1, f2, f3, f4, f5, f6⟩ := k.own j q hj e1
      rw [e2] at f2
      cases f2
      exact f5
    · exact k.dis _ _ e
  · unfold fill
    simp [r.length]
  · unfold fill at e
    rw [List.getElem?_map] at e
    cases z : ps[j]? with
    | none => rw [z] at e; cases e
    | some o =>
      rw [z] at e
      cases o with
      | none => exact absurd (l2 j z) (fun q => hj (by rw [q]; exact List.mem_singleton_self _))
      | some x =>
        cases e
        obtain ⟨v, e1, r1⟩ := r.get z
        exact ⟨v, by rw [List.getElem?_map, e1]; rfl, r1⟩
  · have hjm : j = m := List.mem_singleton.mp hj
    subst hjm
    unfold fill at e
    rw [List.getElem?_map, l1] at e
    cases e
    obtain ⟨v, e1, r1⟩ := r.get l1
    have r1 : σ[i]? = some (some v) := r1
    rw [x2] at r1
    cases r1
    refine ⟨xs, a, ws, rfl, by rw [List.getElem?_map, e1]; rfl, x3, x4, x5, ?_⟩
    unfold asideBut
    split
    · rename_i hx
      obtain ⟨j', q, hj', hne, e1', e2'⟩ := hx
      exact absurd (k.inj j' i q _ a hj' ho e1' ex e2' x2) hne
    · exact x6
  · rw [List.mem_singleton.mp hj, List.mem_singleton.mp hj']
theorem Ok.backL {K : Frg} {g h h' : Hp} {ρ : Env} {σ : L2.St} {H H' : Hp} {ρc : Env} {i m : Nat} {ps : List (Option PV)} {vs : List V} {xs : List PV} (k : Ok K O g h ρ σ H) (ho : i ∈ O) (hl : lentAt m ps = true) (ex : ρ[i]? = some (some (.lst xs))) (r : ArgL K h σ i ps vs)
    (kc : Ok K [m] (asideBut O ρ σ g H i) h' ρc (vs.map some) H') (l : Le h h') : Ok K O g h' (ρ.set i ((ρc[m]?).getD none)) σ H' := by
  obtain ⟨l1, l2⟩ := lentAt_get hl
  obtain ⟨xs', a, ws, x1, x2, x3, x4, x5, x6⟩ := k.own i _ ho ex
  have own' : ∀ j q, j ∈ O → j ≠ i → ρ[j]? = some (some q) → ∀ a, σ[j]? = some (some (.ref a)) → asideBut O ρ σ g H i a = H a := fun j q hj hne e a e2 => by
    unfold asideBut
    rw [if_pos ⟨j, q, hj, hne, e, e2⟩]
  have gle : ∀ b o, g b = some o → asideBut O ρ σ g H i b = some o := fun b o e => by
    unfold asideBut
    split
    · exact k.gsub _ _ e
    · exact e
  have back : ∀ {j : Nat} {q : PV}, (ρ.set i ((ρc[m]?).getD none))[j]? = some (some q) → j ∈ O → ∃ q', ρ[j]? = some (some q') := fun {j q} ej _ => by
    by_cases z : i = j
    · subst z
      exact ⟨_, ex⟩
    · rw [List.getElem?_set_ne z] at ej
      exact ⟨_, ej⟩
  refine ⟨kc.sub, fun b o e => kc.gsub _ _ (gle b o e), fun b o e => kc.dis b o (gle b o e), by rw [List.length_set]; exact k.len, fun j q hj e => ?_, fun j q hj e => ?_, fun b c x y ad hb hc e1 e2 f1 f2 => ?_⟩
  · rw [List.getElem?_set_ne (fun z => by rw [← z] at hj; exact hj ho)] at e
    obtain ⟨v, e1, r⟩ := k.sh j q hj e
    exact ⟨v, e1, r.le l⟩
  · by_cases z : i = j
    · subst z
      have hlt : i < ρ.length := (List.getElem?_eq_some_iff.mp ex).1
      rw [List.getElem?_set_self hlt] at e
      have e := Option.some.inj e
      cases zc : ρc[m]? with
      | none => rw [zc] at e; cases e
      | some oc =>
        rw [zc] at e
        have e : oc = some q := e
        subst e
        obtain ⟨ys, b, us, f1, f2, f3, f4, f5, f6⟩ := kc.own m q (List.mem_singleton_self _) zc
        obtain ⟨v, e1, r1⟩ := r.get l1
        have r1 : σ[i]? = some (some v) := r1
        rw [x2] at r1
        cases r1
        rw [List.getElem?_map, e1] at f2
        cases f2
        exact ⟨ys, a, us, f1, x2, f3, f4, f5, x6⟩
    · rw [List.getElem?_set_ne z] at e
      obtain ⟨ys, b, us, f1, f2, f3, f4, f5, f6⟩ := k.own j q hj e
      have ea := own' j q hj (fun q => z q.symm) e b f2
      exact ⟨ys, b, us, f1, f2, kc.gsub _ _ (by rw [ea]; exact f3), f4.le l, kc.dis b _ (by rw [ea]; exact f3), f6⟩
  · obtain ⟨x', e1'⟩ := back e1 hb
    obtain ⟨y', e2'⟩ := back e2 hc
    exact k.inj b c x' y' ad hb hc e1' e2' f1 f2
theorem RetOk.backL {K : Frg} {g h h' : Hp} {ρ : Env} {σ : L2.St} {H H' : Hp} {ρc : Env} {i m : Nat} {ps : List (Option PV)} {vs : List V} {xs : List PV} {pv : PV} {v : V} (k : Ok K O g h ρ σ H) (ho : i ∈ O) (hl : lentAt m ps = true) (ex : ρ[i]? = some (some (.lst xs))) (t : ArgL K h σ i ps vs)
    (r : RetOk K [m] fr (asideBut O ρ σ g H i) h' ρc (vs.map some) H' pv v) : RetOk K O fr g h' (ρ.set i ((ρc[m]?).getD none)) σ H' pv v := by
  unfold RetOk at r ⊢
  split
  · rename_i hf
    rw [if_pos hf] at r
    obtain ⟨ys, a, ws, e1, e2, e3, e4, e5, e6, e7⟩ := r
    obtain ⟨l1, l2⟩ := lentAt_get hl
    have nown : ∀ j q, j ∈ O → j ≠ i → ρ[j]? = some (some q) → σ[j]? ≠ some (some (.ref a)) := fun j q hj hne e z => by
      obtain ⟨xs', b, ws', f1, f2, f3, f4, f5, f6⟩ := k.own j q hj e
      rw [z] at f2
      cases f2
      unfold asideBut at e6
      rw [if_pos ⟨j, q, hj, hne, e, z⟩, f3] at e6
      cases e6
    refine ⟨ys, a, ws, e1, e2, e3, e4, e5, ?_, fun j q hj e z => ?_⟩
    · unfold asideBut at e6
      split at e6
      · rename_i hx
        obtain ⟨j, q, hj, hne, f1, f2⟩ := hx
        exact absurd f2 (nown j q hj hne f1)
      · exact e6
    · by_cases zz : i = j
      · subst zz
        have hlt : i < ρ.length := (List.getElem?_eq_some_iff.mp ex).1
        rw [List.getElem?_set_self hlt] at e
        have e := Option.some.inj e
        cases zc : ρc[m]? with
        | none => rw [zc] at e; cases e
        | some oc =>
          rw [zc] at e
          have e : oc = some q := e
          subst e
          obtain ⟨v', e1', r1⟩ := t.get l1
          have r1 : σ[i]? = some (some v') := r1
          rw [z] at r1
          cases r1
          exact e7 m q (List.mem_singleton_self _) zc (by rw [List.getElem?_map, e1']; rfl)
      · rw [List.getElem?_set_ne zz] at e
        exact nown j q hj (fun q => zz q.symm) e z
  · rename_i hf
    rw [if_neg hf] at r
    exact r
theorem s_callL {j k n m : Nat} (i : Nat) {x : Str} {sem : EvE} (C : Cal X.prog X.w X.K X.mg X.base j x n [m] fr sem) (hr : Room k X.A) (ha : SL X O i (e :: es) els) (ho : i ∈ O := by decide) (hj : j ≤ k := by decide) (hg : Gl X x := by rfl)
    (hdb : (x == ("__debug__" : Str)) = false := by decide) (he : starEach (e :: es) X.env = (false, eval e X.env) :: starEach es X.env := by rfl) (hpl : (backTo pos (starEach es X.env)).any (·.1) = false := by rfl) :
    SX X O fr (.Call (.Name x p) (e :: es) [] pos) (eCallL n m i sem els) := by
  obtain ⟨f, fd, ps, hps, F, hm, hk, hb⟩ := C.ex
  refine ⟨fun pins s σ H Q I ⟨g, h, ρ, pv, ρ', kk, e1, q⟩ => ?_⟩
  obtain ⟨⟨args, ρ1⟩, e2, e3⟩ := bind_inv e1
  obtain ⟨hl, e3⟩ := ite_inv e3
  rw [Bool.and_eq_true] at hl
  obtain ⟨xs, e6, e3⟩ := bind_inv e3
  obtain ⟨⟨r, ρ2⟩, e4, e5⟩ := map_inv e3
  cases e5
  have e6 := lstAt_inv e6
  refine (pe_call F (hr.mono hj) hg hm hk hb .nil pass0 ha hdb he hpl).run pins s σ H Q I ⟨g, h, ρ, args, _, kk, e2, fun vs H1 h1 k1 l1 r1 => ?_⟩
  show spF X.K [m] fr n sem (vs ++ []) H1 Q E0
  rw [List.append_nil]
  refine ⟨by rw [← r1.length]; exact eq_of_beq hl.1, _, h1, _, r, ρ2, k1.argsL ho hl.2 e6 r1, e4, fun v H' h' k' l' ret => ?_⟩
  exact q v H' h' (k1.backL ho hl.2 e6 r1 k' l') (l1.trans l') (ret.backL k1 ho hl.2 e6 r1)
end
end PL

/-! PL11: reversed slices, constants of the module, the head's hook with tuples -/
namespace PL
open PySem PySem.Spec PyProof.Rows L2
section
variable {X : Cx} {O L : List Nat} {e a b c : Expr} {fr : Bool} {ev ea eb ec : EvE} {p p1 p2 p3 pos : Pos} {k : Nat}
theorem s_revT (ha : SX X O false e ev) : SX X O false (.Subscript e (.Slice none none (some (.UnaryOp .USub (.Constant (.int 1) k p1) p2)) p3) pos) (eUn opRev ev) := by
  have hst : PO X (some (.UnaryOp .USub (.Constant (.int 1) k p1) p2)) (tPart (tUn (rU fun i => .int (-i)) (tC (.int 1)))) := po_some (pe_un un_neg pe_int)
  refine s_rev (es := ev) ha (fun pins s σ H Q I q => hst.run pins s σ H Q I ⟨1, rfl, -1, rfl, q⟩) fun sl t σ H pins s Q ht hw => ?_
  exact tail_any (ops := [.ref t, .ref sl]) ht (slot_tuple_getitem.lookup) hw (by with_unfolding_all rfl)
def opRevL : Op1
  | .lst xs => some (.lst xs.reverse)
  | _ => none
theorem s_revL (ha : SV X O e ev) : SX X O true (.Subscript e (.Slice none none (some (.UnaryOp .USub (.Constant (.int 1) k p1) p2)) p3) pos) (eUn opRevL ev) :=
  (pe_revL ha).wk fun σ H Q ⟨g, hh, ρ, pv, ρ', kk, e1, q⟩ => by
    obtain ⟨⟨x, ρ1⟩, e2, e1⟩ := bind_inv e1
    obtain ⟨z, e4, e5⟩ := map_inv e1
    cases e5
    refine ⟨g, hh, ρ, x, _, kk, e2, fun v H1 h1 k1 l1 r1 => ?_⟩
    cases x with
    | lst xs =>
      cases e4
      rcases r1 with r1 | ⟨ys, ad, vs, f1, f2, f3, f4⟩
      · have r1 : Rep X.K h1 (.lst xs) v := r1
        cases r1 with
        | lst s r =>
          refine ⟨_, _, rfl, .inl (.inl (k1.sub _ _ s)), fun pp np => ?_⟩
          obtain ⟨k2, f⟩ := k1.fresh np r.reverse
          exact q _ _ _ k2 l1 f
      · cases f1
        subst f2
        refine ⟨_, _, rfl, .inl (.inl f3), fun pp np => ?_⟩
        obtain ⟨k2, f⟩ := k1.fresh np f4.reverse
        exact q _ _ _ k2 l1 f
    | _ => cases e4
end

/-! ### constants -/
section
variable {K : Frg} {h : Heap} {mg : Str → Option Value}
theorem glob_int (X : K.In h) (G : h.Ns mainGlobals mg) {x : Str} {i : Int} (c : (He.Fa.int x i).ok K = true) : Glob K mg x (.int i) := by
  obtain ⟨t, e⟩ := He.int_ok X G c
  exact ⟨.int i, _, e, ⟨t, rfl⟩, fun _ => .int i⟩
theorem glob_str (X : K.In h) (G : h.Ns mainGlobals mg) {x z : Str} (c : (He.Fa.str x z).ok K = true) : Glob K mg x (.str z) := by
  obtain ⟨t, e⟩ := He.str_ok X G c
  exact ⟨.str z, _, e, ⟨t, rfl⟩, fun _ => .str z⟩
/-- flat constants -/
inductive Ct where
  | int (i : Int) | str (x : Str)
def Ct.d : Ct → He.Dv
  | .int i => .int i
  | .str x => .str x
def Ct.p : Ct → PV
  | .int i => .int i
  | .str x => .str x
theorem ct_rep {K : Frg} {h : Hp} : ∀ cs : List Ct, RepL K h (cs.map Ct.p) ((cs.map Ct.d).map (He.Dv.v K))
  | [] => .nil
  | .int i :: r => .cons (.int i) (ct_rep r)
  | .str x :: r => .cons (.str x) (ct_rep r)
theorem glob_tup (X : K.In h) (G : h.Ns mainGlobals mg) {x : Str} {cs : List Ct} (c1 : (He.Fa.glo x).ok K = true) (c2 : He.tupB K x (cs.map Ct.d) = true) : Glob K mg x (.tup (cs.map Ct.p)) :=
  ⟨.ref (He.ga K x), _, He.glo_ok X G c1, rfl, fun H => .tup (He.tupB_ok c2 H) (ct_rep cs)⟩
end
/-! ### the hook -/
abbrev AlP : Type := Bool × He.AlD
def tpB (tp : List (Str × List Ct)) (K : Frg) : Bool := tp.all fun t => He.tupB K t.1 (t.2.map Ct.d)
def obsP (fa : List He.Fa) (tp : List (Str × List Ct)) (fn : List He.DefD) (K : Frg) : AlP := (tpB tp K, He.obsD fa fn K)
def obsPG (n : Nat) (fa : List He.Fa) (tp : List (Str × List Ct)) (fn : List He.DefD) (g : Addr → Option Obj) : AlP := obsP fa tp fn (He.frG g (He.asD g n))
def SaysP (fa : List He.Fa) (tp : List (Str × List Ct)) (fn : List He.DefD) (K : Frg) : Prop := tpB tp K = true ∧ He.SaysD fa fn K
def hookP (n : Nat) (fa : List He.Fa) (tp : List (Str × List Ct)) (fn : List He.DefD) : PySem.W.Hook where
  α := AlP
  obs := fun s => obsPG n fa tp fn s.heap.get?
  val := fun _ => (true, He.valD fn)
  says := fun _ h => ∃ K : Frg, K.In h ∧ SaysP fa tp fn K
  of := fun _ _ e => ⟨_, He.frG_in, congrArg (fun z : AlP => z.1) e, congrArg (fun z : AlP => z.2) e⟩
  keeps := fun _ _ _ ⟨K, hK, c⟩ k => ⟨K, PySem.W.Frag.In.keeps hK k, c⟩
theorem obsPG_eq {n : Nat} {fa : List He.Fa} {tp : List (Str × List Ct)} {fn : List He.DefD} {g : Addr → Option Obj} {s : Shared} (h : ∀ a, g a = s.heap.get? a) : obsPG n fa tp fn g = (hookP n fa tp fn).obs s := by
  have e : g = s.heap.get? := funext h
  rw [e] <;> rfl
theorem SaysP.tup {fa : List He.Fa} {tp : List (Str × List Ct)} {fn : List He.DefD} {K : Frg} (c : SaysP fa tp fn K) (i : Nat) {t : Str × List Ct} (h : tp[i]? = some t := by rfl) : He.tupB K t.1 (t.2.map Ct.d) = true :=
  List.all_eq_true.mp c.1 t (List.mem_of_getElem? h)

/-! ### for the printed derivations -/
def eApp (i : Nat) (ev : EvE) : EvE := fun ρ => (lstAt ρ i).bind fun _ => eAppend i ev ρ
section
variable {X : Cx} {O L : List Nat} {e : Expr} {ev : EvE} {x : Str} {px apos cpos : Pos}
theorem s_app (i : Nat) (ha : SX X O false e ev) (ho : i ∈ O := by decide) (hN : X.N[i]? = some x := by rfl) (hv : Vis X.env.scope x := by first | exact Or.inl rfl | exact Or.inr (Or.inl rfl) | exact Or.inr (Or.inr rfl))
    (hd : (x == ("__debug__" : Str)) = false := by decide) (hcd : (x == ("__classdict__" : Str)) = false := by decide) (hbase : attributeBase (.Name x px) "append" X.env (eval (.Name x px) X.env) = eval (.Name x px) X.env := by rfl)
    (hfew : ((backTo cpos (starEach (e :: []) X.env)).all (fun x => !x.1) && (backToKw cpos (keywordEach [] X.env)).all (fun x => x.1.isSome) && decide ((e :: []).length + ([] : List Keyword).length + (if ([] : List Keyword).isEmpty then 0 else 1) < 30)) = true := by rfl)
    (hline : (apos.endLine == cpos.line) = true := by rfl) (hs : starEach (e :: []) X.env = (false, eval e X.env) :: starEach [] X.env := by rfl) (hplain : (backTo cpos (starEach [] X.env)).any (·.1) = false := by rfl) :
    SX X O false (.Call (.Attribute (.Name x px) "append" apos) [e] [] cpos) (eApp i ev) := s_append i ha ho hN hv hd hcd hbase hfew hline hs hplain
end
def eTupRg1 (ev : EvE) : EvE := fun ρ => match ev ρ with
  | some (.int n, ρ1) => if rgOk 0 n = true then some (.tup (rgP 0 n), ρ1) else none
  | _ => none
section
variable {X : Cx} {O L : List Nat} {a : Expr} {ea : EvE} {p pos p2 pos2 : Pos}
theorem s_tupRg1 (B : Bi X.mg) (ha : SX X O false a ea) (hc : X.calm = true := by rfl) (hg : Gl X "tuple" := by rfl) (hg2 : Gl X "range" := by rfl) (na : starEach [a] X.env = (false, eval a X.env) :: starEach [] X.env := by rfl)
    (nb : starEach [.Call (.Name "range" p2) [a] [] pos2] X.env = (false, eval (.Call (.Name "range" p2) [a] [] pos2) X.env) :: starEach [] X.env := by rfl) :
    SX X O false (.Call (.Name "tuple" p) [.Call (.Name "range" p2) [a] [] pos2] [] pos) (eTupRg1 ea) :=
  (pe_tupRg hc hg B.tuple (prg_1 hg2 B.range ha na) nb).wk fun σ H Q ⟨g, hh, ρ, pv, ρ', k, e1, q⟩ => by
    unfold eTupRg1 at e1
    split at e1
    · rename_i n ρ1 e2
      obtain ⟨e3, e4⟩ := ite_inv e1
      cases e4
      refine ⟨g, hh, ρ, _, _, k, e2, fun v H1 h1 k1 l1 r1 => ⟨n, View.int (H := H1) (h := h1) (K := X.K) (.inl r1), of_decide_eq_true (p := -(2 ^ 62) ≤ 0 ∧ (0 : Int) < 2 ^ 62 ∧ -(2 ^ 62) ≤ n ∧ n < 2 ^ 62 ∧ (n - 0).toNat ≤ 2 ^ 24) e3, fun l nl => ?_⟩⟩
      obtain ⟨k2, l2⟩ := k1.laid nl (.tup (rgV 0 n))
      exact q _ _ _ k2 (l1.trans l2) (Rep.tup (.inl (.inl upd_same)) ((rgP_rep (K := X.K) (h := h1) 0 n).le l2))
    · cases e1
end
section
variable {X : Cx} {O : List Nat} {tg a b c : Expr} {ea eb ec : EvE} {p pos : Pos}
theorem si_rng3b (B : Bi X.mg) (ha : SX X O false a ea) (hb : SX X O false b eb) (hc : SX X O false c ec) (hg : Gl X "range" := by rfl)
    (hs1 : starEach [a, b, c] X.env = (false, eval a X.env) :: starEach [b, c] X.env := by rfl) (hs2 : starEach [b, c] X.env = (false, eval b X.env) :: starEach [c] X.env := by rfl) (hs3 : starEach [c] X.env = (false, eval c X.env) :: starEach [] X.env := by rfl)
    (hpl : (backTo pos (starEach [b, c] X.env)).any (·.1) = false := by rfl) : SI X O tg (.Call (.Name "range" p) [a, b, c] [] pos) (iRng3 ea eb ec) :=
  si_rng3 B ha hb hc hg hs1 hs2 hs3 fun _ h => pi_range3 hg B.range h hs1 hpl
end
/-- the law's own call -/
theorem script_sp {K : Frg} {sem : EvE} {ns : List Int} {H : Hp} {a : Addr} {E : XK} (h : ∃ ρ', sem [some (.scr ns)] = some (.bl true, ρ')) (hS : SqL K H a (ns.map V.int)) : spF K [] false 1 sem [.ref a] H (fun v _ => v = .bl true) E := by
  obtain ⟨ρ', e⟩ := h
  refine ⟨rfl, fun _ => none, H, [some (.scr ns)], .bl true, ρ', ⟨.refl _, fun _ _ e => (by cases e), fun _ _ e => (by cases e), rfl, fun i pv _ e => ?_, fun i _ hi => (List.not_mem_nil hi).elim, fun i _ _ _ _ hi => (List.not_mem_nil hi).elim⟩, e, fun v H' h' _ _ r => ?_⟩
  · cases i with
    | zero =>
      cases e
      exact ⟨_, rfl, .scr hS⟩
    | succ i => cases e
  · have r : Rep K h' (.bl true) v := r
    cases r
    rfl
def blkB (N : List Str) (sc scope : Scope) (own : List (Str × Nat)) : Bool :=
  decide (scope.kind = .function) && (scope.names.all (fun y => decide (scope.names.lookup y.1 = some y.2)) && (own.all (fun p => decide (N[p.2]? = some p.1)) &&
    (scope.names.all (fun y => !decide (y.2 = .free) || (decide (sc.names.lookup y.1 = some .cell) || decide (sc.names.lookup y.1 = some .free))) &&
      scope.names.all (fun y => !(decide (y.2 = .local) || decide (y.2 = .cell)) || ((own.map (·.1)).contains y.1 || !N.contains y.1)))))
theorem blk_of {N : List Str} {sc scope : Scope} {own : List (Str × Nat)} (h : blkB N sc scope own = true) : BlkOk N sc scope own := by
  unfold blkB at h
  simp only [Bool.and_eq_true, List.all_eq_true, Bool.or_eq_true, Bool.not_eq_true', decide_eq_true_eq, decide_eq_false_iff_not] at h
  obtain ⟨h1, h2, h3, h4, h5⟩ := h
  refine ⟨h1, h2, h3, fun y hy e => ?_, fun y hy e => ?_⟩
  · rcases h4 y hy with q | q
    · exact absurd e q
    · exact q
  · rcases h5 y hy with q | q
    · rw [Bool.or_eq_false_iff] at q
      rcases e with e | e
      · exact absurd (decide_eq_true e) (by rw [q.1]; decide)
      · exact absurd (decide_eq_true e) (by rw [q.2]; decide)
    · rcases q with q | q
      · exact .inl (List.contains_iff_mem.mp q)
      · exact .inr fun z => by rw [List.contains_iff_mem.mpr z] at q; cases q
end PL

/-! PL12: the plain layer is run: equations, loops, comprehensions, equality -/
namespace PL
open PySem PySem.Spec L2

section
variable {ρ : Env} {i j n m k : Nat} {ea eb ec : EvE} {ta tb : EvT} {x1 x2 : EvS} {eas : EvA} {els : EvL} {v x y : PV} {op : Op2} {o1 : Op1} {sem : EvE} {p1 p2 : EvP}
theorem eVar_ap : eVar i ρ = match ρ[i]? with
  | some (some v) => some (v, ρ)
  | _ => none := rfl
theorem eMove_ap : eMove i ρ = match ρ[i]? with
  | some (some v) => some (v, ρ.set i none)
  | _ => none := rfl
theorem eC_ap : eC v ρ = some (v, ρ) := rfl
theorem eBin_ap : eBin op ea eb ρ = (ea ρ).bind fun p => (eb p.2).bind fun q => (op p.1 q.1).map fun z => (z, q.2) := rfl
theorem eUn_ap : eUn o1 ea ρ = (ea ρ).bind fun p => (o1 p.1).map fun z => (z, p.2) := rfl
theorem tOf_ap : tOf ea ρ = match ea ρ with
  | some (.bl b, ρ') => some (b, ρ')
  | _ => none := rfl
theorem tvAnd_ap : tvAnd ta tb ρ = match ta ρ with
  | some (true, ρ1) => tb ρ1
  | r => r := rfl
theorem tvOr_ap : tvOr ta tb ρ = match ta ρ with
  | some (false, ρ1) => tb ρ1
  | r => r := rfl
theorem tvNot_ap : tvNot ta ρ = (ta ρ).map fun p => (!p.1, p.2) := rfl
theorem eAnd_ap : eAnd ea eb ρ = match ea ρ with
  | some (.bl true, ρ1) => eb ρ1
  | some (.bl false, ρ1) => some (.bl false, ρ1)
  | _ => none := rfl
theorem eOr_ap : eOr ea eb ρ = match ea ρ with
  | some (.bl false, ρ1) => eb ρ1
  | some (.bl true, ρ1) => some (.bl true, ρ1)
  | _ => none := rfl
theorem eNot_ap : eNot ea ρ = match ea ρ with
  | some (.bl b, ρ1) => some (.bl (!b), ρ1)
  | _ => none := rfl
theorem eIf_ap : eIf ta ea eb ρ = match ta ρ with
  | some (true, ρ1) => ea ρ1
  | some (false, ρ1) => eb ρ1
  | none => none := rfl
theorem eChain_ap {o2 : Op2} : eChain op o2 ea eb ec ρ = (ea ρ).bind fun p => (eb p.2).bind fun q => match op p.1 q.1 with
  | some (.bl true) => (ec q.2).bind fun r => (o2 q.1 r.1).map fun z => (z, r.2)
  | some (.bl false) => some (.bl false, q.2)
  | _ => none := rfl
theorem aNil_ap : aNil ρ = some ([], ρ) := rfl
theorem aCons_ap : aCons ea eas ρ = (ea ρ).bind fun p => (eas p.2).map fun q => (p.1 :: q.1, q.2) := rfl
theorem aStar_ap : aStar ea eas ρ = (ea ρ).bind fun p => (items? p.1).bind fun xs => (eas p.2).map fun q => (xs ++ q.1, q.2) := rfl
theorem eTup_ap : eTup eas ρ = (eas ρ).bind fun p => if fits p.1.length then some (.tup p.1, p.2) else none := rfl
theorem eLst_ap : eLst eas ρ = (eas ρ).bind fun p => if fits p.1.length then some (.lst p.1, p.2) else none := rfl
theorem eCall_ap : eCall n sem eas ρ = (eas ρ).bind fun p => if (p.1.length == n) = true then (sem (p.1.map some)).map fun q => (q.1, p.2) else none := rfl
theorem eCallL_ap : eCallL n m i sem els ρ = (els ρ).bind fun p => if ((p.1.length == n) && lentAt m p.1) = true then (lstAt p.2 i).bind fun xs => (sem (fill xs p.1)).map fun q => (q.1, p.2.set i ((q.2[m]?).getD none)) else none := rfl
theorem lNil_ap : lNil ρ = some ([], ρ) := rfl
theorem lSh_ap : lSh ea els ρ = (ea ρ).bind fun p => (els p.2).map fun q => (some p.1 :: q.1, q.2) := rfl
theorem lLe_ap : lLe i els ρ = (lstAt ρ i).bind fun _ => (els ρ).map fun q => (none :: q.1, q.2) := rfl
theorem lstAt_ap : lstAt ρ i = match ρ[i]? with
  | some (some (.lst xs)) => some xs
  | _ => none := rfl
theorem eOwn2_ap : eOwn2 i op ea ρ = match ρ[i]? with
  | some (some b) => (ea (ρ.set i none)).bind fun p => (op b p.1).map fun z => (z, p.2.set i (some b))
  | _ => none := rfl
theorem eSl_ap {o : Option Int → Option Int → Op1} : eSl o ea p1 p2 ρ = (ea ρ).bind fun p => (p1 p.2).bind fun a => (p2 a.2).bind fun b => (o a.1 b.1 p.1).map fun z => (z, b.2) := rfl
theorem pNo_ap : pNo ρ = some (none, ρ) := rfl
theorem pSome_ap : pSome ea ρ = match ea ρ with
  | some (.int i, ρ1) => some (some i, ρ1)
  | _ => none := rfl
theorem eLstRg1_ap : eLstRg1 ea ρ = match ea ρ with
  | some (.int n, ρ1) => if rgOk 0 n = true then some (.lst (rgP 0 n), ρ1) else none
  | _ => none := rfl
theorem eTupRg1_ap : eTupRg1 ea ρ = match ea ρ with
  | some (.int n, ρ1) => if rgOk 0 n = true then some (.tup (rgP 0 n), ρ1) else none
  | _ => none := rfl
theorem eApp_ap : eApp i ea ρ = (lstAt ρ i).bind fun _ => (ea ρ).bind fun p => (lstAt p.2 i).bind fun xs => if fits (xs.length + 1) = true then some (.non, p.2.set i (some (.lst (xs ++ [p.1])))) else none := rfl
theorem eExtend_ap : eExtend i ea ρ = (lstAt ρ i).bind fun _ => (ea ρ).bind fun p => (lstAt p.2 i).bind fun xs => match p.1 with
  | .lst ys => if fits (xs.length + ys.length) = true then some (.non, p.2.set i (some (.lst (xs ++ ys)))) else none
  | _ => none := rfl
theorem sNil_ap : sNil ρ = some (.nx, ρ) := rfl
theorem sNever_ap : sNever ρ = none := rfl
theorem sSeq_ap : sSeq x1 x2 ρ = match x1 ρ with
  | some (.nx, ρ1) => x2 ρ1
  | r => r := rfl
theorem sRet_ap : sRet ea ρ = (ea ρ).map fun p => (.rt p.1, p.2) := rfl
theorem sExpr_ap : sExpr ea ρ = (ea ρ).map fun p => (.nx, p.2) := rfl
theorem sIf_ap : sIf ta x1 x2 ρ = match ta ρ with
  | some (true, ρ1) => x1 ρ1
  | some (false, ρ1) => x2 ρ1
  | none => none := rfl
theorem sSet_ap : sSet i ea ρ = (ea ρ).map fun p => (.nx, p.2.set i (some p.1)) := rfl
theorem sAug_ap : sAug i op ea ρ = match ρ[i]? with
  | some (some x) => (ea ρ).bind fun p => (op x p.1).map fun z => (.nx, p.2.set i (some z))
  | _ => none := rfl
theorem sPar_ap {is : List Nat} : sPar is eas ρ = (eas ρ).map fun p => (.nx, setAll is p.1 p.2) := rfl
theorem sAsgT_ap {eg : EvG} : sAsgT ea eg ρ = (ea ρ).bind fun p => (eg p.1 p.2).map fun ρ1 => (.nx, ρ1) := rfl
theorem sStore_ap : sStore i ec ea ρ = (ea ρ).bind fun p => (lstAt p.2 i).bind fun _ => (ec p.2).bind fun q => (lstAt q.2 i).bind fun xs => match q.1 with
  | .int k => (ixN xs.length k).map fun j => (.nx, q.2.set i (some (.lst (xs.set j p.1))))
  | _ => none := rfl
theorem sAugStore_ap : sAugStore i op ec ea ρ = (lstAt ρ i).bind fun _ => (ec ρ).bind fun p => (lstAt p.2 i).bind fun xs => match p.1 with
  | .int k => (ixN xs.length k).bind fun j => (xs[j]?).bind fun y => (ea p.2).bind fun q => (lstAt q.2 i).bind fun zs => if zs.length = xs.length then (op y q.1).map fun z => (.nx, q.2.set i (some (.lst (zs.set j z)))) else none
  | _ => none := rfl
theorem gNm_ap : gNm i v ρ = some (ρ.set i (some v)) := rfl
theorem gsNil_ap : gsNil [] ρ = some ρ := rfl
theorem gsCons_ap {eg : EvG} {egs : EvGs} {r : List PV} : gsCons eg egs (v :: r) ρ = (eg v ρ).bind fun ρ1 => egs r ρ1 := rfl
theorem gTp_ap {egs : EvGs} {xs : List PV} : gTp n egs (.tup xs) ρ = if xs.length = n then egs xs ρ else none := rfl
theorem turn_ap {eg : EvG} {fg : List Nat} : turn eg x1 fg v ρ = (eg v ρ).bind fun ρ1 => match x1 ρ1 with
  | some (.nx, ρ2) => some (.nx, forgetAll fg ρ2)
  | r => r := rfl
theorem sFor_ap {ei : EvI} {eg : EvG} {fg : List Nat} : sFor ei eg x1 fg ρ = (ei ρ).bind fun p => forL (turn eg x1 fg) p.1 p.2 := rfl
theorem sForO_ap {mk : List PV → List PV} {eg : EvG} {fg : List Nat} : sForO i mk eg x1 fg ρ = (lstAt ρ i).bind fun xs => match forL (turn eg x1 fg) (mk xs) (ρ.set i none) with
  | some (.nx, ρ1) => some (.nx, ρ1.set i (some (.lst xs)))
  | some (.rt v, ρ1) => some (.rt v, ρ1)
  | none => none := rfl
theorem sWhile_ap : sWhile ta x1 ρ = whileL ta x1 1000000 ρ := rfl
theorem iOf_ap : iOf ea ρ = (ea ρ).bind fun p => (items? p.1).map fun xs => (xs, p.2) := rfl
theorem iEnum_ap : iEnum ea ρ = (ea ρ).bind fun p => (items? p.1).map fun xs => (enumP 0 xs, p.2) := rfl
theorem iZip2_ap : iZip2 ea eb ρ = (ea ρ).bind fun p => (eb p.2).bind fun q => (items? p.1).bind fun xs => (items? q.1).map fun ys => (zipP xs ys, q.2) := rfl
theorem iRng1_ap : iRng1 ea ρ = match ea ρ with
  | some (.int n, ρ1) => if decide (-(2 ^ 62) ≤ n ∧ n < 2 ^ 62) = true then some (rgL 0 n.toNat, ρ1) else none
  | _ => none := rfl
theorem eLc_ap {ei : EvI} {eg : EvG} {vs : List Nat} : eLc ei eg ta ea vs ρ = (ei ρ).bind fun p => if fits p.1.length = true then (lcL eg ta ea vs p.1 (wipeE vs p.2)).map fun r => (.lst r.1, backE p.2 vs r.2) else none := rfl
theorem semDef_ap {L : List Nat} {fr : Bool} : semDef n m L fr x1 ρ = match x1 (ρ ++ List.replicate m none) with
  | some (.rt v, ρ1) => some (v, keep L n ρ1)
  | some (.nx, ρ1) => if fr = true then none else some (.non, keep L n ρ1)
  | none => none := rfl
theorem keep_ap {L : List Nat} : keep L n ρ = (List.range n).map fun i => if L.contains i then (ρ[i]?).getD none else none := rfl
end

/-! ### encodings -/
abbrev tI (l : List Int) : PV := .tup (l.map .int)
abbrev lI (l : List Int) : PV := .lst (l.map .int)
abbrev tT (l : List (List Int)) : PV := .tup (l.map tI)
abbrev lT (l : List (List Int)) : PV := .lst (l.map tI)

theorem fits_of {n : Nat} (h : n ≤ 16777216) : fits n = true := decide_eq_true h
theorem atI_nat {α : Type} {xs : List α} {j : Nat} {x : α} (h : xs[j]? = some x) : atI xs (j : Int) = some x := by
  have hl : j < xs.length := (List.getElem?_eq_some_iff.mp h).1
  unfold atI ixN
  rw [if_pos (by omega), if_pos (by omega)]
  exact h
theorem atI_of {α : Type} {xs : List α} {i : Int} {x : α} (h0 : 0 ≤ i) (h : xs[i.toNat]? = some x) : atI xs i = some x := by
  have hl : i.toNat < xs.length := (List.getElem?_eq_some_iff.mp h).1
  unfold atI ixN
  rw [if_pos h0, if_pos (by omega)]
  exact h
theorem atI_last {α : Type} {xs : List α} {x : α} (h : xs.getLast? = some x) : atI xs (-1) = some x := by
  have hl : 0 < xs.length := by
    cases xs with
    | nil => cases h
    | cons a r => simp
  unfold atI ixN
  rw [if_neg (by omega), if_pos (by omega)]
  rw [List.getLast?_eq_getElem?] at h
  have e : (-1 + (xs.length : Int)).toNat = xs.length - 1 := by omega
  show xs[(-1 + (xs.length : Int)).toNat]? = some x
  rw [e]
  exact h
theorem ixN_of {n : Nat} {i : Int} (h0 : 0 ≤ i) (h1 : i < n) : ixN n i = some i.toNat := by
  unfold ixN
  rw [if_pos h0, if_pos h1]

/-! ### loops -/
/-- a loop with an invariant -/
theorem forL_inv {f : PV → EvS} {xs : List PV} {ρ : Env} (I : Nat → Env → Prop) (h : ∀ i x ρ, xs[i]? = some x → I i ρ → ∃ ρ', f x ρ = some (.nx, ρ') ∧ I (i + 1) ρ') (h0 : I 0 ρ) :
    ∃ ρ', forL f xs ρ = some (.nx, ρ') ∧ I xs.length ρ' := by
  induction xs generalizing ρ I with
  | nil => exact ⟨ρ, rfl, h0⟩
  | cons x r ih =>
    obtain ⟨ρ1, e1, i1⟩ := h 0 x ρ rfl h0
    obtain ⟨ρ2, e2, i2⟩ := ih (fun i => I (i + 1)) (fun i y ρ e hi => h (i + 1) y ρ (by simpa using e) hi) i1
    exact ⟨ρ2, by unfold forL; rw [e1]; exact e2, i2⟩
theorem forL_fold {α σ : Type} {f : PV → EvS} {enc : α → PV} {emb : σ → Env} {step : σ → α → σ} (P : σ → Prop) : ∀ {xs : List α} {s : σ}, (∀ s x, P s → x ∈ xs → f (enc x) (emb s) = some (.nx, emb (step s x)) ∧ P (step s x)) → P s →
    forL f (xs.map enc) (emb s) = some (.nx, emb (xs.foldl step s)) ∧ P (xs.foldl step s)
  | [], s, _, h0 => ⟨rfl, h0⟩
  | x :: r, s, h, h0 => by
    obtain ⟨e1, p1⟩ := h s x h0 List.mem_cons_self
    obtain ⟨e2, p2⟩ := forL_fold P (xs := r) (fun s x hs hx => h s x hs (List.mem_cons_of_mem _ hx)) p1
    refine ⟨?_, p2⟩
    rw [List.map_cons]
    unfold forL
    rw [e1]
    exact e2
/-- a comprehension, item by item -/
theorem lcL_map {α : Type} {enc g : α → PV} {eg : EvG} {ev : EvE} {vs : List Nat} {ρ : Env} : ∀ {xs : List α}, (∀ x ∈ xs, ∃ ρ1 ρ2, eg (enc x) ρ = some ρ1 ∧ ev ρ1 = some (g x, ρ2) ∧ wipeE vs ρ2 = ρ) →
    lcL eg tYes' ev vs (xs.map enc) ρ = some (xs.map g, ρ)
  | [], _ => rfl
  | x :: r, h => by
    obtain ⟨ρ1, ρ2, e1, e2, e3⟩ := h x List.mem_cons_self
    rw [List.map_cons, List.map_cons]
    unfold lcL
    have ih := lcL_map (xs := r) (fun y hy => h y (List.mem_cons_of_mem _ hy))
    have ey : tYes' ρ1 = some (true, ρ1) := rfl
    simp only [e1, Option.bind_some, ey, if_true, e2, e3, ih, Option.map_some]
theorem lcL_filter {α : Type} {enc g : α → PV} {c : α → Bool} {eg : EvG} {tv : EvT} {ev : EvE} {vs : List Nat} {ρ : Env} : ∀ {xs : List α},
    (∀ x ∈ xs, ∃ ρ1 ρ2, eg (enc x) ρ = some ρ1 ∧ tv ρ1 = some (c x, ρ2) ∧ (c x = true → ∃ ρ3, ev ρ2 = some (g x, ρ3) ∧ wipeE vs ρ3 = ρ) ∧ (c x = false → wipeE vs ρ2 = ρ)) →
    lcL eg tv ev vs (xs.map enc) ρ = some ((xs.filter c).map g, ρ)
  | [], _ => rfl
  | x :: r, h => by
    obtain ⟨ρ1, ρ2, e1, e2, e3, e4⟩ := h x List.mem_cons_self
    have ih := lcL_filter (xs := r) (fun y hy => h y (List.mem_cons_of_mem _ hy))
    rw [List.map_cons]
    unfold lcL
    cases hc : c x with
    | true =>
      obtain ⟨ρ3, e5, e6⟩ := e3 hc
      rw [hc] at e2
      simp only [e1, Option.bind_some, e2, if_true, e5, e6, ih, Option.map_some, List.filter_cons, hc, List.map_cons]
    | false =>
      rw [hc] at e2
      simp only [e1, Option.bind_some, e2, Bool.false_eq_true, if_false, e4 hc, ih, List.filter_cons, hc]
/-- a comprehension that changes the environment -/
theorem lcL_inv {eg : EvG} {ev : EvE} {vs : List Nat} (I : Env → Prop) (P : PV → Prop) : ∀ {xs : List PV} {ρ : Env}, (∀ x ρ, x ∈ xs → I ρ → ∃ ρ1 y ρ2, eg x ρ = some ρ1 ∧ ev ρ1 = some (y, ρ2) ∧ P y ∧ I (wipeE vs ρ2)) → I ρ →
    ∃ ys ρ', lcL eg tYes' ev vs xs ρ = some (ys, ρ') ∧ I ρ' ∧ ys.length = xs.length ∧ ∀ y ∈ ys, P y
  | [], ρ, _, h0 => ⟨[], ρ, rfl, h0, rfl, fun _ h => nomatch h⟩
  | x :: r, ρ, h, h0 => by
    obtain ⟨ρ1, y, ρ2, e1, e2, py, i2⟩ := h x ρ List.mem_cons_self h0
    obtain ⟨ys, ρ', e3, i3, l3, p3⟩ := lcL_inv I P (xs := r) (fun x ρ hx hi => h x ρ (List.mem_cons_of_mem _ hx) hi) i2
    refine ⟨y :: ys, ρ', ?_, i3, by simp [l3], fun z hz => ?_⟩
    · unfold lcL
      have ey : tYes' ρ1 = some (true, ρ1) := rfl
      simp only [e1, Option.bind_some, ey, if_true, e2, e3, Option.map_some]
    · rcases List.mem_cons.mp hz with q | q
      · rw [q]; exact py
      · exact p3 z q
theorem whileL_t {tv : EvT} {x : EvS} {n : Nat} {ρ ρ1 ρ2 : Env} (h1 : tv ρ = some (true, ρ1)) (h2 : x ρ1 = some (.nx, ρ2)) : whileL tv x (n + 1) ρ = whileL tv x n ρ2 := by
  conv => lhs; unfold whileL
  rw [h1]
  simp only [h2]
theorem whileL_f {tv : EvT} {x : EvS} {n : Nat} {ρ ρ1 : Env} (h1 : tv ρ = some (false, ρ1)) : whileL tv x (n + 1) ρ = some (.nx, ρ1) := by
  conv => lhs; unfold whileL
  rw [h1]

/-! ### values in lists -/
theorem ints_map : ∀ l : List Int, ints? (l.map PV.int) = some l
  | [] => rfl
  | i :: r => by
    show (ints? (r.map PV.int)).map _ = _
    rw [ints_map r]
    rfl
theorem bls_map {α : Type} (f : α → Bool) : ∀ l : List α, bls? (l.map fun x => PV.bl (f x)) = some (l.map f)
  | [] => rfl
  | i :: r => by
    show (bls? (r.map _)).map _ = _
    rw [bls_map f r]
    rfl
theorem opAll_map {α : Type} (f : α → Bool) (l : List α) : opAll (.lst (l.map fun x => PV.bl (f x))) = some (.bl (l.all f)) := by
  show (bls? _).map _ = _
  rw [bls_map]
  show some (PV.bl ((l.map f).all fun b => b)) = _
  rw [List.all_map]
  rfl
theorem opSum_ints (l : List Int) : opSum (lI l) = some (.int l.sum) := by
  show (ints? _).map _ = _
  rw [ints_map]
  rfl
theorem enumP_map {α : Type} (f : α → PV) : ∀ (l : List α) (n : Nat), enumP n (l.map f) = (l.zipIdx n).map fun p => PV.tup [.int (p.2 : Nat), f p.1]
  | [], _ => rfl
  | x :: r, n => by
    show PV.tup [.int (n : Nat), f x] :: enumP (n + 1) (r.map f) = _
    rw [enumP_map f r, List.zipIdx_cons]
    rfl
theorem zipP_map {α β : Type} (f : α → PV) (g : β → PV) (l : List α) (m : List β) : zipP (l.map f) (m.map g) = (l.zip m).map fun p => PV.tup [f p.1, g p.2] := by
  unfold zipP
  rw [List.zipWith_map, List.zip, List.map_zipWith]
theorem rgL_map (n : Nat) : rgL 0 n = (List.range n).map fun (i : Nat) => PV.int (i : Int) := by
  unfold rgL
  simp

/-! ### equality -/
theorem datL_map {α : Type} (f : α → PV) : ∀ l : List α, datL (l.map f) = l.map fun x => dat (f x)
  | [] => rfl
  | x :: r => by
    show dat (f x) :: datL (r.map f) = _
    rw [datL_map f r]
    rfl
/-- without text, at most d deep -/
def Lay (d : Nat) (x : PV) : Prop := (dat x).canLay0 = true ∧ (dat x).depth ≤ d
theorem Lay.all {d : Nat} : ∀ {xs : List PV}, (∀ x ∈ xs, Lay d x) → PyData.canLayAll0 (datL xs) = true ∧ PyData.depthAll (datL xs) ≤ d
  | [], _ => ⟨rfl, Nat.zero_le _⟩
  | x :: r, h => by
    obtain ⟨h1, h2⟩ := h x List.mem_cons_self
    obtain ⟨h3, h4⟩ := Lay.all (xs := r) fun y hy => h y (List.mem_cons_of_mem _ hy)
    refine ⟨?_, ?_⟩
    · show PyData.canLayAll0 (dat x :: datL r) = true
      unfold PyData.canLayAll0
      rw [h1, h3]
      rfl
    · show PyData.depthAll (dat x :: datL r) ≤ d
      unfold PyData.depthAll
      exact Nat.max_le.mpr ⟨h2, h4⟩
theorem Lay.tup {d : Nat} {xs : List PV} (h : ∀ x ∈ xs, Lay d x) : Lay (d + 1) (.tup xs) := by
  obtain ⟨h1, h2⟩ := Lay.all h
  refine ⟨?_, ?_⟩
  · show PyData.canLay0 (.tuple (datL xs)) = true
    unfold PyData.canLay0
    exact h1
  · show PyData.depth (.tuple (datL xs)) ≤ d + 1
    unfold PyData.depth
    omega
theorem Lay.lst {d : Nat} {xs : List PV} (h : ∀ x ∈ xs, Lay d x) : Lay (d + 1) (.lst xs) := by
  obtain ⟨h1, h2⟩ := Lay.all h
  refine ⟨?_, ?_⟩
  · show PyData.canLay0 (.list (datL xs)) = true
    unfold PyData.canLay0
    exact h1
  · show PyData.depth (.list (datL xs)) ≤ d + 1
    unfold PyData.depth
    omega
theorem Lay.int {i : Int} : Lay 0 (.int i) := ⟨by simp [dat, PyData.canLay0], by simp [dat, PyData.depth]⟩
theorem Lay.non : Lay 0 .non := ⟨by simp [dat, PyData.canLay0], by simp [dat, PyData.depth]⟩
theorem Lay.bl {b : Bool} : Lay 0 (.bl b) := ⟨by simp [dat, PyData.canLay0], by simp [dat, PyData.depth]⟩
theorem Lay.mono {d e : Nat} {x : PV} (h : Lay d x) (l : d ≤ e) : Lay e x := ⟨h.1, Nat.le_trans h.2 l⟩
theorem Lay.tI (l : List Int) : Lay 1 (tI l) := Lay.tup fun x h => by
  obtain ⟨i, _, rfl⟩ := List.mem_map.mp h
  exact Lay.int
theorem Lay.lI (l : List Int) : Lay 1 (lI l) := Lay.lst fun x h => by
  obtain ⟨i, _, rfl⟩ := List.mem_map.mp h
  exact Lay.int
theorem Lay.tT (l : List (List Int)) : Lay 2 (tT l) := Lay.tup fun x h => by
  obtain ⟨i, _, rfl⟩ := List.mem_map.mp h
  exact Lay.tI i
theorem Lay.lT (l : List (List Int)) : Lay 2 (lT l) := Lay.lst fun x h => by
  obtain ⟨i, _, rfl⟩ := List.mem_map.mp h
  exact Lay.tI i
theorem shp_of {d : Nat} {x : PV} (h : Lay d x) (hd : d ≤ 64) : shp x = true := by
  unfold shp SeqAt.shaped
  rw [h.1, Bool.true_and]
  exact decide_eq_true (Nat.le_trans h.2 hd)
/-- equality of values is equality -/
def Eqd (x y : PV) (b : Bool) : Prop := PyData.eqv (dat x) (dat y) = b
theorem opEq_of {x y : PV} {b : Bool} {d e : Nat} (lx : Lay d x) (ly : Lay e y) (h : Eqd x y b) (hd : d ≤ 64 := by decide) (he : e ≤ 64 := by decide) : opEq x y = some (.bl b) := by
  unfold opEq
  rw [shp_of lx hd, shp_of ly he]
  show some (PV.bl (peq x y)) = _
  unfold peq
  rw [show PyData.eqv (dat x) (dat y) = b from h]
theorem opNe_of {x y : PV} {b : Bool} {d e : Nat} (lx : Lay d x) (ly : Lay e y) (h : Eqd x y b) (hd : d ≤ 64 := by decide) (he : e ≤ 64 := by decide) : opNe x y = some (.bl (!b)) := by
  unfold opNe
  rw [shp_of lx hd, shp_of ly he]
  show some (PV.bl (!peq x y)) = _
  unfold peq
  rw [show PyData.eqv (dat x) (dat y) = b from h]
theorem Eqd.int (i j : Int) : Eqd (.int i) (.int j) (decide (i = j)) := by
  show PyData.eqv (.int i) (.int j) = _
  unfold PyData.eqv
  by_cases h : i = j <;> simp [h]
theorem eqvAll_map {α : Type} [DecidableEq α] {f : α → PV} (hf : ∀ x y, Eqd (f x) (f y) (decide (x = y))) : ∀ l m : List α, PyData.eqvAll (datL (l.map f)) (datL (m.map f)) = decide (l = m)
  | [], [] => by simp [datL, PyData.eqvAll]
  | [], y :: m => by simp [datL, PyData.eqvAll]
  | x :: l, [] => by simp [datL, PyData.eqvAll]
  | x :: l, y :: m => by
    have ih := eqvAll_map hf l m
    have e : PyData.eqv (dat (f x)) (dat (f y)) = decide (x = y) := hf x y
    show PyData.eqvAll (dat (f x) :: datL (l.map f)) (dat (f y) :: datL (m.map f)) = _
    unfold PyData.eqvAll
    rw [e, ih]
    by_cases h1 : x = y <;> by_cases h2 : l = m <;> simp [h1, h2]
theorem Eqd.tup {α : Type} [DecidableEq α] {f : α → PV} (hf : ∀ x y, Eqd (f x) (f y) (decide (x = y))) (l m : List α) : Eqd (.tup (l.map f)) (.tup (m.map f)) (decide (l = m)) := by
  show PyData.eqv (.tuple _) (.tuple _) = _
  unfold PyData.eqv
  exact eqvAll_map hf l m
theorem Eqd.lst {α : Type} [DecidableEq α] {f : α → PV} (hf : ∀ x y, Eqd (f x) (f y) (decide (x = y))) (l m : List α) : Eqd (.lst (l.map f)) (.lst (m.map f)) (decide (l = m)) := by
  show PyData.eqv (.list _) (.list _) = _
  unfold PyData.eqv
  exact eqvAll_map hf l m
theorem Eqd.tI (l m : List Int) : Eqd (tI l) (tI m) (decide (l = m)) := Eqd.tup Eqd.int l m
theorem Eqd.lI (l m : List Int) : Eqd (lI l) (lI m) (decide (l = m)) := Eqd.lst Eqd.int l m
theorem Eqd.tT (l m : List (List Int)) : Eqd (tT l) (tT m) (decide (l = m)) := Eqd.tup Eqd.tI l m
theorem Eqd.lT (l m : List (List Int)) : Eqd (lT l) (lT m) (decide (l = m)) := Eqd.lst Eqd.tI l m
theorem opEq_int (i j : Int) : opEq (.int i) (.int j) = some (.bl (decide (i = j))) := opEq_of Lay.int Lay.int (Eqd.int i j)
theorem opNe_int (i j : Int) : opNe (.int i) (.int j) = some (.bl (!decide (i = j))) := opNe_of Lay.int Lay.int (Eqd.int i j)
theorem opEq_tI (l m : List Int) : opEq (tI l) (tI m) = some (.bl (decide (l = m))) := opEq_of (Lay.tI l) (Lay.tI m) (Eqd.tI l m)
theorem opNe_tI (l m : List Int) : opNe (tI l) (tI m) = some (.bl (!decide (l = m))) := opNe_of (Lay.tI l) (Lay.tI m) (Eqd.tI l m)
theorem opEq_lI (l m : List Int) : opEq (lI l) (lI m) = some (.bl (decide (l = m))) := opEq_of (Lay.lI l) (Lay.lI m) (Eqd.lI l m)
theorem opNe_lI (l m : List Int) : opNe (lI l) (lI m) = some (.bl (!decide (l = m))) := opNe_of (Lay.lI l) (Lay.lI m) (Eqd.lI l m)
theorem opNe_lT (l m : List (List Int)) : opNe (lT l) (lT m) = some (.bl (!decide (l = m))) := opNe_of (Lay.lT l) (Lay.lT m) (Eqd.lT l m)
end PL

/-! PL13: small facts for running the plain layer -/
namespace PL
open PySem PySem.Spec L2
theorem keep_nil {n : Nat} {ρ : Env} : keep [] n ρ = List.replicate n none := by
  unfold keep
  apply List.ext_getElem
  · simp
  · intro i h1 h2
    simp
theorem keep_zero {n : Nat} {a : Option PV} {ρ : Env} : keep [0] (n + 1) (a :: ρ) = a :: List.replicate n none := by
  unfold keep
  apply List.ext_getElem
  · simp
  · intro i h1 h2
    cases i with
    | zero => simp
    | succ i => simp
theorem isi_int {i : Int} : opIsi "int" (.int i) = some (.bl true) := by
  unfold opIsi tyOf
  rw [show kitB "int" "int" = some true from by decide +kernel]
  rfl
theorem isi_boolint {i : Int} : opIsi "bool" (.int i) = some (.bl false) := by
  unfold opIsi tyOf
  rw [show kitB "int" "bool" = some false from by decide +kernel]
  rfl
theorem isi_tuple {xs : List PV} : opIsi "tuple" (.tup xs) = some (.bl true) := by
  unfold opIsi tyOf
  rw [show kitB "tuple" "tuple" = some true from by decide +kernel]
  rfl
mutual
theorem eqv_self : ∀ d : PyData, d.canLay0 = true → PyData.eqv d d = true
  | .none, _ => by simp [PyData.eqv]
  | .bool _, _ => by simp [PyData.eqv]
  | .int _, _ => by simp [PyData.eqv]
  | .str _, _ => by simp [PyData.eqv]
  | .list xs, h => by
    simp only [PyData.eqv]
    exact eqvAll_self xs (by simpa [PyData.canLay0] using h)
  | .tuple xs, h => by
    simp only [PyData.eqv]
    exact eqvAll_self xs (by simpa [PyData.canLay0] using h)
  | .dict _, h => by simp [PyData.canLay0] at h
theorem eqvAll_self : ∀ xs : List PyData, PyData.canLayAll0 xs = true → PyData.eqvAll xs xs = true
  | [], _ => by simp [PyData.eqvAll]
  | x :: xs, h => by
    have h' : x.canLay0 = true ∧ PyData.canLayAll0 xs = true := by simpa [PyData.canLayAll0] using h
    simp only [PyData.eqvAll, eqv_self x h'.1, eqvAll_self xs h'.2, Bool.and_self]
end
theorem opEq_self {x : PV} {d : Nat} (h : Lay d x) (hd : d ≤ 64 := by decide) : opEq x x = some (.bl true) := opEq_of h h (eqv_self _ h.1) hd hd
theorem opNe_self {x : PV} {d : Nat} (h : Lay d x) (hd : d ≤ 64 := by decide) : opNe x x = some (.bl false) := opNe_of h h (eqv_self _ h.1) hd hd
theorem cut_take {xs : List PV} {n : Nat} : cutP xs none (some (n : Int)) = xs.take n := by
  unfold cutP
  rw [HT.sIx_nat, HT.sIx_none, List.drop_zero, Nat.sub_zero]
  by_cases h : n ≤ xs.length
  · rw [Nat.min_eq_left h]
  · rw [Nat.min_eq_right (by omega), List.take_of_length_le (Nat.le_refl _), List.take_of_length_le (by omega)]
theorem cut_drop {xs : List PV} {n : Nat} : cutP xs (some (n : Int)) none = xs.drop n := by
  unfold cutP
  rw [HT.sIx_nat, HT.sIx_none]
  by_cases h : n ≤ xs.length
  · rw [Nat.min_eq_left h, List.take_of_length_le (by rw [List.length_drop]; omega)]
  · rw [Nat.min_eq_right (by omega), List.drop_of_length_le (Nat.le_refl _), List.drop_of_length_le (by omega), List.take_nil]
theorem rg_ok {n : Nat} (h : n ≤ 16777216) : decide (-(2 ^ 62) ≤ (n : Int) ∧ (n : Int) < 2 ^ 62) = true := decide_eq_true (by omega)
theorem rg_n (n : Nat) : rgL 0 ((n : Int).toNat) = (List.range n).map fun (i : Nat) => PV.int (i : Int) := by
  rw [Int.toNat_natCast, rgL_map]
theorem rep_zero (n : Nat) : (List.replicate n [PV.int 0]).flatten = (List.replicate n (0 : Int)).map .int := by
  induction n with
  | zero => rfl
  | succ n ih =>
    rw [List.replicate_succ, List.replicate_succ, List.flatten_cons, List.map_cons, ih]
    rfl
end PL

namespace Hd
open PySem PySem.Spec PyProof.Rows L2 PL
abbrev k_KNOWN_PRIMES : PV := (.tup ([.int 3, .int 5, .int 7, .int 11, .int 13, .int 17, .int 31, .int 61, .int 97, .int 193, .int 257, .int 769, .int 12289].map Ct.p))
abbrev k_FAR : PV := (.int 1000000000000000000000000000000000000000000000000000000000000)
abbrev k_GREAT_PRIME : PV := (.int 2305843009213693951)
abbrev k_POWER : PV := (.int 17)
abbrev k_MORE : PV := (.int 3)
abbrev k_MOST_MEMBERS : PV := (.int 64)
abbrev k_MOST_LEAVES : PV := (.int 64)
abbrev k_MOST_ROW : PV := (.int 16)
abbrev k_MOST_CODED_ROWS : PV := (.int 64)
abbrev k_MOST_PLACES : PV := (.int 64)
abbrev k_MOST_PATH : PV := (.int 6)
abbrev k_MOST_ASKED : PV := (.int 8)
abbrev k_LEAF_COUNTS : PV := (.tup ([.int 1, .int 2, .int 4, .int 8, .int 16, .int 32, .int 64].map Ct.p))
abbrev k_TWO : PV := (.int 2)
-- is_whole: value
def b_is_whole : EvS := (sRet (eAnd (eUn (opIsi "int") (eVar 0)) (eNot (eUn (opIsi "bool") (eVar 0)))))
def m_is_whole : EvE := semDef 1 0 [] false b_is_whole
-- is_near: value
def b_is_near : EvS := (sRet (eAnd (eCall 1 m_is_whole (aCons (eVar 0) aNil)) (eChain opLt opLt (eUn opNeg (eC k_FAR)) (eVar 0) (eC k_FAR))))
def m_is_near : EvE := semDef 1 0 [] false b_is_near
-- is_within: value, least, most
def b_is_within : EvS := (sRet (eAnd (eCall 1 m_is_whole (aCons (eVar 0) aNil)) (eChain opLe opLe (eVar 1) (eVar 0) (eVar 2))))
def m_is_within : EvE := semDef 3 0 [] false b_is_within
-- is_number_by: p, value
def b_is_number_by : EvS := (sRet (eAnd (eCall 1 m_is_whole (aCons (eVar 1) aNil)) (eChain opLe opLt (eC (.int 0)) (eVar 1) (eVar 0))))
def m_is_number_by : EvE := semDef 2 0 [] false b_is_number_by
-- are_numbers: p, value, one
def b_are_numbers : EvS := (sRet (eAnd (eUn (opIsi "tuple") (eVar 1)) (eUn opAll (eLc (iOf (eVar 1)) (gNm 2) tYes' (eCall 2 m_is_number_by (aCons (eVar 0) (aCons (eVar 2) aNil))) [2]))))
def m_are_numbers : EvE := semDef 2 1 [] false b_are_numbers
-- is_prime_told: value
def b_is_prime_told : EvS := (sRet (eAnd (eCall 1 m_is_whole (aCons (eVar 0) aNil)) (eBin opIn (eVar 0) (eC k_KNOWN_PRIMES))))
def m_is_prime_told : EvE := semDef 1 0 [] false b_is_prime_told
-- require_prime: p
def b_require_prime : EvS := (sIf (tvNot (tOf (eCall 1 m_is_prime_told (aCons (eVar 0) aNil)))) sNever sNil)
def m_require_prime : EvE := semDef 1 0 [] false b_require_prime
-- require_number: value, least, most
def b_require_number : EvS := (sIf (tvOr (tvNot (tOf (eCall 1 m_is_near (aCons (eVar 0) aNil)))) (tvOr (tvAnd (tOf (eBin opIsNotN (eVar 1) (eC .non))) (tOf (eBin opLt (eVar 0) (eVar 1)))) (tvAnd (tOf (eBin opIsNotN (eVar 2) (eC .non))) (tOf (eBin opGt (eVar 0) (eVar 2)))))) sNever sNil)
def m_require_number : EvE := semDef 3 0 [] false b_require_number
-- raised_in: base, n, found, turn
def b_raised_in : EvS := (sSeq (sSet 2 (eC (.int 1)))
    (sSeq (sFor (iRng1 (eVar 1)) (gNm 3) (sAug 2 opMul (eVar 0)) [3])
    (sRet (eVar 2))))
def m_raised_in : EvE := semDef 2 2 [] false b_raised_in
-- trimmed: p, numbers, rests, many, one
def b_trimmed : EvS := (sSeq (sSet 2 (eLc (iOf (eVar 1)) (gNm 4) tYes' (eBin opMod (eVar 4) (eVar 0)) [4]))
    (sSeq (sSet 3 (eUn opLen (eVar 2)))
    (sSeq (sWhile (tvAnd (tOf (eBin opGt (eVar 3) (eC (.int 0)))) (tOf (eBin opEq (eBin opIx (eVar 2) (eBin opSub (eVar 3) (eC (.int 1)))) (eC (.int 0))))) (sAug 3 opSub (eC (.int 1))))
    (sRet (eUn opTuple (eSl opSl (eVar 2) pNo (pSome (eVar 3))))))))
def m_trimmed : EvE := semDef 2 3 [] false b_trimmed
-- power_in: p, x, n, found, square, left
def b_power_in : EvS := (sSeq (sPar [3, 4, 5] (aCons (eBin opMod (eC (.int 1)) (eVar 0)) (aCons (eBin opMod (eVar 1) (eVar 0)) (aCons (eVar 2) aNil))))
    (sSeq (sWhile (tOf (eBin opGt (eVar 5) (eC (.int 0)))) (sSeq (sIf (tOf (eBin opEq (eBin opMod (eVar 5) (eC (.int 2))) (eC (.int 1)))) (sSet 3 (eBin opMod (eBin opMul (eVar 3) (eVar 4)) (eVar 0))) sNil)
    (sPar [4, 5] (aCons (eBin opMod (eBin opMul (eVar 4) (eVar 4)) (eVar 0)) (aCons (eBin opDiv (eVar 5) (eC (.int 2))) aNil)))))
    (sRet (eVar 3))))
def m_power_in : EvE := semDef 3 3 [] false b_power_in
-- back_in: p, x
def b_back_in : EvS := (sRet (eCall 3 m_power_in (aCons (eVar 0) (aCons (eVar 1) (aCons (eBin opSub (eVar 0) (eC (.int 2))) aNil)))))
def m_back_in : EvE := semDef 2 0 [] false b_back_in
-- worth_in: p, f, x, found, one
def b_worth_in : EvS := (sSeq (sSet 3 (eC (.int 0)))
    (sSeq (sFor (iOf (eUn opRev (eVar 1))) (gNm 4) (sSet 3 (eBin opMod (eBin opAdd (eBin opMul (eVar 3) (eVar 2)) (eVar 4)) (eVar 0))) [4])
    (sRet (eVar 3))))
def m_worth_in : EvE := semDef 3 2 [] false b_worth_in
-- added_in: p, f, g, wide, first, second, one, other
def b_added_in : EvS := (sSeq (sSet 3 (eBin opMax (eUn opLen (eVar 1)) (eUn opLen (eVar 2))))
    (sSeq (sPar [4, 5] (aCons (eLst (aStar (eVar 1) (aStar (eBin opRep (eLst (aCons (eC (.int 0)) aNil)) (eBin opSub (eVar 3) (eUn opLen (eVar 1)))) aNil))) (aCons (eLst (aStar (eVar 2) (aStar (eBin opRep (eLst (aCons (eC (.int 0)) aNil)) (eBin opSub (eVar 3) (eUn opLen (eVar 2)))) aNil))) aNil)))
    (sRet (eCall 2 m_trimmed (aCons (eVar 0) (aCons (eLc (iZip2 (eVar 4) (eVar 5)) (gTp 2 (gsCons (gNm 6) (gsCons (gNm 7) gsNil))) tYes' (eBin opAdd (eVar 6) (eVar 7)) [6, 7]) aNil))))))
def m_added_in : EvE := semDef 3 5 [] false b_added_in
-- scaled_in: p, f, c, one
def b_scaled_in : EvS := (sRet (eCall 2 m_trimmed (aCons (eVar 0) (aCons (eLc (iOf (eVar 1)) (gNm 3) tYes' (eBin opMul (eVar 2) (eVar 3)) [3]) aNil))))
def m_scaled_in : EvE := semDef 3 1 [] false b_scaled_in
-- product_in: p, f, g, found, i, one, j, other
def b_product_in : EvS := (sSeq (sIf (tvOr (tOf (eBin opEq (eVar 1) (eTup aNil))) (tOf (eBin opEq (eVar 2) (eTup aNil)))) (sRet (eTup aNil)) sNil)
    (sSeq (sSet 3 (eBin opRep (eLst (aCons (eC (.int 0)) aNil)) (eBin opSub (eBin opAdd (eUn opLen (eVar 1)) (eUn opLen (eVar 2))) (eC (.int 1)))))
    (sSeq (sFor (iEnum (eVar 1)) (gTp 2 (gsCons (gNm 4) (gsCons (gNm 5) gsNil))) (sFor (iEnum (eVar 2)) (gTp 2 (gsCons (gNm 6) (gsCons (gNm 7) gsNil))) (sAugStore 3 (opI fun i j => i + j) (eBin opAdd (eVar 4) (eVar 6)) (eBin opMul (eVar 5) (eVar 7))) [6, 7]) [4, 5, 6, 7])
    (sRet (eCall 2 m_trimmed (aCons (eVar 0) (aCons (eMove 3) aNil)))))))
def m_product_in : EvE := semDef 3 5 [] false b_product_in
-- through_in: p, values, found, ahead, at, value, c
def b_through_in : EvS := (sSeq (sAsgT (eTup (aCons (eTup aNil) (aCons (eTup (aCons (eC (.int 1)) aNil)) aNil))) (gTp 2 (gsCons (gNm 2) (gsCons (gNm 3) gsNil))))
    (sSeq (sFor (iEnum (eVar 1)) (gTp 2 (gsCons (gNm 4) (gsCons (gNm 5) gsNil))) (sSeq (sSet 6 (eBin opMul (eBin opSub (eVar 5) (eCall 3 m_worth_in (aCons (eVar 0) (aCons (eVar 2) (aCons (eVar 4) aNil))))) (eCall 2 m_back_in (aCons (eVar 0) (aCons (eCall 3 m_worth_in (aCons (eVar 0) (aCons (eVar 3) (aCons (eVar 4) aNil)))) aNil)))))
    (sSeq (sSet 2 (eCall 3 m_added_in (aCons (eVar 0) (aCons (eVar 2) (aCons (eCall 3 m_scaled_in (aCons (eVar 0) (aCons (eVar 3) (aCons (eVar 6) aNil)))) aNil)))))
    (sSet 3 (eCall 3 m_product_in (aCons (eVar 0) (aCons (eVar 3) (aCons (eTup (aCons (eBin opMod (eUn opNeg (eVar 4)) (eVar 0)) (aCons (eC (.int 1)) aNil))) aNil))))))) [4, 5, 6])
    (sRet (eVar 2))))
def m_through_in : EvE := semDef 2 5 [] false b_through_in
-- digest_in: members, state, member
def b_digest_in : EvS := (sSeq (sSet 1 (eUn opLen (eVar 0)))
    (sSeq (sFor (iOf (eVar 0)) (gNm 2) (sSet 1 (eBin opMod (eBin opAdd (eCall 3 m_power_in (aCons (eC k_GREAT_PRIME) (aCons (eBin opAdd (eVar 1) (eVar 2)) (aCons (eC k_POWER) aNil)))) (eC k_MORE)) (eC k_GREAT_PRIME))) [2])
    (sRet (eVar 1))))
def m_digest_in : EvE := semDef 1 2 [] false b_digest_in
-- digest_layers: leaves, found, here, leaf, at
def b_digest_layers : EvS := (sSeq (sSet 1 (eLst (aCons (eLc (iOf (eVar 0)) (gNm 3) tYes' (eCall 1 m_digest_in (aCons (eVar 3) aNil)) [3]) aNil)))
    (sSeq (sWhile (tOf (eBin opGt (eUn opLen (eOwn2 1 opIx (eUn opNeg (eC (.int 1))))) (eC (.int 1)))) (sSeq (sSet 2 (eOwn2 1 opIx (eUn opNeg (eC (.int 1)))))
    (sExpr (eApp 1 (eLc (iRng3 (eC (.int 0)) (eUn opLen (eVar 2)) (eC k_TWO)) (gNm 4) tYes' (eCall 1 m_digest_in (aCons (eTup (aCons (eBin opIx (eVar 2) (eVar 4)) (aCons (eBin opIx (eVar 2) (eBin opAdd (eVar 4) (eC (.int 1)))) aNil))) aNil)) [4])))))
    (sRet (eMove 1))))
def m_digest_layers : EvE := semDef 1 4 [] true b_digest_layers
-- root_in: leaves
def b_root_in : EvS := (sRet (eBin opIx (eBin opIx (eCall 1 m_digest_layers (aCons (eVar 0) aNil)) (eUn opNeg (eC (.int 1)))) (eC (.int 0))))
def m_root_in : EvE := semDef 1 0 [] false b_root_in
-- path_in: leaves, at, found, layer
def b_path_in : EvS := (sSeq (sSet 2 (eLst aNil))
    (sSeq (sFor (iOf (eSl opSlL (eCall 1 m_digest_layers (aCons (eVar 0) aNil)) pNo (pSome (eUn opNeg (eC (.int 1)))))) (gNm 3) (sSeq (sExpr (eApp 2 (eBin opIx (eVar 3) (eBin opXor (eVar 1) (eC (.int 1))))))
    (sAug 1 opDiv (eC k_TWO))) [3])
    (sRet (eUn opTuple (eVar 2)))))
def m_path_in : EvE := semDef 2 2 [] false b_path_in
-- root_by_path_in: leaf, at, path, here, brother
def b_root_by_path_in : EvS := (sSeq (sSet 3 (eCall 1 m_digest_in (aCons (eVar 0) aNil)))
    (sSeq (sFor (iOf (eVar 2)) (gNm 4) (sSeq (sSet 3 (eIf (tOf (eBin opEq (eBin opMod (eVar 1) (eC k_TWO)) (eC (.int 0)))) (eCall 1 m_digest_in (aCons (eTup (aCons (eVar 3) (aCons (eVar 4) aNil))) aNil)) (eCall 1 m_digest_in (aCons (eTup (aCons (eVar 4) (aCons (eVar 3) aNil))) aNil))))
    (sAug 1 opDiv (eC k_TWO))) [4])
    (sRet (eVar 3))))
def m_root_by_path_in : EvE := semDef 3 2 [] false b_root_by_path_in
-- coded_row_in: p, row, many, x
def b_coded_row_in : EvS := (sRet (eUn opTuple (eLc (iRng1 (eVar 2)) (gNm 3) tYes' (eCall 3 m_worth_in (aCons (eVar 0) (aCons (eVar 1) (aCons (eVar 3) aNil)))) [3])))
def m_coded_row_in : EvE := semDef 3 1 [] false b_coded_row_in
-- coded_columns_in: p, rows, many, x, row
def b_coded_columns_in : EvS := (sRet (eUn opTuple (eLc (iRng1 (eVar 2)) (gNm 3) tYes' (eUn opTuple (eLc (iOf (eVar 1)) (gNm 4) tYes' (eCall 3 m_worth_in (aCons (eVar 0) (aCons (eVar 4) (aCons (eVar 3) aNil)))) [4])) [3])))
def m_coded_columns_in : EvE := semDef 3 2 [] false b_coded_columns_in
-- row_through: p, values, found
def b_row_through : EvS := (sSeq (sSet 2 (eCall 2 m_through_in (aCons (eVar 0) (aCons (eVar 1) aNil))))
    (sRet (eTup (aStar (eVar 2) (aStar (eBin opRep (eLst (aCons (eC (.int 0)) aNil)) (eBin opSub (eUn opLen (eVar 1)) (eUn opLen (eVar 2)))) aNil)))))
def m_row_through : EvE := semDef 2 1 [] false b_row_through
-- shifted: p, numbers, x, raised, one, other
def b_shifted : EvS := (sSeq (sSet 3 (eLst (aCons (eC (.int 0)) (aStar (eSl opSl (eVar 1) pNo (pSome (eUn opNeg (eC (.int 1))))) aNil))))
    (sRet (eLc (iZip2 (eVar 3) (eVar 1)) (gTp 2 (gsCons (gNm 4) (gsCons (gNm 5) gsNil))) tYes' (eBin opMod (eBin opSub (eVar 4) (eBin opMul (eVar 2) (eVar 5))) (eVar 0)) [4, 5])))
def m_shifted : EvE := semDef 3 3 [] true b_shifted
-- row_of_code_in: p, word, width, row
def b_row_of_code_in : EvS := (sSeq (sSet 3 (eCall 2 m_row_through (aCons (eVar 0) (aCons (eSl opSl (eVar 1) pNo (pSome (eVar 2))) aNil))))
    (sRet (eIf (tOf (eBin opEq (eCall 3 m_coded_row_in (aCons (eVar 0) (aCons (eVar 3) (aCons (eUn opLen (eVar 1)) aNil)))) (eUn opTuple (eVar 1)))) (eVar 3) (eC .non))))
def m_row_of_code_in : EvE := semDef 3 1 [] false b_row_of_code_in
-- near_row_in: p, width, found, x
def b_near_row_in : EvS := (sSeq (sSet 2 (eLst (aCons (eC (.int 1)) (aStar (eBin opRep (eLst (aCons (eC (.int 0)) aNil)) (eBin opSub (eVar 1) (eC (.int 1)))) aNil))))
    (sSeq (sFor (iRng1 (eBin opSub (eVar 1) (eC (.int 1)))) (gNm 3) (sSet 2 (eCall 3 m_shifted (aCons (eVar 0) (aCons (eVar 2) (aCons (eVar 3) aNil))))) [3])
    (sRet (eUn opTuple (eVar 2)))))
def m_near_row_in : EvE := semDef 2 2 [] false b_near_row_in
-- mixed_row_in: p, rows, factors, found, row, factor, one, other
def b_mixed_row_in : EvS := (sSeq (sSet 3 (eBin opRep (eLst (aCons (eC (.int 0)) aNil)) (eUn opLen (eBin opIx (eVar 1) (eC (.int 0))))))
    (sSeq (sFor (iZip2 (eVar 1) (eVar 2)) (gTp 2 (gsCons (gNm 4) (gsCons (gNm 5) gsNil))) (sSet 3 (eLc (iZip2 (eVar 3) (eVar 4)) (gTp 2 (gsCons (gNm 6) (gsCons (gNm 7) gsNil))) tYes' (eBin opMod (eBin opAdd (eVar 6) (eBin opMul (eVar 5) (eVar 7))) (eVar 0)) [6, 7])) [4, 5])
    (sRet (eUn opTuple (eVar 3)))))
def m_mixed_row_in : EvE := semDef 3 5 [] false b_mixed_row_in
-- mixed_column: p, column, factors, factor, number
def b_mixed_column : EvS := (sRet (eBin opMod (eUn opSum (eLc (iZip2 (eVar 2) (eVar 1)) (gTp 2 (gsCons (gNm 3) (gsCons (gNm 4) gsNil))) tYes' (eBin opMul (eVar 3) (eVar 4)) [3, 4])) (eVar 0)))
def m_mixed_column : EvE := semDef 3 2 [] false b_mixed_column
-- agreeing_in: p, columns, factors, mixed, code, x, column
def b_agreeing_in : EvS := (sSeq (sSet 4 (eCall 3 m_coded_row_in (aCons (eVar 0) (aCons (eVar 3) (aCons (eUn opLen (eVar 1)) aNil)))))
    (sRet (eUn opTuple (eLc (iEnum (eVar 1)) (gTp 2 (gsCons (gNm 5) (gsCons (gNm 6) gsNil))) (tOf (eBin opEq (eCall 3 m_mixed_column (aCons (eVar 0) (aCons (eVar 6) (aCons (eVar 2) aNil)))) (eBin opIx (eVar 4) (eVar 5)))) (eVar 5) [5, 6]))))
def m_agreeing_in : EvE := semDef 4 3 [] false b_agreeing_in
-- share_in_lowest: top, bottom, shared, rest
def b_share_in_lowest : EvS := (sSeq (sPar [2, 3] (aCons (eVar 1) (aCons (eVar 0) aNil)))
    (sSeq (sWhile (tOf (eBin opGt (eVar 3) (eC (.int 0)))) (sPar [2, 3] (aCons (eVar 3) (aCons (eBin opMod (eVar 2) (eVar 3)) aNil))))
    (sRet (eTup (aCons (eBin opDiv (eVar 0) (eVar 2)) (aCons (eBin opDiv (eVar 1) (eVar 2)) aNil))))))
def m_share_in_lowest : EvE := semDef 2 2 [] false b_share_in_lowest
-- are_members: value, member
def b_are_members : EvS := (sSeq (sIf (tvOr (tvNot (tOf (eUn (opIsi "tuple") (eVar 0)))) (tOf (eBin opGt (eUn opLen (eVar 0)) (eC k_MOST_MEMBERS)))) (sRet (eC (.bl false))) sNil)
    (sRet (eUn opAll (eLc (iOf (eVar 0)) (gNm 1) tYes' (eCall 3 m_is_within (aCons (eVar 1) (aCons (eC (.int 0)) (aCons (eBin opSub (eC k_GREAT_PRIME) (eC (.int 1))) aNil)))) [1]))))
def m_are_members : EvE := semDef 1 1 [] false b_are_members
-- are_digest_leaves: value, leaf
def b_are_digest_leaves : EvS := (sSeq (sIf (tvOr (tvNot (tOf (eUn (opIsi "tuple") (eVar 0)))) (tOf (eBin opNotIn (eUn opLen (eVar 0)) (eC k_LEAF_COUNTS)))) (sRet (eC (.bl false))) sNil)
    (sRet (eUn opAll (eLc (iOf (eVar 0)) (gNm 1) tYes' (eCall 1 m_are_members (aCons (eVar 1) aNil)) [1]))))
def m_are_digest_leaves : EvE := semDef 1 1 [] false b_are_digest_leaves
-- is_row_in: p, value
def b_is_row_in : EvS := (sRet (eAnd (eCall 2 m_are_numbers (aCons (eVar 0) (aCons (eVar 1) aNil))) (eChain opLe opLe (eC (.int 1)) (eUn opLen (eVar 1)) (eC k_MOST_ROW))))
def m_is_row_in : EvE := semDef 2 0 [] false b_is_row_in
-- are_rows_in: p, value, row
def b_are_rows_in : EvS := (sSeq (sIf (tvOr (tvNot (tOf (eUn (opIsi "tuple") (eVar 1)))) (tvNot (tOf (eChain opLe opLe (eC (.int 1)) (eUn opLen (eVar 1)) (eC k_MOST_CODED_ROWS))))) (sRet (eC (.bl false))) sNil)
    (sSeq (sIf (tvNot (tOf (eUn opAll (eLc (iOf (eVar 1)) (gNm 2) tYes' (eCall 2 m_is_row_in (aCons (eVar 0) (aCons (eVar 2) aNil))) [2])))) (sRet (eC (.bl false))) sNil)
    (sRet (eUn opAll (eLc (iOf (eVar 1)) (gNm 2) tYes' (eBin opEq (eUn opLen (eVar 2)) (eUn opLen (eBin opIx (eVar 1) (eC (.int 0))))) [2])))))
def m_are_rows_in : EvE := semDef 2 1 [] false b_are_rows_in
-- are_told_columns: p, value, column
def b_are_told_columns : EvS := (sSeq (sIf (tvOr (tvNot (tOf (eUn (opIsi "tuple") (eVar 1)))) (tvNot (tOf (eChain opLe opLe (eC (.int 1)) (eUn opLen (eVar 1)) (eBin opMin (eVar 0) (eC k_MOST_PLACES)))))) (sRet (eC (.bl false))) sNil)
    (sSeq (sIf (tvNot (tOf (eUn opAll (eLc (iOf (eVar 1)) (gNm 2) tYes' (eAnd (eCall 2 m_are_numbers (aCons (eVar 0) (aCons (eVar 2) aNil))) (eChain opLe opLe (eC (.int 1)) (eUn opLen (eVar 2)) (eC k_MOST_CODED_ROWS))) [2])))) (sRet (eC (.bl false))) sNil)
    (sRet (eUn opAll (eLc (iOf (eVar 1)) (gNm 2) tYes' (eBin opEq (eUn opLen (eVar 2)) (eUn opLen (eBin opIx (eVar 1) (eC (.int 0))))) [2])))))
def m_are_told_columns : EvE := semDef 2 1 [] false b_are_told_columns
-- require_members: members
def b_require_members : EvS := (sIf (tvNot (tOf (eCall 1 m_are_members (aCons (eVar 0) aNil)))) sNever sNil)
def m_require_members : EvE := semDef 1 0 [] false b_require_members
-- require_digest_leaves: leaves
def b_require_digest_leaves : EvS := (sIf (tvNot (tOf (eCall 1 m_are_digest_leaves (aCons (eVar 0) aNil)))) sNever sNil)
def m_require_digest_leaves : EvE := semDef 1 0 [] false b_require_digest_leaves
-- require_coded_row: p, row
def b_require_coded_row : EvS := (sIf (tvNot (tOf (eCall 2 m_is_row_in (aCons (eVar 0) (aCons (eVar 1) aNil))))) sNever sNil)
def m_require_coded_row : EvE := semDef 2 0 [] false b_require_coded_row
-- require_coded_rows: p, rows
def b_require_coded_rows : EvS := (sIf (tvNot (tOf (eCall 2 m_are_rows_in (aCons (eVar 0) (aCons (eVar 1) aNil))))) sNever sNil)
def m_require_coded_rows : EvE := semDef 2 0 [] false b_require_coded_rows
-- require_factors: p, factors, many
def b_require_factors : EvS := (sIf (tvOr (tvNot (tOf (eCall 2 m_are_numbers (aCons (eVar 0) (aCons (eVar 1) aNil))))) (tOf (eBin opNe (eUn opLen (eVar 1)) (eVar 2)))) sNever sNil)
def m_require_factors : EvE := semDef 3 0 [] false b_require_factors
-- digest: members
def b_digest : EvS := (sSeq (sExpr (eCall 1 m_require_members (aCons (eVar 0) aNil)))
    (sRet (eCall 1 m_digest_in (aCons (eVar 0) aNil))))
def m_digest : EvE := semDef 1 0 [] false b_digest
-- tree_root: leaves
def b_tree_root : EvS := (sSeq (sExpr (eCall 1 m_require_digest_leaves (aCons (eVar 0) aNil)))
    (sRet (eCall 1 m_root_in (aCons (eVar 0) aNil))))
def m_tree_root : EvE := semDef 1 0 [] false b_tree_root
-- path_of: leaves, at
def b_path_of : EvS := (sSeq (sExpr (eCall 1 m_require_digest_leaves (aCons (eVar 0) aNil)))
    (sSeq (sExpr (eCall 3 m_require_number (aCons (eVar 1) (aCons (eC (.int 0)) (aCons (eBin opSub (eUn opLen (eVar 0)) (eC (.int 1))) aNil)))))
    (sRet (eCall 2 m_path_in (aCons (eVar 0) (aCons (eVar 1) aNil))))))
def m_path_of : EvE := semDef 2 0 [] false b_path_of
-- root_by_path: leaf, at, path
def b_root_by_path : EvS := (sSeq (sExpr (eCall 1 m_require_members (aCons (eVar 0) aNil)))
    (sSeq (sExpr (eCall 3 m_require_number (aCons (eVar 1) (aCons (eC (.int 0)) (aCons (eBin opSub (eC k_MOST_LEAVES) (eC (.int 1))) aNil)))))
    (sSeq (sIf (tvOr (tvNot (tOf (eCall 1 m_are_members (aCons (eVar 2) aNil)))) (tvOr (tOf (eBin opGt (eUn opLen (eVar 2)) (eC k_MOST_PATH))) (tOf (eBin opLe (eCall 2 m_raised_in (aCons (eC k_TWO) (aCons (eUn opLen (eVar 2)) aNil))) (eVar 1))))) sNever sNil)
    (sRet (eCall 3 m_root_by_path_in (aCons (eVar 0) (aCons (eVar 1) (aCons (eVar 2) aNil))))))))
def m_root_by_path : EvE := semDef 3 0 [] false b_root_by_path
-- coded_row: p, row, M
def b_coded_row : EvS := (sSeq (sExpr (eCall 1 m_require_prime (aCons (eVar 0) aNil)))
    (sSeq (sExpr (eCall 2 m_require_coded_row (aCons (eVar 0) (aCons (eVar 1) aNil))))
    (sSeq (sExpr (eCall 3 m_require_number (aCons (eVar 2) (aCons (eUn opLen (eVar 1)) (aCons (eBin opMin (eVar 0) (eC k_MOST_PLACES)) aNil)))))
    (sRet (eCall 3 m_coded_row_in (aCons (eVar 0) (aCons (eVar 1) (aCons (eVar 2) aNil))))))))
def m_coded_row : EvE := semDef 3 0 [] false b_coded_row
-- coded_columns: p, rows, M
def b_coded_columns : EvS := (sSeq (sExpr (eCall 1 m_require_prime (aCons (eVar 0) aNil)))
    (sSeq (sExpr (eCall 2 m_require_coded_rows (aCons (eVar 0) (aCons (eVar 1) aNil))))
    (sSeq (sExpr (eCall 3 m_require_number (aCons (eVar 2) (aCons (eUn opLen (eBin opIx (eVar 1) (eC (.int 0)))) (aCons (eBin opMin (eVar 0) (eC k_MOST_PLACES)) aNil)))))
    (sRet (eCall 3 m_coded_columns_in (aCons (eVar 0) (aCons (eVar 1) (aCons (eVar 2) aNil))))))))
def m_coded_columns : EvE := semDef 3 0 [] false b_coded_columns
-- row_of_code: p, word, w
def b_row_of_code : EvS := (sSeq (sExpr (eCall 1 m_require_prime (aCons (eVar 0) aNil)))
    (sSeq (sIf (tvOr (tvNot (tOf (eCall 2 m_are_numbers (aCons (eVar 0) (aCons (eVar 1) aNil))))) (tvNot (tOf (eChain opLe opLe (eC (.int 1)) (eUn opLen (eVar 1)) (eBin opMin (eVar 0) (eC k_MOST_PLACES)))))) sNever sNil)
    (sSeq (sExpr (eCall 3 m_require_number (aCons (eVar 2) (aCons (eC (.int 1)) (aCons (eBin opMin (eUn opLen (eVar 1)) (eC k_MOST_ROW)) aNil)))))
    (sRet (eCall 3 m_row_of_code_in (aCons (eVar 0) (aCons (eVar 1) (aCons (eVar 2) aNil))))))))
def m_row_of_code : EvE := semDef 3 0 [] false b_row_of_code
-- near_row: p, w
def b_near_row : EvS := (sSeq (sExpr (eCall 1 m_require_prime (aCons (eVar 0) aNil)))
    (sSeq (sExpr (eCall 3 m_require_number (aCons (eVar 1) (aCons (eC (.int 1)) (aCons (eBin opMin (eVar 0) (eC k_MOST_ROW)) aNil)))))
    (sRet (eCall 2 m_near_row_in (aCons (eVar 0) (aCons (eVar 1) aNil))))))
def m_near_row : EvE := semDef 2 0 [] false b_near_row
-- mixed_row: p, rows, factors
def b_mixed_row : EvS := (sSeq (sExpr (eCall 1 m_require_prime (aCons (eVar 0) aNil)))
    (sSeq (sExpr (eCall 2 m_require_coded_rows (aCons (eVar 0) (aCons (eVar 1) aNil))))
    (sSeq (sExpr (eCall 3 m_require_factors (aCons (eVar 0) (aCons (eVar 2) (aCons (eUn opLen (eVar 1)) aNil)))))
    (sRet (eCall 3 m_mixed_row_in (aCons (eVar 0) (aCons (eVar 1) (aCons (eVar 2) aNil))))))))
def m_mixed_row : EvE := semDef 3 0 [] false b_mixed_row
-- agreeing_places: p, columns, factors, mixed
def b_agreeing_places : EvS := (sSeq (sExpr (eCall 1 m_require_prime (aCons (eVar 0) aNil)))
    (sSeq (sIf (tvNot (tOf (eCall 2 m_are_told_columns (aCons (eVar 0) (aCons (eVar 1) aNil))))) sNever sNil)
    (sSeq (sExpr (eCall 3 m_require_factors (aCons (eVar 0) (aCons (eVar 2) (aCons (eUn opLen (eBin opIx (eVar 1) (eC (.int 0)))) aNil)))))
    (sSeq (sIf (tvOr (tvNot (tOf (eCall 2 m_is_row_in (aCons (eVar 0) (aCons (eVar 3) aNil))))) (tOf (eBin opGt (eUn opLen (eVar 3)) (eUn opLen (eVar 1))))) sNever sNil)
    (sRet (eCall 4 m_agreeing_in (aCons (eVar 0) (aCons (eVar 1) (aCons (eVar 2) (aCons (eVar 3) aNil))))))))))
def m_agreeing_places : EvE := semDef 4 0 [] false b_agreeing_places
-- lucky_share: agreeing, asked, M
def b_lucky_share : EvS := (sSeq (sExpr (eCall 3 m_require_number (aCons (eVar 0) (aCons (eC (.int 0)) (aCons (eC k_MOST_PLACES) aNil)))))
    (sSeq (sExpr (eCall 3 m_require_number (aCons (eVar 1) (aCons (eC (.int 1)) (aCons (eC k_MOST_ASKED) aNil)))))
    (sSeq (sIf (tvNot (tOf (eCall 3 m_is_within (aCons (eVar 2) (aCons (eBin opMax (eC (.int 1)) (eVar 0)) (aCons (eC k_MOST_PLACES) aNil)))))) sNever sNil)
    (sRet (eCall 2 m_share_in_lowest (aCons (eCall 2 m_raised_in (aCons (eVar 0) (aCons (eVar 1) aNil))) (aCons (eCall 2 m_raised_in (aCons (eVar 2) (aCons (eVar 1) aNil))) aNil)))))))
def m_lucky_share : EvE := semDef 3 0 [] false b_lucky_share
-- _law_dice: script, spot, cell, left
def b__law_dice : EvS := (sSeq (sSet 2 (eIf (tOf (eBin opLt (eVar 1) (eUn opLen (eVar 0)))) (eUn opInt (eBin opIx (eVar 0) (eVar 1))) (eBin opAdd (eBin opMul (eC (.int 97)) (eVar 1)) (eC (.int 43)))))
    (sSeq (sSet 3 (eBin opMod (eBin opMax (eC (.int 0)) (eBin opSub (eUn opAbs (eVar 2)) (eBin opPow (eC (.int 10)) (eC (.int 17))))) (eBin opMul (eBin opPow (eC (.int 10)) (eC (.int 60))) (eBin opPow (eC (.int 10)) (eC (.int 60))))))
    (sRet (eLst (aCons (eVar 3) (aCons (eBin opAdd (eBin opAdd (eBin opAdd (eBin opMul (eBin opMod (eUn opAbs (eVar 2)) (eC (.int 1152921504606846737))) (eC (.int 37))) (eBin opMul (eC (.int 853)) (eVar 1))) (eBin opMul (eC (.int 31)) (eUn opInt (eBin opLt (eVar 2) (eC (.int 0)))))) (eC (.int 17))) (aCons (eC (.int 0)) aNil)))))))
def m__law_dice : EvE := semDef 2 2 [] true b__law_dice
-- _law_roll: dice, total, found, one, two
def b__law_roll : EvS := (sSeq (sIf (tOf (eBin opGt (eOwn2 0 opIx (eC (.int 0))) (eC (.int 0)))) (sSeq (sSet 2 (eBin opMod (eUn opInt (eOwn2 0 opIx (eC (.int 0)))) (eVar 1)))
    (sSeq (sStore 0 (eC (.int 0)) (eBin opDiv (eOwn2 0 opIx (eC (.int 0))) (eVar 1)))
    (sRet (eVar 2)))) sNil)
    (sSeq (sStore 0 (eC (.int 2)) (eBin opAdd (eOwn2 0 opIx (eC (.int 2))) (eC (.int 1))))
    (sSeq (sSet 3 (eBin opMod (eUn opInt (eBin opAdd (eOwn2 0 opIx (eC (.int 1))) (eBin opMul (eC (.int 15486277)) (eOwn2 0 opIx (eC (.int 2)))))) (eC (.int 2305843009213693951))))
    (sSeq (sSet 4 (eBin opAdd (eBin opMul (eBin opMod (eUn opInt (eBin opAdd (eBin opMul (eVar 3) (eVar 3)) (eBin opMul (eC (.int 199)) (eOwn2 0 opIx (eC (.int 2)))))) (eC (.int 2305843009213693907))) (eC (.int 7368787))) (eVar 3)))
    (sRet (eBin opMod (eUn opInt (eBin opDiv (eVar 4) (eC (.int 65581)))) (eVar 1)))))))
def m__law_roll : EvE := semDef 2 3 [0] false b__law_roll
-- _law_pick: dice, items
def b__law_pick : EvS := (sRet (eBin opIx (eVar 1) (eCallL 2 0 0 m__law_roll (lLe 0 (lSh (eUn opLen (eVar 1)) lNil)))))
def m__law_pick : EvE := semDef 2 0 [0] false b__law_pick
-- _law_row: dice, p, n, turn
def b__law_row : EvS := (sRet (eUn opTuple (eLc (iRng1 (eVar 2)) (gNm 3) tYes' (eCallL 2 0 0 m__law_roll (lLe 0 (lSh (eVar 1) lNil))) [3])))
def m__law_row : EvE := semDef 3 1 [0] false b__law_row
-- _law_po_worth: p, f, x, found, one
def b__law_po_worth : EvS := (sSeq (sSet 3 (eC (.int 0)))
    (sSeq (sFor (iOf (eUn opRev (eVar 1))) (gNm 4) (sSet 3 (eBin opMod (eUn opInt (eBin opAdd (eBin opMul (eVar 3) (eVar 2)) (eVar 4))) (eVar 0))) [4])
    (sRet (eVar 3))))
def m__law_po_worth : EvE := semDef 3 2 [] false b__law_po_worth
-- _law_points: numbers, n, found, turn, later, one, x
def b__law_points : EvS := (sSeq (sSet 2 (eLst (aCons (eTup aNil) aNil)))
    (sSeq (sFor (iRng1 (eVar 1)) (gNm 3) (sSeq (sSet 4 (eLst aNil))
    (sSeq (sFor (iOf (eVar 2)) (gNm 5) (sExpr (eExtend 4 (eLc (iOf (eVar 0)) (gNm 6) tYes' (eBin opAdd (eVar 5) (eTup (aCons (eVar 6) aNil))) [6]))) [5])
    (sSet 2 (eMove 4)))) [3, 4, 5])
    (sRet (eVar 2))))
def m__law_points : EvE := semDef 2 5 [] false b__law_points
-- _law_often: x, n, found, turn
def b__law_often : EvS := (sSeq (sSet 2 (eC (.int 1)))
    (sSeq (sFor (iRng1 (eVar 1)) (gNm 3) (sSet 2 (eBin opMul (eVar 2) (eVar 0))) [3])
    (sRet (eVar 2))))
def m__law_often : EvE := semDef 2 2 [] false b__law_often
-- _law_choose: n, k, found, i
def b__law_choose : EvS := (sSeq (sSet 2 (eC (.int 1)))
    (sSeq (sFor (iRng1 (eVar 1)) (gNm 3) (sSet 2 (eBin opDiv (eBin opMul (eVar 2) (eBin opSub (eVar 0) (eVar 3))) (eBin opAdd (eVar 3) (eC (.int 1))))) [3])
    (sRet (eVar 2))))
def m__law_choose : EvE := semDef 2 2 [] false b__law_choose
-- _law_known_count: p, far, w, d, least, found, j, part
def b__law_known_count : EvS := (sSeq (sPar [4, 5] (aCons (eBin opAdd (eBin opSub (eVar 1) (eVar 2)) (eC (.int 1))) (aCons (eC (.int 0)) aNil)))
    (sSeq (sIf (tOf (eBin opEq (eVar 3) (eC (.int 0)))) (sRet (eC (.int 1))) sNil)
    (sSeq (sFor (iRng1 (eBin opMax (eC (.int 0)) (eBin opAdd (eBin opSub (eVar 3) (eVar 4)) (eC (.int 1))))) (gNm 6) (sSeq (sSet 7 (eBin opMul (eCall 2 m__law_choose (aCons (eVar 3) (aCons (eVar 6) aNil))) (eBin opSub (eCall 2 m__law_often (aCons (eVar 0) (aCons (eBin opSub (eBin opAdd (eBin opSub (eVar 3) (eVar 4)) (eC (.int 1))) (eVar 6)) aNil))) (eC (.int 1)))))
    (sSet 5 (eBin opAdd (eVar 5) (eIf (tOf (eBin opEq (eBin opMod (eUn opInt (eVar 6)) (eC (.int 2))) (eC (.int 0)))) (eVar 7) (eBin opSub (eC (.int 0)) (eVar 7)))))) [6, 7])
    (sRet (eBin opMul (eCall 2 m__law_choose (aCons (eVar 1) (aCons (eVar 3) aNil))) (eVar 5))))))
def m__law_known_count : EvE := semDef 4 4 [] false b__law_known_count
-- _law_all_right: dice, p, w, far, counts, row, word, d, near, at, one, x
def b__law_all_right : EvS := (sSeq (sAsgT (eCallL 2 0 0 m__law_pick (lLe 0 (lSh (eLst (aCons (eTup (aCons (eC (.int 3)) (aCons (eC (.int 1)) aNil))) (aCons (eTup (aCons (eC (.int 3)) (aCons (eC (.int 2)) aNil))) (aCons (eTup (aCons (eC (.int 3)) (aCons (eC (.int 3)) aNil))) (aCons (eTup (aCons (eC (.int 5)) (aCons (eC (.int 1)) aNil))) (aCons (eTup (aCons (eC (.int 5)) (aCons (eC (.int 2)) aNil))) (aCons (eTup (aCons (eC (.int 5)) (aCons (eC (.int 3)) aNil))) (aCons (eTup (aCons (eC (.int 7)) (aCons (eC (.int 1)) aNil))) (aCons (eTup (aCons (eC (.int 7)) (aCons (eC (.int 2)) aNil))) (aCons (eTup (aCons (eC (.int 11)) (aCons (eC (.int 2)) aNil))) (aCons (eTup (aCons (eC (.int 13)) (aCons (eC (.int 2)) aNil))) aNil))))))))))) lNil))) (gTp 2 (gsCons (gNm 1) (gsCons (gNm 2) gsNil))))
    (sSeq (sSet 3 (eBin opAdd (eVar 2) (eCallL 2 0 0 m__law_roll (lLe 0 (lSh (eBin opAdd (eBin opSub (eVar 1) (eVar 2)) (eC (.int 1))) lNil)))))
    (sSeq (sSet 4 (eBin opRep (eLst (aCons (eC (.int 0)) aNil)) (eBin opAdd (eVar 3) (eC (.int 1)))))
    (sSeq (sFor (iOf (eCall 2 m__law_points (aCons (eLstRg1 (eVar 1)) (aCons (eVar 2) aNil)))) (gNm 5) (sSeq (sSet 6 (eCall 3 m_coded_row (aCons (eVar 1) (aCons (eVar 5) (aCons (eVar 3) aNil)))))
    (sSeq (sIf (tOf (eBin opNe (eUn opList (eVar 6)) (eLc (iRng1 (eVar 3)) (gNm 11) tYes' (eCall 3 m__law_po_worth (aCons (eVar 1) (aCons (eVar 5) (aCons (eVar 11) aNil)))) [11]))) (sRet (eC (.bl false))) sNil)
    (sSeq (sSet 7 (eUn opLen (eLc (iOf (eVar 6)) (gNm 10) (tOf (eBin opNe (eVar 10) (eC (.int 0)))) (eVar 10) [10])))
    (sStore 4 (eVar 7) (eBin opAdd (eOwn2 4 opIx (eVar 7)) (eC (.int 1))))))) [5, 6, 7])
    (sSeq (sIf (tOf (eOwn2 4 opNe (eLc (iRng1 (eBin opAdd (eVar 3) (eC (.int 1)))) (gNm 7) tYes' (eCall 4 m__law_known_count (aCons (eVar 1) (aCons (eVar 3) (aCons (eVar 2) (aCons (eVar 7) aNil))))) [7]))) (sRet (eC (.bl false))) sNil)
    (sSeq (sSet 8 (eCall 3 m_coded_row (aCons (eVar 1) (aCons (eCall 2 m_near_row (aCons (eVar 1) (aCons (eVar 2) aNil))) (aCons (eVar 3) aNil)))))
    (sRet (eBin opEq (eLc (iEnum (eVar 8)) (gTp 2 (gsCons (gNm 9) (gsCons (gNm 10) gsNil))) (tOf (eBin opEq (eVar 10) (eC (.int 0)))) (eVar 9) [9, 10]) (eLstRg1 (eBin opSub (eVar 2) (eC (.int 1))))))))))))
def m__law_all_right : EvE := semDef 1 11 [0] false b__law_all_right
-- _law_word_right: dice, p, w, far, row, word, at, bent
def b__law_word_right : EvS := (sSeq (sPar [1, 2] (aCons (eCallL 2 0 0 m__law_pick (lLe 0 (lSh (eLst (aCons (eC (.int 5)) (aCons (eC (.int 7)) (aCons (eC (.int 11)) (aCons (eC (.int 13)) (aCons (eC (.int 97)) aNil)))))) lNil))) (aCons (eBin opAdd (eC (.int 1)) (eCallL 2 0 0 m__law_roll (lLe 0 (lSh (eC (.int 4)) lNil)))) aNil)))
    (sSeq (sSet 3 (eBin opMin (eVar 1) (eBin opAdd (eBin opAdd (eVar 2) (eC (.int 1))) (eCallL 2 0 0 m__law_roll (lLe 0 (lSh (eC (.int 8)) lNil))))))
    (sSeq (sSet 4 (eCallL 3 0 0 m__law_row (lLe 0 (lSh (eVar 1) (lSh (eVar 2) lNil)))))
    (sSeq (sPar [5, 6] (aCons (eCall 3 m_coded_row (aCons (eVar 1) (aCons (eVar 4) (aCons (eVar 3) aNil)))) (aCons (eCallL 2 0 0 m__law_roll (lLe 0 (lSh (eVar 3) lNil))) aNil)))
    (sSeq (sSet 7 (eBin opAdd (eBin opAdd (eSl opSl (eVar 5) pNo (pSome (eVar 6))) (eTup (aCons (eBin opMod (eUn opInt (eBin opAdd (eBin opAdd (eBin opIx (eVar 5) (eVar 6)) (eC (.int 1))) (eCallL 2 0 0 m__law_roll (lLe 0 (lSh (eBin opSub (eVar 1) (eC (.int 1))) lNil))))) (eVar 1)) aNil))) (eSl opSl (eVar 5) (pSome (eBin opAdd (eVar 6) (eC (.int 1)))) pNo)))
    (sRet (eBin opEq (eLst (aCons (eCall 3 m_row_of_code (aCons (eVar 1) (aCons (eVar 5) (aCons (eVar 2) aNil)))) (aCons (eCall 3 m_row_of_code (aCons (eVar 1) (aCons (eVar 7) (aCons (eVar 2) aNil)))) aNil))) (eLst (aCons (eVar 4) (aCons (eC .non) aNil))))))))))
def m__law_word_right : EvE := semDef 1 7 [0] false b__law_word_right
-- _law_divisor: one, other
def b__law_divisor : EvS := (sSeq (sWhile (tOf (eBin opGt (eVar 1) (eC (.int 0)))) (sPar [0, 1] (aCons (eVar 1) (aCons (eBin opMod (eUn opInt (eVar 0)) (eVar 1)) aNil))))
    (sRet (eVar 0)))
def m__law_divisor : EvE := semDef 2 0 [] false b__law_divisor
-- _law_mixed_right: dice, p, w, many, far, rows, factors, columns, mixed, due, other, turn, at, told, x, column, both, asked, a, share, top, bottom, k, row, c, one
def b__law_mixed_right : EvS := (sSeq (sAsgT (eTup (aCons (eCallL 2 0 0 m__law_pick (lLe 0 (lSh (eLst (aCons (eC (.int 7)) (aCons (eC (.int 13)) (aCons (eC (.int 97)) (aCons (eC (.int 193)) aNil))))) lNil))) (aCons (eBin opAdd (eC (.int 1)) (eCallL 2 0 0 m__law_roll (lLe 0 (lSh (eC (.int 4)) lNil)))) (aCons (eBin opAdd (eC (.int 1)) (eCallL 2 0 0 m__law_roll (lLe 0 (lSh (eC (.int 5)) lNil)))) aNil)))) (gTp 3 (gsCons (gNm 1) (gsCons (gNm 2) (gsCons (gNm 3) gsNil)))))
    (sSeq (sSet 4 (eBin opMin (eVar 1) (eBin opAdd (eVar 2) (eCallL 2 0 0 m__law_roll (lLe 0 (lSh (eC (.int 12)) lNil))))))
    (sSeq (sAsgT (eTup (aCons (eUn opTuple (eLc (iRng1 (eVar 3)) (gNm 11) tYes' (eCallL 3 0 0 m__law_row (lLe 0 (lSh (eVar 1) (lSh (eVar 2) lNil)))) [11])) (aCons (eCallL 3 0 0 m__law_row (lLe 0 (lSh (eVar 1) (lSh (eVar 3) lNil)))) aNil))) (gTp 2 (gsCons (gNm 5) (gsCons (gNm 6) gsNil))))
    (sSeq (sSet 7 (eUn opList (eCall 3 m_coded_columns (aCons (eVar 1) (aCons (eVar 5) (aCons (eVar 4) aNil))))))
    (sSeq (sIf (tOf (eOwn2 7 opNe (eLc (iRng1 (eVar 4)) (gNm 14) tYes' (eUn opTuple (eLc (iOf (eVar 5)) (gNm 23) tYes' (eCall 3 m__law_po_worth (aCons (eVar 1) (aCons (eVar 23) (aCons (eVar 14) aNil)))) [23])) [14]))) (sRet (eC (.bl false))) sNil)
    (sSeq (sSet 8 (eCall 3 m_mixed_row (aCons (eVar 1) (aCons (eVar 5) (aCons (eVar 6) aNil)))))
    (sSeq (sSet 9 (eLc (iRng1 (eVar 2)) (gNm 22) tYes' (eBin opMod (eUn opInt (eUn opSum (eLc (iZip2 (eVar 6) (eVar 5)) (gTp 2 (gsCons (gNm 24) (gsCons (gNm 23) gsNil))) tYes' (eBin opMul (eVar 24) (eBin opIx (eVar 23) (eVar 22))) [24, 23]))) (eVar 1)) [22]))
    (sSeq (sIf (tvOr (tOf (eBin opNe (eVar 8) (eUn opTuple (eVar 9)))) (tOf (eBin opNe (eCall 4 m_agreeing_places (aCons (eVar 1) (aCons (eUn opTuple (eVar 7)) (aCons (eVar 6) (aCons (eVar 8) aNil))))) (eTupRg1 (eVar 4))))) (sRet (eC (.bl false))) sNil)
    (sSeq (sSet 10 (eCallL 3 0 0 m__law_row (lLe 0 (lSh (eVar 1) (lSh (eVar 2) lNil)))))
    (sSeq (sIf (tvAnd (tOf (eBin opNe (eVar 10) (eVar 8))) (tOf (eBin opGt (eUn opLen (eCall 4 m_agreeing_places (aCons (eVar 1) (aCons (eUn opTuple (eVar 7)) (aCons (eVar 6) (aCons (eVar 10) aNil)))))) (eBin opSub (eVar 2) (eC (.int 1)))))) (sRet (eC (.bl false))) sNil)
    (sSeq (sFor (iRng1 (eC (.int 2))) (gNm 11) (sSeq (sSet 12 (eCallL 2 0 0 m__law_roll (lLe 0 (lSh (eVar 4) lNil))))
    (sStore 7 (eVar 12) (eCallL 3 0 0 m__law_row (lLe 0 (lSh (eVar 1) (lSh (eVar 3) lNil)))))) [11, 12])
    (sSeq (sSet 13 (eLst aNil))
    (sSeq (sForO 7 (enumP 0) (gTp 2 (gsCons (gNm 14) (gsCons (gNm 15) gsNil))) (sSeq (sSet 16 (eBin opMod (eUn opInt (eUn opSum (eLc (iZip2 (eVar 6) (eVar 15)) (gTp 2 (gsCons (gNm 24) (gsCons (gNm 25) gsNil))) tYes' (eBin opMul (eVar 24) (eVar 25)) [24, 25]))) (eVar 1)))
    (sSet 13 (eBin opAdd (eVar 13) (eBin opRep (eLst (aCons (eVar 14) aNil)) (eUn opInt (eBin opEq (eVar 16) (eCall 3 m__law_po_worth (aCons (eVar 1) (aCons (eVar 10) (aCons (eVar 14) aNil)))))))))) [14, 15, 16])
    (sSeq (sIf (tOf (eBin opNe (eCall 4 m_agreeing_places (aCons (eVar 1) (aCons (eUn opTuple (eVar 7)) (aCons (eVar 6) (aCons (eVar 10) aNil))))) (eUn opTuple (eVar 13)))) (sRet (eC (.bl false))) sNil)
    (sSeq (sPar [17, 18] (aCons (eBin opAdd (eC (.int 1)) (eCallL 2 0 0 m__law_roll (lLe 0 (lSh (eC (.int 4)) lNil)))) (aCons (eUn opLen (eVar 13)) aNil)))
    (sSeq (sSet 19 (eCall 3 m_lucky_share (aCons (eVar 18) (aCons (eVar 17) (aCons (eVar 4) aNil)))))
    (sSeq (sIf (tOf (eBin opEq (eVar 18) (eC (.int 0)))) (sRet (eBin opEq (eVar 19) (eTup (aCons (eC (.int 0)) (aCons (eC (.int 1)) aNil))))) sNil)
    (sSeq (sPar [20, 21] (aCons (eCall 2 m__law_often (aCons (eVar 18) (aCons (eVar 17) aNil))) (aCons (eCall 2 m__law_often (aCons (eVar 4) (aCons (eVar 17) aNil))) aNil)))
    (sRet (eAnd (eBin opEq (eBin opMul (eBin opIx (eVar 19) (eC (.int 0))) (eVar 21)) (eBin opMul (eBin opIx (eVar 19) (eC (.int 1))) (eVar 20))) (eBin opEq (eCall 2 m__law_divisor (aCons (eBin opIx (eVar 19) (eC (.int 0))) (aCons (eBin opIx (eVar 19) (eC (.int 1))) aNil))) (eC (.int 1)))))))))))))))))))))))
def m__law_mixed_right : EvE := semDef 1 25 [0] false b__law_mixed_right
-- _law_tree_right: dice, leaves, at, root, path, bent, other, turn, i, leaf
def b__law_tree_right : EvS := (sSeq (sSet 1 (eLc (iRng1 (eCallL 2 0 0 m__law_pick (lLe 0 (lSh (eLst (aCons (eC (.int 1)) (aCons (eC (.int 2)) (aCons (eC (.int 4)) (aCons (eC (.int 8)) aNil))))) lNil)))) (gNm 7) tYes' (eCallL 3 0 0 m__law_row (lLe 0 (lSh (eC (.int 12289)) (lSh (eCallL 2 0 0 m__law_roll (lLe 0 (lSh (eC (.int 4)) lNil))) lNil)))) [7]))
    (sSeq (sSet 2 (eCallL 2 0 0 m__law_roll (lLe 0 (lSh (eUn opLen (eVar 1)) lNil))))
    (sSeq (sPar [3, 4] (aCons (eCall 1 m_tree_root (aCons (eUn opTuple (eVar 1)) aNil)) (aCons (eCall 2 m_path_of (aCons (eUn opTuple (eVar 1)) (aCons (eVar 2) aNil))) aNil)))
    (sSeq (sIf (tvOr (tOf (eBin opNe (eCall 3 m_root_by_path (aCons (eBin opIx (eVar 1) (eVar 2)) (aCons (eVar 2) (aCons (eVar 4) aNil)))) (eVar 3))) (tOf (eBin opNe (eCall 2 m__law_often (aCons (eC (.int 2)) (aCons (eUn opLen (eVar 4)) aNil))) (eUn opLen (eVar 1))))) (sRet (eC (.bl false))) sNil)
    (sSeq (sIf (tvAnd (tOf (eBin opEq (eUn opLen (eVar 1)) (eC (.int 1)))) (tOf (eBin opNe (eVar 3) (eCall 1 m_digest (aCons (eBin opIx (eVar 1) (eC (.int 0))) aNil))))) (sRet (eC (.bl false))) sNil)
    (sSeq (sIf (tOf (eBin opEq (eBin opIx (eVar 1) (eVar 2)) (eTup aNil))) (sRet (eC (.bl true))) sNil)
    (sSeq (sSet 5 (eBin opAdd (eTup (aCons (eBin opAdd (eBin opIx (eBin opIx (eVar 1) (eVar 2)) (eC (.int 0))) (eC (.int 1))) aNil)) (eSl opSl (eBin opIx (eVar 1) (eVar 2)) (pSome (eC (.int 1))) pNo)))
    (sSeq (sSet 6 (eUn opTuple (eLc (iEnum (eVar 1)) (gTp 2 (gsCons (gNm 8) (gsCons (gNm 9) gsNil))) tYes' (eIf (tOf (eBin opEq (eVar 8) (eVar 2))) (eVar 5) (eVar 9)) [8, 9])))
    (sRet (eAnd (eBin opEq (eCall 3 m_root_by_path (aCons (eVar 5) (aCons (eVar 2) (aCons (eVar 4) aNil)))) (eCall 1 m_tree_root (aCons (eVar 6) aNil))) (eBin opNe (eCall 1 m_tree_root (aCons (eVar 6) aNil)) (eVar 3))))))))))))
def m__law_tree_right : EvE := semDef 1 9 [0] false b__law_tree_right
-- law: script, spot, dice, turn, counts, d
def b_law : EvS := (sSeq (sFor (iRng1 (eBin opMax (eC (.int 1)) (eBin opMin (eC (.int 3)) (eUn opLen (eVar 0))))) (gNm 1) (sSeq (sSet 2 (eCall 2 m__law_dice (aCons (eVar 0) (aCons (eVar 1) aNil))))
    (sSeq (sIf (tvNot (tOf (eCallL 1 0 2 m__law_all_right (lLe 2 lNil)))) (sRet (eC (.bl false))) sNil)
    (sFor (iRng1 (eC (.int 3))) (gNm 3) (sIf (tvOr (tvNot (tOf (eCallL 1 0 2 m__law_word_right (lLe 2 lNil)))) (tvOr (tvNot (tOf (eCallL 1 0 2 m__law_mixed_right (lLe 2 lNil)))) (tvNot (tOf (eCallL 1 0 2 m__law_tree_right (lLe 2 lNil)))))) (sRet (eC (.bl false))) sNil) [3]))) [1, 2, 3])
    (sSeq (sSet 4 (eLc (iRng1 (eC (.int 5))) (gNm 5) tYes' (eCall 4 m__law_known_count (aCons (eC (.int 5)) (aCons (eC (.int 4)) (aCons (eC (.int 2)) (aCons (eVar 5) aNil))))) [5]))
    (sRet (eAnd (eBin opEq (eVar 4) (eLst (aCons (eC (.int 1)) (aCons (eC (.int 0)) (aCons (eC (.int 0)) (aCons (eC (.int 16)) (aCons (eC (.int 8)) aNil))))))) (eBin opEq (eCall 3 m_lucky_share (aCons (eC (.int 64)) (aCons (eC (.int 8)) (aCons (eC (.int 64)) aNil)))) (eTup (aCons (eC (.int 1)) (aCons (eC (.int 1)) aNil))))))))
def m_law : EvE := semDef 1 5 [] false b_law
end Hd

/-! M1: sums of powers modulo a prime -/
namespace PM
def ev : List Int → Int → Int
  | [], _ => 0
  | c :: g, x => ev g x * x + c
def worth (p : Int) : List Int → Int → Int
  | [], _ => 0
  | c :: g, x => (worth p g x * x + c) % p
abbrev Nums (p : Int) (l : List Int) : Prop := ∀ x ∈ l, 0 ≤ x ∧ x < p
theorem mulmod (p a x c : Int) : (a % p * x + c) % p = (a * x + c) % p := by
  rw [Int.add_emod, Int.mul_emod, Int.emod_emod_of_dvd _ (Int.dvd_refl p), ← Int.mul_emod, ← Int.add_emod]
theorem worth_ev (p : Int) (hp : 0 < p) : ∀ (f : List Int) (x : Int), worth p f x = ev f x % p
  | [], x => by simp [worth, ev]
  | c :: g, x => by
    show (worth p g x * x + c) % p = (ev g x * x + c) % p
    rw [worth_ev p hp g x, mulmod]
theorem worth_nums {p : Int} (hp : 0 < p) (f : List Int) (x : Int) : 0 ≤ worth p f x ∧ worth p f x < p := by
  rw [worth_ev p hp]
  exact ⟨Int.emod_nonneg _ (by omega), Int.emod_lt_of_pos _ hp⟩
theorem worth_fold (p : Int) (x : Int) : ∀ f : List Int, f.reverse.foldl (fun a c => (a * x + c) % p) 0 = worth p f x
  | [] => rfl
  | c :: g => by
    rw [List.reverse_cons, List.foldl_append, worth_fold p x g]
    rfl
/-! ### congruence -/
abbrev Cg (p a b : Int) : Prop := p ∣ a - b
theorem Cg.iff {p a b : Int} : Cg p a b ↔ a % p = b % p := by
  unfold Cg
  rw [Int.emod_eq_emod_iff_emod_sub_eq_zero, Int.dvd_iff_emod_eq_zero]
theorem Cg.refl (p a : Int) : Cg p a a := by unfold Cg; simp
theorem Cg.symm {p a b : Int} (h : Cg p a b) : Cg p b a := Cg.iff.mpr (Cg.iff.mp h).symm
theorem Cg.trans {p a b c : Int} (h : Cg p a b) (h' : Cg p b c) : Cg p a c := Cg.iff.mpr ((Cg.iff.mp h).trans (Cg.iff.mp h'))
theorem Cg.mod (p a : Int) : Cg p (a % p) a := Cg.iff.mpr (Int.emod_emod_of_dvd _ (Int.dvd_refl p))
theorem Cg.add {p a b c d : Int} (h : Cg p a b) (h' : Cg p c d) : Cg p (a + c) (b + d) := by
  have e : a + c - (b + d) = (a - b) + (c - d) := by omega
  show p ∣ _
  rw [e]
  exact Int.dvd_add h h'
theorem Cg.sub {p a b c d : Int} (h : Cg p a b) (h' : Cg p c d) : Cg p (a - c) (b - d) := by
  have e : a - c - (b - d) = (a - b) - (c - d) := by omega
  show p ∣ _
  rw [e]
  exact Int.dvd_sub h h'
theorem Cg.mul {p a b c d : Int} (h : Cg p a b) (h' : Cg p c d) : Cg p (a * c) (b * d) := by
  have e : a * c - b * d = (a - b) * c + b * (c - d) := by
    rw [Int.sub_mul, Int.mul_sub]
    omega
  show p ∣ _
  rw [e]
  exact Int.dvd_add (Int.dvd_mul_of_dvd_left h) (Int.dvd_mul_of_dvd_right h')
theorem Cg.zero {p a : Int} : Cg p a 0 ↔ p ∣ a := by
  unfold Cg
  rw [Int.sub_zero]
theorem Cg.eq {p a b : Int} (h : Cg p a b) (ha : 0 ≤ a ∧ a < p) (hb : 0 ≤ b ∧ b < p) : a = b := by
  have := Cg.iff.mp h
  rw [Int.emod_eq_of_lt ha.1 ha.2, Int.emod_eq_of_lt hb.1 hb.2] at this
  exact this
theorem ev_append : ∀ (a b : List Int) (x : Int), ev (a ++ b) x = ev a x + x ^ a.length * ev b x
  | [], b, x => by simp [ev]
  | c :: a, b, x => by
    show ev (a ++ b) x * x + c = ev a x * x + c + x ^ (a.length + 1) * ev b x
    rw [ev_append a b x, Int.add_mul, Int.pow_succ]
    have : x ^ a.length * ev b x * x = x ^ a.length * x * ev b x := by rw [Int.mul_assoc, Int.mul_comm (ev b x) x, ← Int.mul_assoc]
    omega
theorem ev_mods (p : Int) : ∀ (l : List Int) (x : Int), Cg p (ev (l.map (· % p)) x) (ev l x)
  | [], x => Cg.refl _ _
  | c :: g, x => Cg.add (Cg.mul (ev_mods p g x) (Cg.refl p x)) (Cg.mod p c)
theorem ev_scale (c : Int) : ∀ (l : List Int) (x : Int), ev (l.map (c * ·)) x = c * ev l x
  | [], x => by simp [ev]
  | d :: g, x => by
    show ev (g.map (c * ·)) x * x + c * d = c * (ev g x * x + d)
    rw [ev_scale c g x, Int.mul_add, Int.mul_assoc]
theorem ev_nil_zeros : ∀ (n : Nat) (x : Int), ev (List.replicate n 0) x = 0
  | 0, _ => rfl
  | n + 1, x => by
    rw [List.replicate_succ]
    show ev (List.replicate n 0) x * x + 0 = 0
    rw [ev_nil_zeros n x]
    omega
theorem ev_zeros (l : List Int) (n : Nat) (x : Int) : ev (l ++ List.replicate n 0) x = ev l x := by
  rw [ev_append, ev_nil_zeros, Int.mul_zero, Int.add_zero]
theorem ev_zipAdd : ∀ (f g : List Int) (x : Int), f.length = g.length → ev (List.zipWith (fun a b => a + b) f g) x = ev f x + ev g x
  | [], [], x, _ => by simp [ev]
  | a :: f, b :: g, x, h => by
    have ih := ev_zipAdd f g x (by simpa using h)
    show ev (List.zipWith _ f g) x * x + (a + b) = ev f x * x + a + (ev g x * x + b)
    rw [ih, Int.add_mul]
    omega
  | [], _ :: _, _, h => by simp at h
  | _ :: _, [], _, h => by simp at h
theorem ev_set : ∀ {l : List Int} {k : Nat} {a v x : Int}, l[k]? = some a → ev (l.set k (a + v)) x = ev l x + v * x ^ k
  | c :: g, 0, a, v, x, h => by
    have h : c = a := by simpa using h
    subst h
    show ev g x * x + (c + v) = ev g x * x + c + v * x ^ 0
    rw [Int.pow_zero, Int.mul_one]
    omega
  | c :: g, k + 1, a, v, x, h => by
    have ih := ev_set (l := g) (k := k) (a := a) (v := v) (x := x) (by simpa using h)
    show ev (g.set k (a + v)) x * x + c = ev g x * x + c + v * x ^ (k + 1)
    rw [ih, Int.add_mul, Int.pow_succ, Int.mul_assoc]
    omega
/-! ### primes -/
def Pr (p : Int) : Prop := 1 < p ∧ ∀ a b, p ∣ a * b → p ∣ a ∨ p ∣ b
theorem pr_of {n : Nat} (h : 2 ≤ n) (hd : ∀ d, d < n + 1 → n % d = 0 → d = 1 ∨ d = n) : Pr (n : Int) := by
  refine ⟨by omega, fun a b hab => ?_⟩
  have h1 : n ∣ a.natAbs * b.natAbs := by
    rw [← Int.natAbs_mul]
    exact Int.natAbs_dvd_natAbs.mpr hab
  have hg : Nat.gcd n a.natAbs ∣ n := Nat.gcd_dvd_left _ _
  rcases hd (Nat.gcd n a.natAbs) (by have := Nat.le_of_dvd (by omega) hg; omega) (Nat.mod_eq_zero_of_dvd hg) with q | q
  · right
    have : n ∣ b.natAbs := Nat.Coprime.dvd_of_dvd_mul_left q h1
    exact Int.natAbs_dvd_natAbs.mp (by simpa using this)
  · left
    have : n ∣ a.natAbs := by
      rw [← q]
      exact Nat.gcd_dvd_right _ _
    exact Int.natAbs_dvd_natAbs.mp (by simpa using this)
theorem Pr.not_mul {p a b : Int} (h : Pr p) (ha : ¬ p ∣ a) (hb : ¬ p ∣ b) : ¬ p ∣ a * b := fun q => (h.2 a b q).elim ha hb
/-- (x - 0) .. (x - (k - 1)) -/
def prodTo : Nat → Int → Int
  | 0, _ => 1
  | k + 1, x => prodTo k x * (x - k)
theorem prodTo_zero : ∀ (k j : Nat), j < k → prodTo k j = 0
  | k + 1, j, h => by
    show prodTo k j * ((j : Int) - k) = 0
    by_cases q : j = k
    · rw [q, Int.sub_self, Int.mul_zero]
    · rw [prodTo_zero k j (by omega), Int.zero_mul]
theorem prodTo_ne {p : Int} (hP : Pr p) : ∀ (k : Nat) (x : Nat), k ≤ x → (x : Int) < p → ¬ p ∣ prodTo k x
  | 0, x, _, _ => fun h => by
    have := Int.le_of_dvd (by decide) (show p ∣ 1 from h)
    have := hP.1
    omega
  | k + 1, x, hk, hx => hP.not_mul (prodTo_ne hP k x (by omega) hx) fun h => by
    have := Int.le_of_dvd (by omega) h
    omega
/-! ### roots -/
def sdiv : List Int → Int → List Int
  | [], _ => []
  | [_], _ => []
  | _ :: d :: g, a => ev (d :: g) a :: sdiv (d :: g) a
theorem sdiv_length : ∀ (f : List Int) (a : Int), (sdiv f a).length = f.length - 1
  | [], _ => rfl
  | [_], _ => rfl
  | _ :: d :: g, a => by
    show (sdiv (d :: g) a).length + 1 = _
    rw [sdiv_length (d :: g) a]
    simp
theorem sdiv_ev : ∀ (f : List Int) (a x : Int), ev f x - ev f a = (x - a) * ev (sdiv f a) x
  | [], a, x => by simp [ev, sdiv]
  | [c], a, x => by simp [ev, sdiv]
  | c :: d :: g, a, x => by
    have ih := sdiv_ev (d :: g) a x
    show ev (d :: g) x * x + c - (ev (d :: g) a * a + c) = (x - a) * (ev (sdiv (d :: g) a) x * x + ev (d :: g) a)
    have e : (x - a) * (ev (sdiv (d :: g) a) x * x + ev (d :: g) a) = (x - a) * ev (sdiv (d :: g) a) x * x + (x - a) * ev (d :: g) a := by
      rw [Int.mul_add, Int.mul_assoc]
    rw [e, ← ih, Int.sub_mul, Int.sub_mul]
    have e2 : x * ev (d :: g) a = ev (d :: g) a * x := Int.mul_comm _ _
    have e3 : a * ev (d :: g) a = ev (d :: g) a * a := Int.mul_comm _ _
    omega
theorem sdiv_zero {p : Int} : ∀ (g : List Int) (c a : Int), (∀ y ∈ sdiv (c :: g) a, p ∣ y) → (∀ y ∈ g, p ∣ y)
  | [], _, _, _ => fun y h => nomatch h
  | d :: g, c, a, h => by
    have h1 : p ∣ ev (d :: g) a := h _ List.mem_cons_self
    have h2 := sdiv_zero g d a (fun y hy => h y (List.mem_cons_of_mem _ hy))
    have h3 : p ∣ ev g a := by
      cases g with
      | nil => exact ⟨0, by simp [ev]⟩
      | cons e g => exact h _ (List.mem_cons_of_mem _ List.mem_cons_self)
    have h4 : p ∣ d := by
      have e : d = ev (d :: g) a - ev g a * a := by
        show d = ev g a * a + d - ev g a * a
        omega
      rw [e]
      exact Int.dvd_sub h1 (Int.dvd_mul_of_dvd_left h3)
    intro y hy
    rcases List.mem_cons.mp hy with q | q
    · rw [q]; exact h4
    · exact h2 y q
/-- as many roots as numbers: all numbers are nought -/
theorem roots {p : Int} (hP : Pr p) : ∀ (xs : List Int) (f : List Int), f.length ≤ xs.length → xs.Pairwise (fun a b => ¬ p ∣ b - a) → (∀ x ∈ xs, p ∣ ev f x) → ∀ c ∈ f, p ∣ c
  | [], f, hl, _, _ => by
    cases f with
    | nil => exact fun c h => nomatch h
    | cons c g => simp at hl
  | a :: xs, [], _, _, _ => fun c h => nomatch h
  | a :: xs, c :: g, hl, hd, hr => by
    obtain ⟨hd1, hd2⟩ := List.pairwise_cons.mp hd
    have ha : p ∣ ev (c :: g) a := hr a List.mem_cons_self
    have q := roots hP xs (sdiv (c :: g) a) (by rw [sdiv_length]; simp at hl ⊢; omega) hd2 (fun x hx => by
      have h1 := Int.dvd_sub (hr x (List.mem_cons_of_mem _ hx)) ha
      rw [sdiv_ev] at h1
      rcases hP.2 _ _ h1 with z | z
      · exact absurd z (hd1 x hx)
      · exact z)
    have hg := sdiv_zero g c a q
    have hc : p ∣ c := by
      have h3 : p ∣ ev g a := by
        cases g with
        | nil => exact ⟨0, by simp [ev]⟩
        | cons e g => exact q _ List.mem_cons_self
      have e : c = ev (c :: g) a - ev g a * a := by
        show c = ev g a * a + c - ev g a * a
        omega
      rw [e]
      exact Int.dvd_sub ha (Int.dvd_mul_of_dvd_left h3)
    intro y hy
    rcases List.mem_cons.mp hy with q | q
    · rw [q]; exact hc
    · exact hg y q
/-! ### two of one length -/
theorem ev_zipSub : ∀ (f g : List Int) (x : Int), f.length = g.length → ev (List.zipWith (fun a b => a - b) f g) x = ev f x - ev g x
  | [], [], x, _ => by simp [ev]
  | a :: f, b :: g, x, h => by
    have ih := ev_zipSub f g x (by simpa using h)
    show ev (List.zipWith _ f g) x * x + (a - b) = ev f x * x + a - (ev g x * x + b)
    rw [ih, Int.sub_mul]
    omega
  | [], _ :: _, _, h => by simp at h
  | _ :: _, [], _, h => by simp at h
theorem zipSub_eq {p : Int} : ∀ (f g : List Int), f.length = g.length → Nums p f → Nums p g → (∀ c ∈ List.zipWith (fun a b => a - b) f g, p ∣ c) → f = g
  | [], [], _, _, _, _ => rfl
  | a :: f, b :: g, h, nf, ng, hz => by
    have e : a = b := Cg.eq (hz (a - b) List.mem_cons_self) (nf a List.mem_cons_self) (ng b List.mem_cons_self)
    have ih := zipSub_eq f g (by simpa using h) (fun x hx => nf x (List.mem_cons_of_mem _ hx)) (fun x hx => ng x (List.mem_cons_of_mem _ hx)) (fun c hc => hz c (List.mem_cons_of_mem _ hc))
    rw [e, ih]
  | [], _ :: _, h, _, _, _ => by simp at h
  | _ :: _, [], h, _, _, _ => by simp at h
theorem same_by {p : Int} (hP : Pr p) {f g : List Int} (hl : f.length = g.length) (nf : Nums p f) (ng : Nums p g) (xs : List Int) (hx : f.length ≤ xs.length) (hd : xs.Pairwise fun a b => ¬ p ∣ b - a) (h : ∀ x ∈ xs, Cg p (ev f x) (ev g x)) : f = g :=
  zipSub_eq f g hl nf ng (roots hP xs _ (by rw [List.length_zipWith]; omega) hd fun x hx => by
    rw [ev_zipSub f g x hl]
    exact h x hx)
/-- distinct places below p -/
theorem places {p : Int} (xs : List Nat) (hn : xs.Pairwise (· < ·)) (hb : ∀ x ∈ xs, (x : Int) < p) : (xs.map fun (i : Nat) => (i : Int)).Pairwise fun a b => ¬ p ∣ b - a := by
  rw [List.pairwise_map]
  refine hn.imp_of_mem fun {a b} ha hb' hab hdv => ?_
  have h1 := hb b hb'
  have := Int.le_of_dvd (by omega) hdv
  omega
end PM

namespace Hd
open PL PM
theorem s_is_whole (n : Int) : m_is_whole [some (.int n)] = some (.bl true, [none]) := by
  simp -implicitDefEqProofs only [m_is_whole, b_is_whole, semDef_ap, sSeq_ap, sSet_ap, sRet_ap, sIf_ap, sExpr_ap, sNil_ap, sNever_ap, sAug_ap, sPar_ap, sAsgT_ap, sStore_ap, sAugStore_ap, sFor_ap, sForO_ap, sWhile_ap, turn_ap, gNm_ap, gsNil_ap, gsCons_ap, gTp_ap, eVar_ap, eMove_ap, eC_ap, eBin_ap, eUn_ap, tOf_ap, tvAnd_ap, tvOr_ap, tvNot_ap, eAnd_ap, eOr_ap, eNot_ap, eIf_ap, eChain_ap, aNil_ap, aCons_ap, aStar_ap, eTup_ap, eLst_ap, eCall_ap, eCallL_ap, lNil_ap, lSh_ap, lLe_ap, lstAt_ap, eOwn2_ap, eSl_ap, pNo_ap, pSome_ap, eLstRg1_ap, eTupRg1_ap, eApp_ap, eExtend_ap, iOf_ap, iEnum_ap, iZip2_ap, iRng1_ap, eLc_ap, keep_nil, keep_zero, opI, opIc, opB, opAdd, opLen, opNeg, opMax, opMin, opAbs, opInt, opIx, opIsNotN, opIsN, isNon, opTuple, opList, opRev, opSl, opSlL, isi_int, isi_boolint, isi_tuple, items?, opEq_int, opNe_int, setAll, forgetAll, wipeE, backE, lentAt, fill, List.cons_append, List.nil_append, List.append_nil, List.replicate_succ, List.replicate_zero, List.getElem?_cons_zero, List.getElem?_cons_succ, List.set_cons_zero, List.set_cons_succ, List.map_cons, List.map_nil, List.length_cons, List.length_nil, List.length_map, List.length_replicate, List.all_nil, List.all_cons, Option.isSome, Option.bind_some, Option.map_some, Option.getD_some, Option.bind_none, Option.map_none, Nat.reduceAdd, Nat.zero_add, beq_self_eq_true, Bool.and_true, Bool.true_and, Bool.false_eq_true, reduceIte, reduceCtorEq, if_true, if_false, Bool.not_true, Bool.not_false, decide_true, decide_false]
theorem s_is_near (n : Int) (h1 : -1000000000000000000000000000000000000000000000000000000000000 < n) (h2 : n < 1000000000000000000000000000000000000000000000000000000000000) : m_is_near [some (.int n)] = some (.bl true, [none]) := by
  simp -implicitDefEqProofs only [m_is_near, b_is_near, semDef_ap, sSeq_ap, sSet_ap, sRet_ap, sIf_ap, sExpr_ap, sNil_ap, sNever_ap, sAug_ap, sPar_ap, sAsgT_ap, sStore_ap, sAugStore_ap, sFor_ap, sForO_ap, sWhile_ap, turn_ap, gNm_ap, gsNil_ap, gsCons_ap, gTp_ap, eVar_ap, eMove_ap, eC_ap, eBin_ap, eUn_ap, tOf_ap, tvAnd_ap, tvOr_ap, tvNot_ap, eAnd_ap, eOr_ap, eNot_ap, eIf_ap, eChain_ap, aNil_ap, aCons_ap, aStar_ap, eTup_ap, eLst_ap, eCall_ap, eCallL_ap, lNil_ap, lSh_ap, lLe_ap, lstAt_ap, eOwn2_ap, eSl_ap, pNo_ap, pSome_ap, eLstRg1_ap, eTupRg1_ap, eApp_ap, eExtend_ap, iOf_ap, iEnum_ap, iZip2_ap, iRng1_ap, eLc_ap, keep_nil, keep_zero, opI, opIc, opB, opAdd, opLen, opNeg, opMax, opMin, opAbs, opInt, opIx, opIsNotN, opIsN, isNon, opTuple, opList, opRev, opSl, opSlL, isi_int, isi_boolint, isi_tuple, items?, opEq_int, opNe_int, setAll, forgetAll, wipeE, backE, lentAt, fill, List.cons_append, List.nil_append, List.append_nil, List.replicate_succ, List.replicate_zero, List.getElem?_cons_zero, List.getElem?_cons_succ, List.set_cons_zero, List.set_cons_succ, List.map_cons, List.map_nil, List.length_cons, List.length_nil, List.length_map, List.length_replicate, List.all_nil, List.all_cons, Option.isSome, Option.bind_some, Option.map_some, Option.getD_some, Option.bind_none, Option.map_none, Nat.reduceAdd, Nat.zero_add, beq_self_eq_true, Bool.and_true, Bool.true_and, Bool.false_eq_true, reduceIte, reduceCtorEq, if_true, if_false, Bool.not_true, Bool.not_false, decide_true, decide_false, s_is_whole, h1, h2, decide_true, k_FAR]
theorem s_is_within (n lo hi : Int) : m_is_within [some (.int n), some (.int lo), some (.int hi)] = some (.bl (decide (lo ≤ n ∧ n ≤ hi)), [none, none, none]) := by
  by_cases h : lo ≤ n <;> simp -implicitDefEqProofs only [m_is_within, b_is_within, semDef_ap, sSeq_ap, sSet_ap, sRet_ap, sIf_ap, sExpr_ap, sNil_ap, sNever_ap, sAug_ap, sPar_ap, sAsgT_ap, sStore_ap, sAugStore_ap, sFor_ap, sForO_ap, sWhile_ap, turn_ap, gNm_ap, gsNil_ap, gsCons_ap, gTp_ap, eVar_ap, eMove_ap, eC_ap, eBin_ap, eUn_ap, tOf_ap, tvAnd_ap, tvOr_ap, tvNot_ap, eAnd_ap, eOr_ap, eNot_ap, eIf_ap, eChain_ap, aNil_ap, aCons_ap, aStar_ap, eTup_ap, eLst_ap, eCall_ap, eCallL_ap, lNil_ap, lSh_ap, lLe_ap, lstAt_ap, eOwn2_ap, eSl_ap, pNo_ap, pSome_ap, eLstRg1_ap, eTupRg1_ap, eApp_ap, eExtend_ap, iOf_ap, iEnum_ap, iZip2_ap, iRng1_ap, eLc_ap, keep_nil, keep_zero, opI, opIc, opB, opAdd, opLen, opNeg, opMax, opMin, opAbs, opInt, opIx, opIsNotN, opIsN, isNon, opTuple, opList, opRev, opSl, opSlL, isi_int, isi_boolint, isi_tuple, items?, opEq_int, opNe_int, setAll, forgetAll, wipeE, backE, lentAt, fill, List.cons_append, List.nil_append, List.append_nil, List.replicate_succ, List.replicate_zero, List.getElem?_cons_zero, List.getElem?_cons_succ, List.set_cons_zero, List.set_cons_succ, List.map_cons, List.map_nil, List.length_cons, List.length_nil, List.length_map, List.length_replicate, List.all_nil, List.all_cons, Option.isSome, Option.bind_some, Option.map_some, Option.getD_some, Option.bind_none, Option.map_none, Nat.reduceAdd, Nat.zero_add, beq_self_eq_true, Bool.and_true, Bool.true_and, Bool.false_eq_true, reduceIte, reduceCtorEq, if_true, if_false, Bool.not_true, Bool.not_false, decide_true, decide_false, s_is_whole, h, decide_true, decide_false, true_and, false_and]
theorem s_is_number_by (p n : Int) : m_is_number_by [some (.int p), some (.int n)] = some (.bl (decide (0 ≤ n ∧ n < p)), [none, none]) := by
  by_cases h : 0 ≤ n <;> simp -implicitDefEqProofs only [m_is_number_by, b_is_number_by, semDef_ap, sSeq_ap, sSet_ap, sRet_ap, sIf_ap, sExpr_ap, sNil_ap, sNever_ap, sAug_ap, sPar_ap, sAsgT_ap, sStore_ap, sAugStore_ap, sFor_ap, sForO_ap, sWhile_ap, turn_ap, gNm_ap, gsNil_ap, gsCons_ap, gTp_ap, eVar_ap, eMove_ap, eC_ap, eBin_ap, eUn_ap, tOf_ap, tvAnd_ap, tvOr_ap, tvNot_ap, eAnd_ap, eOr_ap, eNot_ap, eIf_ap, eChain_ap, aNil_ap, aCons_ap, aStar_ap, eTup_ap, eLst_ap, eCall_ap, eCallL_ap, lNil_ap, lSh_ap, lLe_ap, lstAt_ap, eOwn2_ap, eSl_ap, pNo_ap, pSome_ap, eLstRg1_ap, eTupRg1_ap, eApp_ap, eExtend_ap, iOf_ap, iEnum_ap, iZip2_ap, iRng1_ap, eLc_ap, keep_nil, keep_zero, opI, opIc, opB, opAdd, opLen, opNeg, opMax, opMin, opAbs, opInt, opIx, opIsNotN, opIsN, isNon, opTuple, opList, opRev, opSl, opSlL, isi_int, isi_boolint, isi_tuple, items?, opEq_int, opNe_int, setAll, forgetAll, wipeE, backE, lentAt, fill, List.cons_append, List.nil_append, List.append_nil, List.replicate_succ, List.replicate_zero, List.getElem?_cons_zero, List.getElem?_cons_succ, List.set_cons_zero, List.set_cons_succ, List.map_cons, List.map_nil, List.length_cons, List.length_nil, List.length_map, List.length_replicate, List.all_nil, List.all_cons, Option.isSome, Option.bind_some, Option.map_some, Option.getD_some, Option.bind_none, Option.map_none, Nat.reduceAdd, Nat.zero_add, beq_self_eq_true, Bool.and_true, Bool.true_and, Bool.false_eq_true, reduceIte, reduceCtorEq, if_true, if_false, Bool.not_true, Bool.not_false, decide_true, decide_false, s_is_whole, h, decide_true, decide_false, true_and, false_and]
theorem s_are_numbers (p : Int) (l : List Int) (hl : l.length ≤ 16777216) : m_are_numbers [some (.int p), some (tI l)] = some (.bl (decide (Nums p l)), [none, none]) := by
  have lc : ∀ a, lcL (gNm 2) tYes' (eCall 2 m_is_number_by (aCons (eVar 0) (aCons (eVar 2) aNil))) [2] (l.map .int) [some (.int p), some a, none] = some (l.map fun n => .bl (decide (0 ≤ n ∧ n < p)), [some (.int p), some a, none]) := fun a =>
    lcL_map fun x hx => ⟨[some (.int p), some a, some (.int x)], [some (.int p), some a, some (.int x)], rfl, by simp -implicitDefEqProofs only [semDef_ap, sSeq_ap, sSet_ap, sRet_ap, sIf_ap, sExpr_ap, sNil_ap, sNever_ap, sAug_ap, sPar_ap, sAsgT_ap, sStore_ap, sAugStore_ap, sFor_ap, sForO_ap, sWhile_ap, turn_ap, gNm_ap, gsNil_ap, gsCons_ap, gTp_ap, eVar_ap, eMove_ap, eC_ap, eBin_ap, eUn_ap, tOf_ap, tvAnd_ap, tvOr_ap, tvNot_ap, eAnd_ap, eOr_ap, eNot_ap, eIf_ap, eChain_ap, aNil_ap, aCons_ap, aStar_ap, eTup_ap, eLst_ap, eCall_ap, eCallL_ap, lNil_ap, lSh_ap, lLe_ap, lstAt_ap, eOwn2_ap, eSl_ap, pNo_ap, pSome_ap, eLstRg1_ap, eTupRg1_ap, eApp_ap, eExtend_ap, iOf_ap, iEnum_ap, iZip2_ap, iRng1_ap, eLc_ap, keep_nil, keep_zero, opI, opIc, opB, opAdd, opLen, opNeg, opMax, opMin, opAbs, opInt, opIx, opIsNotN, opIsN, isNon, opTuple, opList, opRev, opSl, opSlL, isi_int, isi_boolint, isi_tuple, items?, opEq_int, opNe_int, setAll, forgetAll, wipeE, backE, lentAt, fill, List.cons_append, List.nil_append, List.append_nil, List.replicate_succ, List.replicate_zero, List.getElem?_cons_zero, List.getElem?_cons_succ, List.set_cons_zero, List.set_cons_succ, List.map_cons, List.map_nil, List.length_cons, List.length_nil, List.length_map, List.length_replicate, List.all_nil, List.all_cons, Option.isSome, Option.bind_some, Option.map_some, Option.getD_some, Option.bind_none, Option.map_none, Nat.reduceAdd, Nat.zero_add, beq_self_eq_true, Bool.and_true, Bool.true_and, Bool.false_eq_true, reduceIte, reduceCtorEq, if_true, if_false, Bool.not_true, Bool.not_false, decide_true, decide_false, s_is_number_by], rfl⟩
  have e : (l.all fun n => decide (0 ≤ n ∧ n < p)) = decide (Nums p l) := by
    unfold Nums
    rw [Bool.eq_iff_iff]
    simp
  simp -implicitDefEqProofs only [m_are_numbers, b_are_numbers, semDef_ap, sSeq_ap, sSet_ap, sRet_ap, sIf_ap, sExpr_ap, sNil_ap, sNever_ap, sAug_ap, sPar_ap, sAsgT_ap, sStore_ap, sAugStore_ap, sFor_ap, sForO_ap, sWhile_ap, turn_ap, gNm_ap, gsNil_ap, gsCons_ap, gTp_ap, eVar_ap, eMove_ap, eC_ap, eBin_ap, eUn_ap, tOf_ap, tvAnd_ap, tvOr_ap, tvNot_ap, eAnd_ap, eOr_ap, eNot_ap, eIf_ap, eChain_ap, aNil_ap, aCons_ap, aStar_ap, eTup_ap, eLst_ap, eCall_ap, eCallL_ap, lNil_ap, lSh_ap, lLe_ap, lstAt_ap, eOwn2_ap, eSl_ap, pNo_ap, pSome_ap, eLstRg1_ap, eTupRg1_ap, eApp_ap, eExtend_ap, iOf_ap, iEnum_ap, iZip2_ap, iRng1_ap, eLc_ap, keep_nil, keep_zero, opI, opIc, opB, opAdd, opLen, opNeg, opMax, opMin, opAbs, opInt, opIx, opIsNotN, opIsN, isNon, opTuple, opList, opRev, opSl, opSlL, isi_int, isi_boolint, isi_tuple, items?, opEq_int, opNe_int, setAll, forgetAll, wipeE, backE, lentAt, fill, List.cons_append, List.nil_append, List.append_nil, List.replicate_succ, List.replicate_zero, List.getElem?_cons_zero, List.getElem?_cons_succ, List.set_cons_zero, List.set_cons_succ, List.map_cons, List.map_nil, List.length_cons, List.length_nil, List.length_map, List.length_replicate, List.all_nil, List.all_cons, Option.isSome, Option.bind_some, Option.map_some, Option.getD_some, Option.bind_none, Option.map_none, Nat.reduceAdd, Nat.zero_add, beq_self_eq_true, Bool.and_true, Bool.true_and, Bool.false_eq_true, reduceIte, reduceCtorEq, if_true, if_false, Bool.not_true, Bool.not_false, decide_true, decide_false, lc, fits_of hl, opAll_map, e]

theorem s_is_prime_told (p : Int) (h : p ∈ [3, 5, 7, 11, 13, 17, 31, 61, 97, 193, 257, 769, 12289]) : m_is_prime_told [some (.int p)] = some (.bl true, [none]) := by
  simp only [List.mem_cons, List.not_mem_nil, or_false] at h
  rcases h with rfl | rfl | rfl | rfl | rfl | rfl | rfl | rfl | rfl | rfl | rfl | rfl | rfl <;> rfl
theorem s_require_prime (p : Int) (h : p ∈ [3, 5, 7, 11, 13, 17, 31, 61, 97, 193, 257, 769, 12289]) : m_require_prime [some (.int p)] = some (.non, [none]) := by
  simp -implicitDefEqProofs only [m_require_prime, b_require_prime, semDef_ap, sSeq_ap, sSet_ap, sRet_ap, sIf_ap, sExpr_ap, sNil_ap, sNever_ap, sAug_ap, sPar_ap, sAsgT_ap, sStore_ap, sAugStore_ap, sFor_ap, sForO_ap, sWhile_ap, turn_ap, gNm_ap, gsNil_ap, gsCons_ap, gTp_ap, eVar_ap, eMove_ap, eC_ap, eBin_ap, eUn_ap, tOf_ap, tvAnd_ap, tvOr_ap, tvNot_ap, eAnd_ap, eOr_ap, eNot_ap, eIf_ap, eChain_ap, aNil_ap, aCons_ap, aStar_ap, eTup_ap, eLst_ap, eCall_ap, eCallL_ap, lNil_ap, lSh_ap, lLe_ap, lstAt_ap, eOwn2_ap, eSl_ap, pNo_ap, pSome_ap, eLstRg1_ap, eTupRg1_ap, eApp_ap, eExtend_ap, iOf_ap, iEnum_ap, iZip2_ap, iRng1_ap, eLc_ap, keep_nil, keep_zero, opI, opIc, opB, opAdd, opLen, opNeg, opMax, opMin, opAbs, opInt, opIx, opIsNotN, opIsN, isNon, opTuple, opList, opRev, opSl, opSlL, isi_int, isi_boolint, isi_tuple, items?, opEq_int, opNe_int, setAll, forgetAll, wipeE, backE, lentAt, fill, List.cons_append, List.nil_append, List.append_nil, List.replicate_succ, List.replicate_zero, List.getElem?_cons_zero, List.getElem?_cons_succ, List.set_cons_zero, List.set_cons_succ, List.map_cons, List.map_nil, List.length_cons, List.length_nil, List.length_map, List.length_replicate, List.all_nil, List.all_cons, Option.isSome, Option.bind_some, Option.map_some, Option.getD_some, Option.bind_none, Option.map_none, Nat.reduceAdd, Nat.zero_add, beq_self_eq_true, Bool.and_true, Bool.true_and, Bool.false_eq_true, reduceIte, reduceCtorEq, if_true, if_false, Bool.not_true, Bool.not_false, decide_true, decide_false, s_is_prime_told p h]
theorem s_require_number (n lo hi : Int) (h0 : -1000000000 ≤ n) (h1 : n ≤ 1000000000) (h2 : lo ≤ n) (h3 : n ≤ hi) : m_require_number [some (.int n), some (.int lo), some (.int hi)] = some (.non, [none, none, none]) := by
  have e1 : decide (n < lo) = false := decide_eq_false (by omega)
  have e2 : decide (hi < n) = false := decide_eq_false (by omega)
  simp -implicitDefEqProofs only [m_require_number, b_require_number, semDef_ap, sSeq_ap, sSet_ap, sRet_ap, sIf_ap, sExpr_ap, sNil_ap, sNever_ap, sAug_ap, sPar_ap, sAsgT_ap, sStore_ap, sAugStore_ap, sFor_ap, sForO_ap, sWhile_ap, turn_ap, gNm_ap, gsNil_ap, gsCons_ap, gTp_ap, eVar_ap, eMove_ap, eC_ap, eBin_ap, eUn_ap, tOf_ap, tvAnd_ap, tvOr_ap, tvNot_ap, eAnd_ap, eOr_ap, eNot_ap, eIf_ap, eChain_ap, aNil_ap, aCons_ap, aStar_ap, eTup_ap, eLst_ap, eCall_ap, eCallL_ap, lNil_ap, lSh_ap, lLe_ap, lstAt_ap, eOwn2_ap, eSl_ap, pNo_ap, pSome_ap, eLstRg1_ap, eTupRg1_ap, eApp_ap, eExtend_ap, iOf_ap, iEnum_ap, iZip2_ap, iRng1_ap, eLc_ap, keep_nil, keep_zero, opI, opIc, opB, opAdd, opLen, opNeg, opMax, opMin, opAbs, opInt, opIx, opIsNotN, opIsN, isNon, opTuple, opList, opRev, opSl, opSlL, isi_int, isi_boolint, isi_tuple, items?, opEq_int, opNe_int, setAll, forgetAll, wipeE, backE, lentAt, fill, List.cons_append, List.nil_append, List.append_nil, List.replicate_succ, List.replicate_zero, List.getElem?_cons_zero, List.getElem?_cons_succ, List.set_cons_zero, List.set_cons_succ, List.map_cons, List.map_nil, List.length_cons, List.length_nil, List.length_map, List.length_replicate, List.all_nil, List.all_cons, Option.isSome, Option.bind_some, Option.map_some, Option.getD_some, Option.bind_none, Option.map_none, Nat.reduceAdd, Nat.zero_add, beq_self_eq_true, Bool.and_true, Bool.true_and, Bool.false_eq_true, reduceIte, reduceCtorEq, if_true, if_false, Bool.not_true, Bool.not_false, decide_true, decide_false, s_is_near n (by omega) (by omega), e1, e2]
theorem s_trimmed (p : Int) (l : List Int) (hp : 0 < p) (hl : l.length ≤ 1000) : ∃ t, m_trimmed [some (.int p), some (lI l)] = some (tI t, [none, none]) ∧ Nums p t ∧ t.length ≤ l.length ∧ ∀ x, Cg p (ev t x) (ev l x) := by
  have lc : ∀ a b c, lcL (gNm 4) tYes' (eBin opMod (eVar 4) (eVar 0)) [4] (l.map .int) [some (.int p), a, b, c, none] = some (l.map fun n => .int (n % p), [some (.int p), a, b, c, none]) := fun a b c =>
    lcL_map fun x hx => ⟨[some (.int p), a, b, c, some (.int x)], [some (.int p), a, b, c, some (.int x)], rfl, by simp -implicitDefEqProofs only [semDef_ap, sSeq_ap, sSet_ap, sRet_ap, sIf_ap, sExpr_ap, sNil_ap, sNever_ap, sAug_ap, sPar_ap, sAsgT_ap, sStore_ap, sAugStore_ap, sFor_ap, sForO_ap, sWhile_ap, turn_ap, gNm_ap, gsNil_ap, gsCons_ap, gTp_ap, eVar_ap, eMove_ap, eC_ap, eBin_ap, eUn_ap, tOf_ap, tvAnd_ap, tvOr_ap, tvNot_ap, eAnd_ap, eOr_ap, eNot_ap, eIf_ap, eChain_ap, aNil_ap, aCons_ap, aStar_ap, eTup_ap, eLst_ap, eCall_ap, eCallL_ap, lNil_ap, lSh_ap, lLe_ap, lstAt_ap, eOwn2_ap, eSl_ap, pNo_ap, pSome_ap, eLstRg1_ap, eTupRg1_ap, eApp_ap, eExtend_ap, iOf_ap, iEnum_ap, iZip2_ap, iRng1_ap, eLc_ap, keep_nil, keep_zero, opI, opIc, opB, opAdd, opLen, opNeg, opMax, opMin, opAbs, opInt, opIx, opIsNotN, opIsN, isNon, opTuple, opList, opRev, opSl, opSlL, isi_int, isi_boolint, isi_tuple, items?, opEq_int, opNe_int, setAll, forgetAll, wipeE, backE, lentAt, fill, List.cons_append, List.nil_append, List.append_nil, List.replicate_succ, List.replicate_zero, List.getElem?_cons_zero, List.getElem?_cons_succ, List.set_cons_zero, List.set_cons_succ, List.map_cons, List.map_nil, List.length_cons, List.length_nil, List.length_map, List.length_replicate, List.all_nil, List.all_cons, Option.isSome, Option.bind_some, Option.map_some, Option.getD_some, Option.bind_none, Option.map_none, Nat.reduceAdd, Nat.zero_add, beq_self_eq_true, Bool.and_true, Bool.true_and, Bool.false_eq_true, reduceIte, reduceCtorEq, if_true, if_false, Bool.not_true, Bool.not_false, decide_true, decide_false, hp, decide_true], rfl⟩
  have em : (l.map fun n => PV.int (n % p)) = (l.map (· % p)).map .int := by rw [List.map_map]; rfl
  have wl : ∀ (a : Option PV) (k fuel : Nat), k ≤ l.length → k < fuel → ∃ j : Nat, j ≤ k ∧ (∀ x, ev ((l.map (· % p)).take j) x = ev ((l.map (· % p)).take k) x) ∧
      whileL (tvAnd (tOf (eBin opGt (eVar 3) (eC (.int 0)))) (tOf (eBin opEq (eBin opIx (eVar 2) (eBin opSub (eVar 3) (eC (.int 1)))) (eC (.int 0))))) (sAug 3 opSub (eC (.int 1))) fuel [some (.int p), a, some (lI (l.map (· % p))), some (.int k), none]
        = some (.nx, [some (.int p), a, some (lI (l.map (· % p))), some (.int j), none]) := by
    intro a k
    induction k with
    | zero =>
      intro fuel _ hf
      obtain ⟨m, rfl⟩ : ∃ m, fuel = m + 1 := ⟨fuel - 1, by omega⟩
      exact ⟨0, Nat.le_refl _, fun _ => rfl, whileL_f (by simp -implicitDefEqProofs only [semDef_ap, sSeq_ap, sSet_ap, sRet_ap, sIf_ap, sExpr_ap, sNil_ap, sNever_ap, sAug_ap, sPar_ap, sAsgT_ap, sStore_ap, sAugStore_ap, sFor_ap, sForO_ap, sWhile_ap, turn_ap, gNm_ap, gsNil_ap, gsCons_ap, gTp_ap, eVar_ap, eMove_ap, eC_ap, eBin_ap, eUn_ap, tOf_ap, tvAnd_ap, tvOr_ap, tvNot_ap, eAnd_ap, eOr_ap, eNot_ap, eIf_ap, eChain_ap, aNil_ap, aCons_ap, aStar_ap, eTup_ap, eLst_ap, eCall_ap, eCallL_ap, lNil_ap, lSh_ap, lLe_ap, lstAt_ap, eOwn2_ap, eSl_ap, pNo_ap, pSome_ap, eLstRg1_ap, eTupRg1_ap, eApp_ap, eExtend_ap, iOf_ap, iEnum_ap, iZip2_ap, iRng1_ap, eLc_ap, keep_nil, keep_zero, opI, opIc, opB, opAdd, opLen, opNeg, opMax, opMin, opAbs, opInt, opIx, opIsNotN, opIsN, isNon, opTuple, opList, opRev, opSl, opSlL, isi_int, isi_boolint, isi_tuple, items?, opEq_int, opNe_int, setAll, forgetAll, wipeE, backE, lentAt, fill, List.cons_append, List.nil_append, List.append_nil, List.replicate_succ, List.replicate_zero, List.getElem?_cons_zero, List.getElem?_cons_succ, List.set_cons_zero, List.set_cons_succ, List.map_cons, List.map_nil, List.length_cons, List.length_nil, List.length_map, List.length_replicate, List.all_nil, List.all_cons, Option.isSome, Option.bind_some, Option.map_some, Option.getD_some, Option.bind_none, Option.map_none, Nat.reduceAdd, Nat.zero_add, beq_self_eq_true, Bool.and_true, Bool.true_and, Bool.false_eq_true, reduceIte, reduceCtorEq, if_true, if_false, Bool.not_true, Bool.not_false, decide_true, decide_false]; rfl)⟩
    | succ k ih =>
      intro fuel hk hf
      obtain ⟨m, rfl⟩ : ∃ m, fuel = m + 1 := ⟨fuel - 1, by omega⟩
      have hlt : k < (l.map (· % p)).length := by simp; omega
      obtain ⟨v, hv⟩ : ∃ v, (l.map (· % p))[k]? = some v := ⟨_, List.getElem?_eq_getElem hlt⟩
      have hix : L2.atI ((l.map (· % p)).map PV.int) (((k + 1 : Nat) : Int) - 1) = some (.int v) := atI_of (by omega) (by
        rw [show (((k + 1 : Nat) : Int) - 1).toNat = k from by omega, List.getElem?_map, hv]
        rfl)
      have hg : decide ((0 : Int) < ((k + 1 : Nat) : Int)) = true := decide_eq_true (by omega)
      by_cases hz : v = 0
      · obtain ⟨j, hj, he, hw⟩ := ih m (by omega) (by omega)
        refine ⟨j, by omega, fun x => ?_, ?_⟩
        · rw [he x, List.take_succ, hv, hz]
          show _ = ev (_ ++ [0]) x
          rw [ev_append]
          simp [ev]
        · rw [whileL_t (ρ1 := [some (.int p), a, some (lI (l.map (· % p))), some (.int (k + 1 : Nat)), none]) (ρ2 := [some (.int p), a, some (lI (l.map (· % p))), some (.int k), none])]
          · exact hw
          · simp -implicitDefEqProofs only [semDef_ap, sSeq_ap, sSet_ap, sRet_ap, sIf_ap, sExpr_ap, sNil_ap, sNever_ap, sAug_ap, sPar_ap, sAsgT_ap, sStore_ap, sAugStore_ap, sFor_ap, sForO_ap, sWhile_ap, turn_ap, gNm_ap, gsNil_ap, gsCons_ap, gTp_ap, eVar_ap, eMove_ap, eC_ap, eBin_ap, eUn_ap, tOf_ap, tvAnd_ap, tvOr_ap, tvNot_ap, eAnd_ap, eOr_ap, eNot_ap, eIf_ap, eChain_ap, aNil_ap, aCons_ap, aStar_ap, eTup_ap, eLst_ap, eCall_ap, eCallL_ap, lNil_ap, lSh_ap, lLe_ap, lstAt_ap, eOwn2_ap, eSl_ap, pNo_ap, pSome_ap, eLstRg1_ap, eTupRg1_ap, eApp_ap, eExtend_ap, iOf_ap, iEnum_ap, iZip2_ap, iRng1_ap, eLc_ap, keep_nil, keep_zero, opI, opIc, opB, opAdd, opLen, opNeg, opMax, opMin, opAbs, opInt, opIx, opIsNotN, opIsN, isNon, opTuple, opList, opRev, opSl, opSlL, isi_int, isi_boolint, isi_tuple, items?, opEq_int, opNe_int, setAll, forgetAll, wipeE, backE, lentAt, fill, List.cons_append, List.nil_append, List.append_nil, List.replicate_succ, List.replicate_zero, List.getElem?_cons_zero, List.getElem?_cons_succ, List.set_cons_zero, List.set_cons_succ, List.map_cons, List.map_nil, List.length_cons, List.length_nil, List.length_map, List.length_replicate, List.all_nil, List.all_cons, Option.isSome, Option.bind_some, Option.map_some, Option.getD_some, Option.bind_none, Option.map_none, Nat.reduceAdd, Nat.zero_add, beq_self_eq_true, Bool.and_true, Bool.true_and, Bool.false_eq_true, reduceIte, reduceCtorEq, if_true, if_false, Bool.not_true, Bool.not_false, decide_true, decide_false, hg, hix, hz, decide_true]
          · simp -implicitDefEqProofs only [semDef_ap, sSeq_ap, sSet_ap, sRet_ap, sIf_ap, sExpr_ap, sNil_ap, sNever_ap, sAug_ap, sPar_ap, sAsgT_ap, sStore_ap, sAugStore_ap, sFor_ap, sForO_ap, sWhile_ap, turn_ap, gNm_ap, gsNil_ap, gsCons_ap, gTp_ap, eVar_ap, eMove_ap, eC_ap, eBin_ap, eUn_ap, tOf_ap, tvAnd_ap, tvOr_ap, tvNot_ap, eAnd_ap, eOr_ap, eNot_ap, eIf_ap, eChain_ap, aNil_ap, aCons_ap, aStar_ap, eTup_ap, eLst_ap, eCall_ap, eCallL_ap, lNil_ap, lSh_ap, lLe_ap, lstAt_ap, eOwn2_ap, eSl_ap, pNo_ap, pSome_ap, eLstRg1_ap, eTupRg1_ap, eApp_ap, eExtend_ap, iOf_ap, iEnum_ap, iZip2_ap, iRng1_ap, eLc_ap, keep_nil, keep_zero, opI, opIc, opB, opAdd, opLen, opNeg, opMax, opMin, opAbs, opInt, opIx, opIsNotN, opIsN, isNon, opTuple, opList, opRev, opSl, opSlL, isi_int, isi_boolint, isi_tuple, items?, opEq_int, opNe_int, setAll, forgetAll, wipeE, backE, lentAt, fill, List.cons_append, List.nil_append, List.append_nil, List.replicate_succ, List.replicate_zero, List.getElem?_cons_zero, List.getElem?_cons_succ, List.set_cons_zero, List.set_cons_succ, List.map_cons, List.map_nil, List.length_cons, List.length_nil, List.length_map, List.length_replicate, List.all_nil, List.all_cons, Option.isSome, Option.bind_some, Option.map_some, Option.getD_some, Option.bind_none, Option.map_none, Nat.reduceAdd, Nat.zero_add, beq_self_eq_true, Bool.and_true, Bool.true_and, Bool.false_eq_true, reduceIte, reduceCtorEq, if_true, if_false, Bool.not_true, Bool.not_false, decide_true, decide_false]
            rw [show (((k + 1 : Nat) : Int) - 1) = (k : Int) from by omega]
      · refine ⟨k + 1, Nat.le_refl _, fun _ => rfl, whileL_f ?_⟩
        simp -implicitDefEqProofs only [semDef_ap, sSeq_ap, sSet_ap, sRet_ap, sIf_ap, sExpr_ap, sNil_ap, sNever_ap, sAug_ap, sPar_ap, sAsgT_ap, sStore_ap, sAugStore_ap, sFor_ap, sForO_ap, sWhile_ap, turn_ap, gNm_ap, gsNil_ap, gsCons_ap, gTp_ap, eVar_ap, eMove_ap, eC_ap, eBin_ap, eUn_ap, tOf_ap, tvAnd_ap, tvOr_ap, tvNot_ap, eAnd_ap, eOr_ap, eNot_ap, eIf_ap, eChain_ap, aNil_ap, aCons_ap, aStar_ap, eTup_ap, eLst_ap, eCall_ap, eCallL_ap, lNil_ap, lSh_ap, lLe_ap, lstAt_ap, eOwn2_ap, eSl_ap, pNo_ap, pSome_ap, eLstRg1_ap, eTupRg1_ap, eApp_ap, eExtend_ap, iOf_ap, iEnum_ap, iZip2_ap, iRng1_ap, eLc_ap, keep_nil, keep_zero, opI, opIc, opB, opAdd, opLen, opNeg, opMax, opMin, opAbs, opInt, opIx, opIsNotN, opIsN, isNon, opTuple, opList, opRev, opSl, opSlL, isi_int, isi_boolint, isi_tuple, items?, opEq_int, opNe_int, setAll, forgetAll, wipeE, backE, lentAt, fill, List.cons_append, List.nil_append, List.append_nil, List.replicate_succ, List.replicate_zero, List.getElem?_cons_zero, List.getElem?_cons_succ, List.set_cons_zero, List.set_cons_succ, List.map_cons, List.map_nil, List.length_cons, List.length_nil, List.length_map, List.length_replicate, List.all_nil, List.all_cons, Option.isSome, Option.bind_some, Option.map_some, Option.getD_some, Option.bind_none, Option.map_none, Nat.reduceAdd, Nat.zero_add, beq_self_eq_true, Bool.and_true, Bool.true_and, Bool.false_eq_true, reduceIte, reduceCtorEq, if_true, if_false, Bool.not_true, Bool.not_false, decide_true, decide_false, hg, hix, decide_eq_false hz]
  obtain ⟨j, hj, he, hw⟩ := wl (some (lI l)) l.length 1000000 (Nat.le_refl _) (by omega)
  have hn : Nums p (l.map (· % p)) := fun x hx => by
    obtain ⟨y, _, rfl⟩ := List.mem_map.mp hx
    exact ⟨Int.emod_nonneg _ (by omega), Int.emod_lt_of_pos _ hp⟩
  refine ⟨(l.map (· % p)).take j, ?_, fun x hx => hn x (List.mem_of_mem_take hx), by rw [List.length_take]; simp; omega, fun x => ?_⟩
  · have hcut : cutP ((l.map (· % p)).map PV.int) none (some (j : Int)) = ((l.map (· % p)).take j).map .int := by
      unfold cutP
      rw [HT.sIx_nat, HT.sIx_none]
      simp only [List.length_map, List.drop_zero, Nat.sub_zero, ← List.map_take]
      rw [Nat.min_eq_left (by omega)]
    simp -implicitDefEqProofs only [m_trimmed, b_trimmed, semDef_ap, sSeq_ap, sSet_ap, sRet_ap, sIf_ap, sExpr_ap, sNil_ap, sNever_ap, sAug_ap, sPar_ap, sAsgT_ap, sStore_ap, sAugStore_ap, sFor_ap, sForO_ap, sWhile_ap, turn_ap, gNm_ap, gsNil_ap, gsCons_ap, gTp_ap, eVar_ap, eMove_ap, eC_ap, eBin_ap, eUn_ap, tOf_ap, tvAnd_ap, tvOr_ap, tvNot_ap, eAnd_ap, eOr_ap, eNot_ap, eIf_ap, eChain_ap, aNil_ap, aCons_ap, aStar_ap, eTup_ap, eLst_ap, eCall_ap, eCallL_ap, lNil_ap, lSh_ap, lLe_ap, lstAt_ap, eOwn2_ap, eSl_ap, pNo_ap, pSome_ap, eLstRg1_ap, eTupRg1_ap, eApp_ap, eExtend_ap, iOf_ap, iEnum_ap, iZip2_ap, iRng1_ap, eLc_ap, keep_nil, keep_zero, opI, opIc, opB, opAdd, opLen, opNeg, opMax, opMin, opAbs, opInt, opIx, opIsNotN, opIsN, isNon, opTuple, opList, opRev, opSl, opSlL, isi_int, isi_boolint, isi_tuple, items?, opEq_int, opNe_int, setAll, forgetAll, wipeE, backE, lentAt, fill, List.cons_append, List.nil_append, List.append_nil, List.replicate_succ, List.replicate_zero, List.getElem?_cons_zero, List.getElem?_cons_succ, List.set_cons_zero, List.set_cons_succ, List.map_cons, List.map_nil, List.length_cons, List.length_nil, List.length_map, List.length_replicate, List.all_nil, List.all_cons, Option.isSome, Option.bind_some, Option.map_some, Option.getD_some, Option.bind_none, Option.map_none, Nat.reduceAdd, Nat.zero_add, beq_self_eq_true, Bool.and_true, Bool.true_and, Bool.false_eq_true, reduceIte, reduceCtorEq, if_true, if_false, Bool.not_true, Bool.not_false, decide_true, decide_false, lc, em, fits_of (Nat.le_trans hl (by decide)), hw, hcut]
  · rw [he x, List.take_of_length_le (by simp)]
    exact ev_mods p l x
end Hd

namespace Hd
open PL PM
theorem s_power_in (p x : Int) (n : Nat) (hp : 0 < p) (hp2 : p < 4611686018427387904) (hn : n < 999999) : m_power_in [some (.int p), some (.int x), some (.int n)] = some (.int (x ^ n % p), [none, none, none]) := by
  have wl : ∀ (fuel left : Nat) (found sq : Int), left < fuel → 0 ≤ found → found < p → 0 ≤ sq → sq < p → ∃ sq', whileL (tOf (eBin opGt (eVar 5) (eC (.int 0)))) (sSeq (sIf (tOf (eBin opEq (eBin opMod (eVar 5) (eC (.int 2))) (eC (.int 1)))) (sSet 3 (eBin opMod (eBin opMul (eVar 3) (eVar 4)) (eVar 0))) sNil)
    (sPar [4, 5] (aCons (eBin opMod (eBin opMul (eVar 4) (eVar 4)) (eVar 0)) (aCons (eBin opDiv (eVar 5) (eC (.int 2))) aNil)))) fuel [some (.int p), some (.int x), some (.int n), some (.int found), some (.int sq), some (.int left)]
      = some (.nx, [some (.int p), some (.int x), some (.int n), some (.int (found * sq ^ left % p)), some (.int sq'), some (.int 0)]) := by
    intro fuel
    induction fuel with
    | zero => intro left _ _ h; omega
    | succ fuel ih =>
      intro left found sq hl h1 h2 h3 h4
      cases left with
      | zero =>
        refine ⟨sq, ?_⟩
        rw [whileL_f (ρ1 := [some (.int p), some (.int x), some (.int n), some (.int found), some (.int sq), some (.int 0)])]
        · rw [Int.pow_zero, Int.mul_one, Int.emod_eq_of_lt h1 h2]
        · simp -implicitDefEqProofs only [semDef_ap, sSeq_ap, sSet_ap, sRet_ap, sIf_ap, sExpr_ap, sNil_ap, sNever_ap, sAug_ap, sPar_ap, sAsgT_ap, sStore_ap, sAugStore_ap, sFor_ap, sForO_ap, sWhile_ap, turn_ap, gNm_ap, gsNil_ap, gsCons_ap, gTp_ap, eVar_ap, eMove_ap, eC_ap, eBin_ap, eUn_ap, tOf_ap, tvAnd_ap, tvOr_ap, tvNot_ap, eAnd_ap, eOr_ap, eNot_ap, eIf_ap, eChain_ap, aNil_ap, aCons_ap, aStar_ap, eTup_ap, eLst_ap, eCall_ap, eCallL_ap, lNil_ap, lSh_ap, lLe_ap, lstAt_ap, eOwn2_ap, eSl_ap, pNo_ap, pSome_ap, eLstRg1_ap, eTupRg1_ap, eApp_ap, eExtend_ap, iOf_ap, iEnum_ap, iZip2_ap, iRng1_ap, eLc_ap, keep_nil, keep_zero, opI, opIc, opB, opAdd, opLen, opNeg, opMax, opMin, opAbs, opInt, opIx, opIsNotN, opIsN, isNon, opTuple, opList, opRev, opSl, opSlL, isi_int, isi_boolint, isi_tuple, items?, opEq_int, opNe_int, setAll, forgetAll, wipeE, backE, lentAt, fill, List.cons_append, List.nil_append, List.append_nil, List.replicate_succ, List.replicate_zero, List.getElem?_cons_zero, List.getElem?_cons_succ, List.set_cons_zero, List.set_cons_succ, List.map_cons, List.map_nil, List.length_cons, List.length_nil, List.length_map, List.length_replicate, List.all_nil, List.all_cons, Option.isSome, Option.bind_some, Option.map_some, Option.getD_some, Option.bind_none, Option.map_none, Nat.reduceAdd, Nat.zero_add, beq_self_eq_true, Bool.and_true, Bool.true_and, Bool.false_eq_true, reduceIte, reduceCtorEq, if_true, if_false, Bool.not_true, Bool.not_false, decide_true, decide_false]; rfl
      | succ left =>
        have hg : decide ((0 : Int) < ((left + 1 : Nat) : Int)) = true := decide_eq_true (by omega)
        have md : decide ((0 : Int) < 2) = true := rfl
        have dv : divOk 2 = true := by decide
        have hm : mulOk found sq = true := mulOk_left (by omega) (by omega)
        have hm2 : mulOk sq sq = true := mulOk_left (by omega) (by omega)
        have hpd : decide (0 < p) = true := decide_eq_true hp
        have e2 : ((left + 1 : Nat) : Int) / 2 = (((left + 1) / 2 : Nat) : Int) := by omega
        have q1 : 0 ≤ sq * sq % p := Int.emod_nonneg _ (by omega)
        have q2 : sq * sq % p < p := Int.emod_lt_of_pos _ hp
        have q3 : 0 ≤ found * sq % p := Int.emod_nonneg _ (by omega)
        have q4 : found * sq % p < p := Int.emod_lt_of_pos _ hp
        have pw : ∀ m : Nat, Cg p ((sq * sq % p) ^ m) ((sq * sq) ^ m) := fun m => by
          induction m with
          | zero => rw [Int.pow_zero, Int.pow_zero]; exact Cg.refl _ _
          | succ m ih =>
            rw [Int.pow_succ, Int.pow_succ]
            exact ih.mul (Cg.mod _ _)
        by_cases ho : ((left + 1 : Nat) : Int) % 2 = 1
        · obtain ⟨sq', hw⟩ := ih ((left + 1) / 2) (found * sq % p) (sq * sq % p) (by omega) q3 q4 q1 q2
          refine ⟨sq', ?_⟩
          rw [whileL_t (ρ1 := [some (.int p), some (.int x), some (.int n), some (.int found), some (.int sq), some (.int (left + 1 : Nat))]) (ρ2 := [some (.int p), some (.int x), some (.int n), some (.int (found * sq % p)), some (.int (sq * sq % p)), some (.int ((left + 1) / 2 : Nat))])]
          · rw [hw]
            have e : (found * sq % p) * (sq * sq % p) ^ ((left + 1) / 2) % p = found * sq ^ (left + 1) % p := by
              refine Cg.iff.mp (Cg.trans (Cg.mul (Cg.mod p _) (pw _)) ?_)
              have e3 : (sq * sq) ^ ((left + 1) / 2) = sq ^ (2 * ((left + 1) / 2)) := by rw [Int.pow_mul, Int.pow_succ, Int.pow_one]
              have e4 : left + 1 = 2 * ((left + 1) / 2) + 1 := by omega
              have e5 : sq ^ (2 * ((left + 1) / 2)) * sq = sq ^ (left + 1) := by conv => rhs; rw [e4, Int.pow_succ]
              rw [e3, Int.mul_assoc, Int.mul_comm sq, e5]
              exact Cg.refl _ _
            rw [e]
          · simp -implicitDefEqProofs only [semDef_ap, sSeq_ap, sSet_ap, sRet_ap, sIf_ap, sExpr_ap, sNil_ap, sNever_ap, sAug_ap, sPar_ap, sAsgT_ap, sStore_ap, sAugStore_ap, sFor_ap, sForO_ap, sWhile_ap, turn_ap, gNm_ap, gsNil_ap, gsCons_ap, gTp_ap, eVar_ap, eMove_ap, eC_ap, eBin_ap, eUn_ap, tOf_ap, tvAnd_ap, tvOr_ap, tvNot_ap, eAnd_ap, eOr_ap, eNot_ap, eIf_ap, eChain_ap, aNil_ap, aCons_ap, aStar_ap, eTup_ap, eLst_ap, eCall_ap, eCallL_ap, lNil_ap, lSh_ap, lLe_ap, lstAt_ap, eOwn2_ap, eSl_ap, pNo_ap, pSome_ap, eLstRg1_ap, eTupRg1_ap, eApp_ap, eExtend_ap, iOf_ap, iEnum_ap, iZip2_ap, iRng1_ap, eLc_ap, keep_nil, keep_zero, opI, opIc, opB, opAdd, opLen, opNeg, opMax, opMin, opAbs, opInt, opIx, opIsNotN, opIsN, isNon, opTuple, opList, opRev, opSl, opSlL, isi_int, isi_boolint, isi_tuple, items?, opEq_int, opNe_int, setAll, forgetAll, wipeE, backE, lentAt, fill, List.cons_append, List.nil_append, List.append_nil, List.replicate_succ, List.replicate_zero, List.getElem?_cons_zero, List.getElem?_cons_succ, List.set_cons_zero, List.set_cons_succ, List.map_cons, List.map_nil, List.length_cons, List.length_nil, List.length_map, List.length_replicate, List.all_nil, List.all_cons, Option.isSome, Option.bind_some, Option.map_some, Option.getD_some, Option.bind_none, Option.map_none, Nat.reduceAdd, Nat.zero_add, beq_self_eq_true, Bool.and_true, Bool.true_and, Bool.false_eq_true, reduceIte, reduceCtorEq, if_true, if_false, Bool.not_true, Bool.not_false, decide_true, decide_false, hg]
          · simp -implicitDefEqProofs only [semDef_ap, sSeq_ap, sSet_ap, sRet_ap, sIf_ap, sExpr_ap, sNil_ap, sNever_ap, sAug_ap, sPar_ap, sAsgT_ap, sStore_ap, sAugStore_ap, sFor_ap, sForO_ap, sWhile_ap, turn_ap, gNm_ap, gsNil_ap, gsCons_ap, gTp_ap, eVar_ap, eMove_ap, eC_ap, eBin_ap, eUn_ap, tOf_ap, tvAnd_ap, tvOr_ap, tvNot_ap, eAnd_ap, eOr_ap, eNot_ap, eIf_ap, eChain_ap, aNil_ap, aCons_ap, aStar_ap, eTup_ap, eLst_ap, eCall_ap, eCallL_ap, lNil_ap, lSh_ap, lLe_ap, lstAt_ap, eOwn2_ap, eSl_ap, pNo_ap, pSome_ap, eLstRg1_ap, eTupRg1_ap, eApp_ap, eExtend_ap, iOf_ap, iEnum_ap, iZip2_ap, iRng1_ap, eLc_ap, keep_nil, keep_zero, opI, opIc, opB, opAdd, opLen, opNeg, opMax, opMin, opAbs, opInt, opIx, opIsNotN, opIsN, isNon, opTuple, opList, opRev, opSl, opSlL, isi_int, isi_boolint, isi_tuple, items?, opEq_int, opNe_int, setAll, forgetAll, wipeE, backE, lentAt, fill, List.cons_append, List.nil_append, List.append_nil, List.replicate_succ, List.replicate_zero, List.getElem?_cons_zero, List.getElem?_cons_succ, List.set_cons_zero, List.set_cons_succ, List.map_cons, List.map_nil, List.length_cons, List.length_nil, List.length_map, List.length_replicate, List.all_nil, List.all_cons, Option.isSome, Option.bind_some, Option.map_some, Option.getD_some, Option.bind_none, Option.map_none, Nat.reduceAdd, Nat.zero_add, beq_self_eq_true, Bool.and_true, Bool.true_and, Bool.false_eq_true, reduceIte, reduceCtorEq, if_true, if_false, Bool.not_true, Bool.not_false, decide_true, decide_false, md, decide_eq_true ho, hm, hm2, hpd, dv, e2]
        · obtain ⟨sq', hw⟩ := ih ((left + 1) / 2) found (sq * sq % p) (by omega) h1 h2 q1 q2
          refine ⟨sq', ?_⟩
          rw [whileL_t (ρ1 := [some (.int p), some (.int x), some (.int n), some (.int found), some (.int sq), some (.int (left + 1 : Nat))]) (ρ2 := [some (.int p), some (.int x), some (.int n), some (.int found), some (.int (sq * sq % p)), some (.int ((left + 1) / 2 : Nat))])]
          · rw [hw]
            have e : found * (sq * sq % p) ^ ((left + 1) / 2) % p = found * sq ^ (left + 1) % p := by
              refine Cg.iff.mp (Cg.trans (Cg.mul (Cg.refl p _) (pw _)) ?_)
              have e3 : (sq * sq) ^ ((left + 1) / 2) = sq ^ (2 * ((left + 1) / 2)) := by rw [Int.pow_mul, Int.pow_succ, Int.pow_one]
              have e4 : left + 1 = 2 * ((left + 1) / 2) := by omega
              rw [e3, ← e4]
              exact Cg.refl _ _
            rw [e]
          · simp -implicitDefEqProofs only [semDef_ap, sSeq_ap, sSet_ap, sRet_ap, sIf_ap, sExpr_ap, sNil_ap, sNever_ap, sAug_ap, sPar_ap, sAsgT_ap, sStore_ap, sAugStore_ap, sFor_ap, sForO_ap, sWhile_ap, turn_ap, gNm_ap, gsNil_ap, gsCons_ap, gTp_ap, eVar_ap, eMove_ap, eC_ap, eBin_ap, eUn_ap, tOf_ap, tvAnd_ap, tvOr_ap, tvNot_ap, eAnd_ap, eOr_ap, eNot_ap, eIf_ap, eChain_ap, aNil_ap, aCons_ap, aStar_ap, eTup_ap, eLst_ap, eCall_ap, eCallL_ap, lNil_ap, lSh_ap, lLe_ap, lstAt_ap, eOwn2_ap, eSl_ap, pNo_ap, pSome_ap, eLstRg1_ap, eTupRg1_ap, eApp_ap, eExtend_ap, iOf_ap, iEnum_ap, iZip2_ap, iRng1_ap, eLc_ap, keep_nil, keep_zero, opI, opIc, opB, opAdd, opLen, opNeg, opMax, opMin, opAbs, opInt, opIx, opIsNotN, opIsN, isNon, opTuple, opList, opRev, opSl, opSlL, isi_int, isi_boolint, isi_tuple, items?, opEq_int, opNe_int, setAll, forgetAll, wipeE, backE, lentAt, fill, List.cons_append, List.nil_append, List.append_nil, List.replicate_succ, List.replicate_zero, List.getElem?_cons_zero, List.getElem?_cons_succ, List.set_cons_zero, List.set_cons_succ, List.map_cons, List.map_nil, List.length_cons, List.length_nil, List.length_map, List.length_replicate, List.all_nil, List.all_cons, Option.isSome, Option.bind_some, Option.map_some, Option.getD_some, Option.bind_none, Option.map_none, Nat.reduceAdd, Nat.zero_add, beq_self_eq_true, Bool.and_true, Bool.true_and, Bool.false_eq_true, reduceIte, reduceCtorEq, if_true, if_false, Bool.not_true, Bool.not_false, decide_true, decide_false, hg]
          · simp -implicitDefEqProofs only [semDef_ap, sSeq_ap, sSet_ap, sRet_ap, sIf_ap, sExpr_ap, sNil_ap, sNever_ap, sAug_ap, sPar_ap, sAsgT_ap, sStore_ap, sAugStore_ap, sFor_ap, sForO_ap, sWhile_ap, turn_ap, gNm_ap, gsNil_ap, gsCons_ap, gTp_ap, eVar_ap, eMove_ap, eC_ap, eBin_ap, eUn_ap, tOf_ap, tvAnd_ap, tvOr_ap, tvNot_ap, eAnd_ap, eOr_ap, eNot_ap, eIf_ap, eChain_ap, aNil_ap, aCons_ap, aStar_ap, eTup_ap, eLst_ap, eCall_ap, eCallL_ap, lNil_ap, lSh_ap, lLe_ap, lstAt_ap, eOwn2_ap, eSl_ap, pNo_ap, pSome_ap, eLstRg1_ap, eTupRg1_ap, eApp_ap, eExtend_ap, iOf_ap, iEnum_ap, iZip2_ap, iRng1_ap, eLc_ap, keep_nil, keep_zero, opI, opIc, opB, opAdd, opLen, opNeg, opMax, opMin, opAbs, opInt, opIx, opIsNotN, opIsN, isNon, opTuple, opList, opRev, opSl, opSlL, isi_int, isi_boolint, isi_tuple, items?, opEq_int, opNe_int, setAll, forgetAll, wipeE, backE, lentAt, fill, List.cons_append, List.nil_append, List.append_nil, List.replicate_succ, List.replicate_zero, List.getElem?_cons_zero, List.getElem?_cons_succ, List.set_cons_zero, List.set_cons_succ, List.map_cons, List.map_nil, List.length_cons, List.length_nil, List.length_map, List.length_replicate, List.all_nil, List.all_cons, Option.isSome, Option.bind_some, Option.map_some, Option.getD_some, Option.bind_none, Option.map_none, Nat.reduceAdd, Nat.zero_add, beq_self_eq_true, Bool.and_true, Bool.true_and, Bool.false_eq_true, reduceIte, reduceCtorEq, if_true, if_false, Bool.not_true, Bool.not_false, decide_true, decide_false, md, decide_eq_false ho, hm2, hpd, dv, e2]
  have hpd : decide (0 < p) = true := decide_eq_true hp
  obtain ⟨sq', hw⟩ := wl 1000000 n (1 % p) (x % p) (by omega) (Int.emod_nonneg _ (by omega)) (Int.emod_lt_of_pos _ hp) (Int.emod_nonneg _ (by omega)) (Int.emod_lt_of_pos _ hp)
  have pw : ∀ m : Nat, Cg p ((x % p) ^ m) (x ^ m) := fun m => by
    induction m with
    | zero => rw [Int.pow_zero, Int.pow_zero]; exact Cg.refl _ _
    | succ m ih =>
      rw [Int.pow_succ, Int.pow_succ]
      exact ih.mul (Cg.mod _ _)
  have e : 1 % p * (x % p) ^ n % p = x ^ n % p := by
    refine Cg.iff.mp (Cg.trans (Cg.mul (Cg.mod p 1) (pw n)) ?_)
    rw [Int.one_mul]
    exact Cg.refl _ _
  simp -implicitDefEqProofs only [m_power_in, b_power_in, semDef_ap, sSeq_ap, sSet_ap, sRet_ap, sIf_ap, sExpr_ap, sNil_ap, sNever_ap, sAug_ap, sPar_ap, sAsgT_ap, sStore_ap, sAugStore_ap, sFor_ap, sForO_ap, sWhile_ap, turn_ap, gNm_ap, gsNil_ap, gsCons_ap, gTp_ap, eVar_ap, eMove_ap, eC_ap, eBin_ap, eUn_ap, tOf_ap, tvAnd_ap, tvOr_ap, tvNot_ap, eAnd_ap, eOr_ap, eNot_ap, eIf_ap, eChain_ap, aNil_ap, aCons_ap, aStar_ap, eTup_ap, eLst_ap, eCall_ap, eCallL_ap, lNil_ap, lSh_ap, lLe_ap, lstAt_ap, eOwn2_ap, eSl_ap, pNo_ap, pSome_ap, eLstRg1_ap, eTupRg1_ap, eApp_ap, eExtend_ap, iOf_ap, iEnum_ap, iZip2_ap, iRng1_ap, eLc_ap, keep_nil, keep_zero, opI, opIc, opB, opAdd, opLen, opNeg, opMax, opMin, opAbs, opInt, opIx, opIsNotN, opIsN, isNon, opTuple, opList, opRev, opSl, opSlL, isi_int, isi_boolint, isi_tuple, items?, opEq_int, opNe_int, setAll, forgetAll, wipeE, backE, lentAt, fill, List.cons_append, List.nil_append, List.append_nil, List.replicate_succ, List.replicate_zero, List.getElem?_cons_zero, List.getElem?_cons_succ, List.set_cons_zero, List.set_cons_succ, List.map_cons, List.map_nil, List.length_cons, List.length_nil, List.length_map, List.length_replicate, List.all_nil, List.all_cons, Option.isSome, Option.bind_some, Option.map_some, Option.getD_some, Option.bind_none, Option.map_none, Nat.reduceAdd, Nat.zero_add, beq_self_eq_true, Bool.and_true, Bool.true_and, Bool.false_eq_true, reduceIte, reduceCtorEq, if_true, if_false, Bool.not_true, Bool.not_false, decide_true, decide_false, hpd, hw, e]
theorem s_back_in (p : Nat) (x : Int) (hp : 2 ≤ p) (hp2 : p < 20000) : m_back_in [some (.int p), some (.int x)] = some (.int (x ^ (p - 2) % p), [none, none]) := by
  have e : (p : Int) - 2 = ((p - 2 : Nat) : Int) := by omega
  simp -implicitDefEqProofs only [m_back_in, b_back_in, semDef_ap, sSeq_ap, sSet_ap, sRet_ap, sIf_ap, sExpr_ap, sNil_ap, sNever_ap, sAug_ap, sPar_ap, sAsgT_ap, sStore_ap, sAugStore_ap, sFor_ap, sForO_ap, sWhile_ap, turn_ap, gNm_ap, gsNil_ap, gsCons_ap, gTp_ap, eVar_ap, eMove_ap, eC_ap, eBin_ap, eUn_ap, tOf_ap, tvAnd_ap, tvOr_ap, tvNot_ap, eAnd_ap, eOr_ap, eNot_ap, eIf_ap, eChain_ap, aNil_ap, aCons_ap, aStar_ap, eTup_ap, eLst_ap, eCall_ap, eCallL_ap, lNil_ap, lSh_ap, lLe_ap, lstAt_ap, eOwn2_ap, eSl_ap, pNo_ap, pSome_ap, eLstRg1_ap, eTupRg1_ap, eApp_ap, eExtend_ap, iOf_ap, iEnum_ap, iZip2_ap, iRng1_ap, eLc_ap, keep_nil, keep_zero, opI, opIc, opB, opAdd, opLen, opNeg, opMax, opMin, opAbs, opInt, opIx, opIsNotN, opIsN, isNon, opTuple, opList, opRev, opSl, opSlL, isi_int, isi_boolint, isi_tuple, items?, opEq_int, opNe_int, setAll, forgetAll, wipeE, backE, lentAt, fill, List.cons_append, List.nil_append, List.append_nil, List.replicate_succ, List.replicate_zero, List.getElem?_cons_zero, List.getElem?_cons_succ, List.set_cons_zero, List.set_cons_succ, List.map_cons, List.map_nil, List.length_cons, List.length_nil, List.length_map, List.length_replicate, List.all_nil, List.all_cons, Option.isSome, Option.bind_some, Option.map_some, Option.getD_some, Option.bind_none, Option.map_none, Nat.reduceAdd, Nat.zero_add, beq_self_eq_true, Bool.and_true, Bool.true_and, Bool.false_eq_true, reduceIte, reduceCtorEq, if_true, if_false, Bool.not_true, Bool.not_false, decide_true, decide_false, e, s_power_in p x (p - 2) (by omega) (by omega) (by omega)]
theorem s_worth_in (p : Int) (f : List Int) (x : Int) (hp : 0 < p) (h1 : -1000000000 < x) (h2 : x < 1000000000) : m_worth_in [some (.int p), some (tI f), some (.int x)] = some (.int (worth p f x), [none, none, none]) := by
  have hpd : decide (0 < p) = true := decide_eq_true hp
  have hm : ∀ a, mulOk a x = true := fun a => mulOk_right (by omega) (by omega)
  have lp := (forL_fold (f := turn (gNm 4) (sSet 3 (eBin opMod (eBin opAdd (eBin opMul (eVar 3) (eVar 2)) (eVar 4)) (eVar 0))) [4]) (enc := PV.int) (emb := fun a : Int => [some (.int p), some (tI f), some (.int x), some (.int a), none])
    (step := fun a c => (a * x + c) % p) (fun _ => True) (xs := f.reverse) (s := 0) (fun a c _ _ => ⟨by simp -implicitDefEqProofs only [semDef_ap, sSeq_ap, sSet_ap, sRet_ap, sIf_ap, sExpr_ap, sNil_ap, sNever_ap, sAug_ap, sPar_ap, sAsgT_ap, sStore_ap, sAugStore_ap, sFor_ap, sForO_ap, sWhile_ap, turn_ap, gNm_ap, gsNil_ap, gsCons_ap, gTp_ap, eVar_ap, eMove_ap, eC_ap, eBin_ap, eUn_ap, tOf_ap, tvAnd_ap, tvOr_ap, tvNot_ap, eAnd_ap, eOr_ap, eNot_ap, eIf_ap, eChain_ap, aNil_ap, aCons_ap, aStar_ap, eTup_ap, eLst_ap, eCall_ap, eCallL_ap, lNil_ap, lSh_ap, lLe_ap, lstAt_ap, eOwn2_ap, eSl_ap, pNo_ap, pSome_ap, eLstRg1_ap, eTupRg1_ap, eApp_ap, eExtend_ap, iOf_ap, iEnum_ap, iZip2_ap, iRng1_ap, eLc_ap, keep_nil, keep_zero, opI, opIc, opB, opAdd, opLen, opNeg, opMax, opMin, opAbs, opInt, opIx, opIsNotN, opIsN, isNon, opTuple, opList, opRev, opSl, opSlL, isi_int, isi_boolint, isi_tuple, items?, opEq_int, opNe_int, setAll, forgetAll, wipeE, backE, lentAt, fill, List.cons_append, List.nil_append, List.append_nil, List.replicate_succ, List.replicate_zero, List.getElem?_cons_zero, List.getElem?_cons_succ, List.set_cons_zero, List.set_cons_succ, List.map_cons, List.map_nil, List.length_cons, List.length_nil, List.length_map, List.length_replicate, List.all_nil, List.all_cons, Option.isSome, Option.bind_some, Option.map_some, Option.getD_some, Option.bind_none, Option.map_none, Nat.reduceAdd, Nat.zero_add, beq_self_eq_true, Bool.and_true, Bool.true_and, Bool.false_eq_true, reduceIte, reduceCtorEq, if_true, if_false, Bool.not_true, Bool.not_false, decide_true, decide_false, hpd, hm], trivial⟩) trivial).1
  rw [worth_fold] at lp
  simp -implicitDefEqProofs only [m_worth_in, b_worth_in, semDef_ap, sSeq_ap, sSet_ap, sRet_ap, sIf_ap, sExpr_ap, sNil_ap, sNever_ap, sAug_ap, sPar_ap, sAsgT_ap, sStore_ap, sAugStore_ap, sFor_ap, sForO_ap, sWhile_ap, turn_ap, gNm_ap, gsNil_ap, gsCons_ap, gTp_ap, eVar_ap, eMove_ap, eC_ap, eBin_ap, eUn_ap, tOf_ap, tvAnd_ap, tvOr_ap, tvNot_ap, eAnd_ap, eOr_ap, eNot_ap, eIf_ap, eChain_ap, aNil_ap, aCons_ap, aStar_ap, eTup_ap, eLst_ap, eCall_ap, eCallL_ap, lNil_ap, lSh_ap, lLe_ap, lstAt_ap, eOwn2_ap, eSl_ap, pNo_ap, pSome_ap, eLstRg1_ap, eTupRg1_ap, eApp_ap, eExtend_ap, iOf_ap, iEnum_ap, iZip2_ap, iRng1_ap, eLc_ap, keep_nil, keep_zero, opI, opIc, opB, opAdd, opLen, opNeg, opMax, opMin, opAbs, opInt, opIx, opIsNotN, opIsN, isNon, opTuple, opList, opRev, opSl, opSlL, isi_int, isi_boolint, isi_tuple, items?, opEq_int, opNe_int, setAll, forgetAll, wipeE, backE, lentAt, fill, List.cons_append, List.nil_append, List.append_nil, List.replicate_succ, List.replicate_zero, List.getElem?_cons_zero, List.getElem?_cons_succ, List.set_cons_zero, List.set_cons_succ, List.map_cons, List.map_nil, List.length_cons, List.length_nil, List.length_map, List.length_replicate, List.all_nil, List.all_cons, Option.isSome, Option.bind_some, Option.map_some, Option.getD_some, Option.bind_none, Option.map_none, Nat.reduceAdd, Nat.zero_add, beq_self_eq_true, Bool.and_true, Bool.true_and, Bool.false_eq_true, reduceIte, reduceCtorEq, if_true, if_false, Bool.not_true, Bool.not_false, decide_true, decide_false, ← List.map_reverse, lp]
theorem s_scaled_in (p : Int) (f : List Int) (c : Int) (hp : 0 < p) (hp2 : p < 1000000) (nf : Nums p f) (lf : f.length ≤ 900) : ∃ t, m_scaled_in [some (.int p), some (tI f), some (.int c)] = some (tI t, [none, none, none]) ∧ Nums p t ∧ t.length ≤ f.length ∧ ∀ x, Cg p (ev t x) (c * ev f x) := by
  have lc : ∀ a, lcL (gNm 3) tYes' (eBin opMul (eVar 2) (eVar 3)) [3] (f.map .int) [some (.int p), a, some (.int c), none] = some (f.map fun n => .int (c * n), [some (.int p), a, some (.int c), none]) := fun a =>
    lcL_map fun x hx => ⟨[some (.int p), a, some (.int c), some (.int x)], [some (.int p), a, some (.int c), some (.int x)], rfl, by simp -implicitDefEqProofs only [semDef_ap, sSeq_ap, sSet_ap, sRet_ap, sIf_ap, sExpr_ap, sNil_ap, sNever_ap, sAug_ap, sPar_ap, sAsgT_ap, sStore_ap, sAugStore_ap, sFor_ap, sForO_ap, sWhile_ap, turn_ap, gNm_ap, gsNil_ap, gsCons_ap, gTp_ap, eVar_ap, eMove_ap, eC_ap, eBin_ap, eUn_ap, tOf_ap, tvAnd_ap, tvOr_ap, tvNot_ap, eAnd_ap, eOr_ap, eNot_ap, eIf_ap, eChain_ap, aNil_ap, aCons_ap, aStar_ap, eTup_ap, eLst_ap, eCall_ap, eCallL_ap, lNil_ap, lSh_ap, lLe_ap, lstAt_ap, eOwn2_ap, eSl_ap, pNo_ap, pSome_ap, eLstRg1_ap, eTupRg1_ap, eApp_ap, eExtend_ap, iOf_ap, iEnum_ap, iZip2_ap, iRng1_ap, eLc_ap, keep_nil, keep_zero, opI, opIc, opB, opAdd, opLen, opNeg, opMax, opMin, opAbs, opInt, opIx, opIsNotN, opIsN, isNon, opTuple, opList, opRev, opSl, opSlL, isi_int, isi_boolint, isi_tuple, items?, opEq_int, opNe_int, setAll, forgetAll, wipeE, backE, lentAt, fill, List.cons_append, List.nil_append, List.append_nil, List.replicate_succ, List.replicate_zero, List.getElem?_cons_zero, List.getElem?_cons_succ, List.set_cons_zero, List.set_cons_succ, List.map_cons, List.map_nil, List.length_cons, List.length_nil, List.length_map, List.length_replicate, List.all_nil, List.all_cons, Option.isSome, Option.bind_some, Option.map_some, Option.getD_some, Option.bind_none, Option.map_none, Nat.reduceAdd, Nat.zero_add, beq_self_eq_true, Bool.and_true, Bool.true_and, Bool.false_eq_true, reduceIte, reduceCtorEq, if_true, if_false, Bool.not_true, Bool.not_false, decide_true, decide_false, mulOk_right (i := c) (j := x) (by have := nf x hx; omega) (by have := nf x hx; omega)], rfl⟩
  have em : (f.map fun n => PV.int (c * n)) = (f.map (c * ·)).map .int := by rw [List.map_map]; rfl
  obtain ⟨t, e, n, l, v⟩ := s_trimmed p (f.map (c * ·)) hp (by simp; omega)
  refine ⟨t, by simp -implicitDefEqProofs only [m_scaled_in, b_scaled_in, semDef_ap, sSeq_ap, sSet_ap, sRet_ap, sIf_ap, sExpr_ap, sNil_ap, sNever_ap, sAug_ap, sPar_ap, sAsgT_ap, sStore_ap, sAugStore_ap, sFor_ap, sForO_ap, sWhile_ap, turn_ap, gNm_ap, gsNil_ap, gsCons_ap, gTp_ap, eVar_ap, eMove_ap, eC_ap, eBin_ap, eUn_ap, tOf_ap, tvAnd_ap, tvOr_ap, tvNot_ap, eAnd_ap, eOr_ap, eNot_ap, eIf_ap, eChain_ap, aNil_ap, aCons_ap, aStar_ap, eTup_ap, eLst_ap, eCall_ap, eCallL_ap, lNil_ap, lSh_ap, lLe_ap, lstAt_ap, eOwn2_ap, eSl_ap, pNo_ap, pSome_ap, eLstRg1_ap, eTupRg1_ap, eApp_ap, eExtend_ap, iOf_ap, iEnum_ap, iZip2_ap, iRng1_ap, eLc_ap, keep_nil, keep_zero, opI, opIc, opB, opAdd, opLen, opNeg, opMax, opMin, opAbs, opInt, opIx, opIsNotN, opIsN, isNon, opTuple, opList, opRev, opSl, opSlL, isi_int, isi_boolint, isi_tuple, items?, opEq_int, opNe_int, setAll, forgetAll, wipeE, backE, lentAt, fill, List.cons_append, List.nil_append, List.append_nil, List.replicate_succ, List.replicate_zero, List.getElem?_cons_zero, List.getElem?_cons_succ, List.set_cons_zero, List.set_cons_succ, List.map_cons, List.map_nil, List.length_cons, List.length_nil, List.length_map, List.length_replicate, List.all_nil, List.all_cons, Option.isSome, Option.bind_some, Option.map_some, Option.getD_some, Option.bind_none, Option.map_none, Nat.reduceAdd, Nat.zero_add, beq_self_eq_true, Bool.and_true, Bool.true_and, Bool.false_eq_true, reduceIte, reduceCtorEq, if_true, if_false, Bool.not_true, Bool.not_false, decide_true, decide_false, lc, em, fits_of (Nat.le_trans lf (by decide)), e], n, by simpa using l, fun x => ?_⟩
  have e2 := v x
  rw [ev_scale] at e2
  exact e2
theorem s_added_in (p : Int) (f g : List Int) (hp : 0 < p) (lf : f.length ≤ 900) (lg : g.length ≤ 900) : ∃ t, m_added_in [some (.int p), some (tI f), some (tI g)] = some (tI t, [none, none, none]) ∧ Nums p t ∧ t.length ≤ max f.length g.length ∧ ∀ x, Cg p (ev t x) (ev f x + ev g x) := by
  have hw : (if (g.length : Int) > f.length then (g.length : Int) else f.length) = ((max f.length g.length : Nat) : Int) := by
    split <;> omega
  have rep : ∀ k : Nat, k ≤ max f.length g.length → (decide (-(2 ^ 63) ≤ ((max f.length g.length : Nat) : Int) - (k : Int) ∧ ((max f.length g.length : Nat) : Int) - (k : Int) < 2 ^ 63) && fits (1 * (((max f.length g.length : Nat) : Int) - (k : Int)).toNat)) = true ∧ (List.replicate (((max f.length g.length : Nat) : Int) - (k : Int)).toNat [PV.int 0]).flatten = (List.replicate (max f.length g.length - k) (0 : Int)).map .int := fun k hk => by
    constructor
    · rw [decide_eq_true (by omega), fits_of (by omega)]
      rfl
    · rw [show (((max f.length g.length : Nat) : Int) - (k : Int)).toNat = max f.length g.length - k from by omega]
      exact rep_zero _
  obtain ⟨r1, r2⟩ := rep f.length (by omega)
  obtain ⟨r3, r4⟩ := rep g.length (by omega)
  have lc : ∀ (a b c d : Option PV) (z : Option PV × Option PV), lcL (gTp 2 (gsCons (gNm 6) (gsCons (gNm 7) gsNil))) tYes' (eBin opAdd (eVar 6) (eVar 7)) [6, 7] (((f ++ List.replicate (max f.length g.length - f.length) 0).zip (g ++ List.replicate (max f.length g.length - g.length) 0)).map fun p : Int × Int => PV.tup [.int p.1, .int p.2]) [a, b, c, d, z.1, z.2, none, none]
      = some (((f ++ List.replicate (max f.length g.length - f.length) 0).zip (g ++ List.replicate (max f.length g.length - g.length) 0)).map fun n : Int × Int => PV.int (n.1 + n.2), [a, b, c, d, z.1, z.2, none, none]) := fun a b c d z =>
    lcL_map fun x hx => ⟨[a, b, c, d, z.1, z.2, some (.int x.1), some (.int x.2)], [a, b, c, d, z.1, z.2, some (.int x.1), some (.int x.2)], by simp -implicitDefEqProofs only [semDef_ap, sSeq_ap, sSet_ap, sRet_ap, sIf_ap, sExpr_ap, sNil_ap, sNever_ap, sAug_ap, sPar_ap, sAsgT_ap, sStore_ap, sAugStore_ap, sFor_ap, sForO_ap, sWhile_ap, turn_ap, gNm_ap, gsNil_ap, gsCons_ap, gTp_ap, eVar_ap, eMove_ap, eC_ap, eBin_ap, eUn_ap, tOf_ap, tvAnd_ap, tvOr_ap, tvNot_ap, eAnd_ap, eOr_ap, eNot_ap, eIf_ap, eChain_ap, aNil_ap, aCons_ap, aStar_ap, eTup_ap, eLst_ap, eCall_ap, eCallL_ap, lNil_ap, lSh_ap, lLe_ap, lstAt_ap, eOwn2_ap, eSl_ap, pNo_ap, pSome_ap, eLstRg1_ap, eTupRg1_ap, eApp_ap, eExtend_ap, iOf_ap, iEnum_ap, iZip2_ap, iRng1_ap, eLc_ap, keep_nil, keep_zero, opI, opIc, opB, opAdd, opLen, opNeg, opMax, opMin, opAbs, opInt, opIx, opIsNotN, opIsN, isNon, opTuple, opList, opRev, opSl, opSlL, isi_int, isi_boolint, isi_tuple, items?, opEq_int, opNe_int, setAll, forgetAll, wipeE, backE, lentAt, fill, List.cons_append, List.nil_append, List.append_nil, List.replicate_succ, List.replicate_zero, List.getElem?_cons_zero, List.getElem?_cons_succ, List.set_cons_zero, List.set_cons_succ, List.map_cons, List.map_nil, List.length_cons, List.length_nil, List.length_map, List.length_replicate, List.all_nil, List.all_cons, Option.isSome, Option.bind_some, Option.map_some, Option.getD_some, Option.bind_none, Option.map_none, Nat.reduceAdd, Nat.zero_add, beq_self_eq_true, Bool.and_true, Bool.true_and, Bool.false_eq_true, reduceIte, reduceCtorEq, if_true, if_false, Bool.not_true, Bool.not_false, decide_true, decide_false], by simp -implicitDefEqProofs only [semDef_ap, sSeq_ap, sSet_ap, sRet_ap, sIf_ap, sExpr_ap, sNil_ap, sNever_ap, sAug_ap, sPar_ap, sAsgT_ap, sStore_ap, sAugStore_ap, sFor_ap, sForO_ap, sWhile_ap, turn_ap, gNm_ap, gsNil_ap, gsCons_ap, gTp_ap, eVar_ap, eMove_ap, eC_ap, eBin_ap, eUn_ap, tOf_ap, tvAnd_ap, tvOr_ap, tvNot_ap, eAnd_ap, eOr_ap, eNot_ap, eIf_ap, eChain_ap, aNil_ap, aCons_ap, aStar_ap, eTup_ap, eLst_ap, eCall_ap, eCallL_ap, lNil_ap, lSh_ap, lLe_ap, lstAt_ap, eOwn2_ap, eSl_ap, pNo_ap, pSome_ap, eLstRg1_ap, eTupRg1_ap, eApp_ap, eExtend_ap, iOf_ap, iEnum_ap, iZip2_ap, iRng1_ap, eLc_ap, keep_nil, keep_zero, opI, opIc, opB, opAdd, opLen, opNeg, opMax, opMin, opAbs, opInt, opIx, opIsNotN, opIsN, isNon, opTuple, opList, opRev, opSl, opSlL, isi_int, isi_boolint, isi_tuple, items?, opEq_int, opNe_int, setAll, forgetAll, wipeE, backE, lentAt, fill, List.cons_append, List.nil_append, List.append_nil, List.replicate_succ, List.replicate_zero, List.getElem?_cons_zero, List.getElem?_cons_succ, List.set_cons_zero, List.set_cons_succ, List.map_cons, List.map_nil, List.length_cons, List.length_nil, List.length_map, List.length_replicate, List.all_nil, List.all_cons, Option.isSome, Option.bind_some, Option.map_some, Option.getD_some, Option.bind_none, Option.map_none, Nat.reduceAdd, Nat.zero_add, beq_self_eq_true, Bool.and_true, Bool.true_and, Bool.false_eq_true, reduceIte, reduceCtorEq, if_true, if_false, Bool.not_true, Bool.not_false, decide_true, decide_false], by simp -implicitDefEqProofs only [semDef_ap, sSeq_ap, sSet_ap, sRet_ap, sIf_ap, sExpr_ap, sNil_ap, sNever_ap, sAug_ap, sPar_ap, sAsgT_ap, sStore_ap, sAugStore_ap, sFor_ap, sForO_ap, sWhile_ap, turn_ap, gNm_ap, gsNil_ap, gsCons_ap, gTp_ap, eVar_ap, eMove_ap, eC_ap, eBin_ap, eUn_ap, tOf_ap, tvAnd_ap, tvOr_ap, tvNot_ap, eAnd_ap, eOr_ap, eNot_ap, eIf_ap, eChain_ap, aNil_ap, aCons_ap, aStar_ap, eTup_ap, eLst_ap, eCall_ap, eCallL_ap, lNil_ap, lSh_ap, lLe_ap, lstAt_ap, eOwn2_ap, eSl_ap, pNo_ap, pSome_ap, eLstRg1_ap, eTupRg1_ap, eApp_ap, eExtend_ap, iOf_ap, iEnum_ap, iZip2_ap, iRng1_ap, eLc_ap, keep_nil, keep_zero, opI, opIc, opB, opAdd, opLen, opNeg, opMax, opMin, opAbs, opInt, opIx, opIsNotN, opIsN, isNon, opTuple, opList, opRev, opSl, opSlL, isi_int, isi_boolint, isi_tuple, items?, opEq_int, opNe_int, setAll, forgetAll, wipeE, backE, lentAt, fill, List.cons_append, List.nil_append, List.append_nil, List.replicate_succ, List.replicate_zero, List.getElem?_cons_zero, List.getElem?_cons_succ, List.set_cons_zero, List.set_cons_succ, List.map_cons, List.map_nil, List.length_cons, List.length_nil, List.length_map, List.length_replicate, List.all_nil, List.all_cons, Option.isSome, Option.bind_some, Option.map_some, Option.getD_some, Option.bind_none, Option.map_none, Nat.reduceAdd, Nat.zero_add, beq_self_eq_true, Bool.and_true, Bool.true_and, Bool.false_eq_true, reduceIte, reduceCtorEq, if_true, if_false, Bool.not_true, Bool.not_false, decide_true, decide_false]⟩
  have em : (((f ++ List.replicate (max f.length g.length - f.length) 0).zip (g ++ List.replicate (max f.length g.length - g.length) 0)).map fun n : Int × Int => PV.int (n.1 + n.2)) = (List.zipWith (· + ·) (f ++ List.replicate (max f.length g.length - f.length) 0) (g ++ List.replicate (max f.length g.length - g.length) 0)).map .int := by
    rw [List.zip, List.map_zipWith, List.map_zipWith]
  have hlen : (List.zipWith (· + ·) (f ++ List.replicate (max f.length g.length - f.length) 0) (g ++ List.replicate (max f.length g.length - g.length) (0 : Int))).length = max f.length g.length := by
    rw [List.length_zipWith]
    simp only [List.length_append, List.length_replicate]
    omega
  obtain ⟨t, e, n, l, v⟩ := s_trimmed p (List.zipWith (· + ·) (f ++ List.replicate (max f.length g.length - f.length) 0) (g ++ List.replicate (max f.length g.length - g.length) 0)) hp (by omega)
  refine ⟨t, ?_, n, by omega, fun x => ?_⟩
  · have f1 : fits (f.length + (max f.length g.length - f.length)) = true := fits_of (by omega)
    have f2 : fits (g.length + (max f.length g.length - g.length)) = true := fits_of (by omega)
    have f3 : ∀ l m : List PV, fits (min (f.length + (max f.length g.length - f.length)) (g.length + (max f.length g.length - g.length))) = true := fun _ _ => fits_of (by omega)
    have one : fits 1 = true := by decide
    have lc' := lc (some (.int p)) (some (tI f)) (some (tI g)) (some (.int (max f.length g.length : Nat))) (some (lI (f ++ List.replicate (max f.length g.length - f.length) 0)), some (lI (g ++ List.replicate (max f.length g.length - g.length) 0)))
    simp -implicitDefEqProofs only [m_added_in, b_added_in, semDef_ap, sSeq_ap, sSet_ap, sRet_ap, sIf_ap, sExpr_ap, sNil_ap, sNever_ap, sAug_ap, sPar_ap, sAsgT_ap, sStore_ap, sAugStore_ap, sFor_ap, sForO_ap, sWhile_ap, turn_ap, gNm_ap, gsNil_ap, gsCons_ap, gTp_ap, eVar_ap, eMove_ap, eC_ap, eBin_ap, eUn_ap, tOf_ap, tvAnd_ap, tvOr_ap, tvNot_ap, eAnd_ap, eOr_ap, eNot_ap, eIf_ap, eChain_ap, aNil_ap, aCons_ap, aStar_ap, eTup_ap, eLst_ap, eCall_ap, eCallL_ap, lNil_ap, lSh_ap, lLe_ap, lstAt_ap, eOwn2_ap, eSl_ap, pNo_ap, pSome_ap, eLstRg1_ap, eTupRg1_ap, eApp_ap, eExtend_ap, iOf_ap, iEnum_ap, iZip2_ap, iRng1_ap, eLc_ap, keep_nil, keep_zero, opI, opIc, opB, opAdd, opLen, opNeg, opMax, opMin, opAbs, opInt, opIx, opIsNotN, opIsN, isNon, opTuple, opList, opRev, opSl, opSlL, isi_int, isi_boolint, isi_tuple, items?, opEq_int, opNe_int, setAll, forgetAll, wipeE, backE, lentAt, fill, List.cons_append, List.nil_append, List.append_nil, List.replicate_succ, List.replicate_zero, List.getElem?_cons_zero, List.getElem?_cons_succ, List.set_cons_zero, List.set_cons_succ, List.map_cons, List.map_nil, List.length_cons, List.length_nil, List.length_map, List.length_replicate, List.all_nil, List.all_cons, Option.isSome, Option.bind_some, Option.map_some, Option.getD_some, Option.bind_none, Option.map_none, Nat.reduceAdd, Nat.zero_add, beq_self_eq_true, Bool.and_true, Bool.true_and, Bool.false_eq_true, reduceIte, reduceCtorEq, if_true, if_false, Bool.not_true, Bool.not_false, decide_true, decide_false, hw, opRep, r1, r2, r3, r4, one, List.length_append, f1, f2, ← List.map_append, zipP_map, List.length_zip, f3 [] [], lc', em, e]
  · have := v x
    rw [ev_zipAdd _ _ x (by simp only [List.length_append, List.length_replicate]; omega), ev_zeros, ev_zeros] at this
    exact this
end Hd

namespace Hd
open PL PM
theorem s_product_in (p : Int) (f g : List Int) (hp : 0 < p) (hp2 : p < 1000000) (nf : Nums p f) (ng : Nums p g) (lf : f.length ≤ 400) (lg : g.length ≤ 400) : ∃ t, m_product_in [some (.int p), some (tI f), some (tI g)] = some (tI t, [none, none, none]) ∧ Nums p t ∧ t.length ≤ f.length + g.length - 1 ∧ ∀ x, Cg p (ev t x) (ev f x * ev g x) := by
  have enil : ∀ l : List Int, opEq (.tup (l.map .int)) (.tup []) = some (.bl (decide (l = []))) := fun l => opEq_tI l []
  have f0 : fits 0 = true := by decide
  have e0 : opEq (tI []) (.tup []) = some (.bl true) := by
    rw [show (PV.tup [] : PV) = tI [] from rfl, opEq_tI]
    rfl
  by_cases hf : f = []
  · subst hf
    refine ⟨[], ?_, (fun x h => absurd h (by simp)), by simp, fun x => ?_⟩
    · simp -implicitDefEqProofs only [m_product_in, b_product_in, semDef_ap, sSeq_ap, sSet_ap, sRet_ap, sIf_ap, sExpr_ap, sNil_ap, sNever_ap, sAug_ap, sPar_ap, sAsgT_ap, sStore_ap, sAugStore_ap, sFor_ap, sForO_ap, sWhile_ap, turn_ap, gNm_ap, gsNil_ap, gsCons_ap, gTp_ap, eVar_ap, eMove_ap, eC_ap, eBin_ap, eUn_ap, tOf_ap, tvAnd_ap, tvOr_ap, tvNot_ap, eAnd_ap, eOr_ap, eNot_ap, eIf_ap, eChain_ap, aNil_ap, aCons_ap, aStar_ap, eTup_ap, eLst_ap, eCall_ap, eCallL_ap, lNil_ap, lSh_ap, lLe_ap, lstAt_ap, eOwn2_ap, eSl_ap, pNo_ap, pSome_ap, eLstRg1_ap, eTupRg1_ap, eApp_ap, eExtend_ap, iOf_ap, iEnum_ap, iZip2_ap, iRng1_ap, eLc_ap, keep_nil, keep_zero, opI, opIc, opB, opAdd, opLen, opNeg, opMax, opMin, opAbs, opInt, opIx, opIsNotN, opIsN, isNon, opTuple, opList, opRev, opSl, opSlL, isi_int, isi_boolint, isi_tuple, items?, opEq_int, opNe_int, setAll, forgetAll, wipeE, backE, lentAt, fill, List.cons_append, List.nil_append, List.append_nil, List.replicate_succ, List.replicate_zero, List.getElem?_cons_zero, List.getElem?_cons_succ, List.set_cons_zero, List.set_cons_succ, List.map_cons, List.map_nil, List.length_cons, List.length_nil, List.length_map, List.length_replicate, List.all_nil, List.all_cons, Option.isSome, Option.bind_some, Option.map_some, Option.getD_some, Option.bind_none, Option.map_none, Nat.reduceAdd, Nat.zero_add, beq_self_eq_true, Bool.and_true, Bool.true_and, Bool.false_eq_true, reduceIte, reduceCtorEq, if_true, if_false, Bool.not_true, Bool.not_false, decide_true, decide_false, f0, e0]
      rfl
    · simp only [ev, Int.zero_mul]
      exact Cg.refl _ _
  by_cases hg : g = []
  · subst hg
    refine ⟨[], ?_, (fun x h => absurd h (by simp)), by simp, fun x => ?_⟩
    · simp -implicitDefEqProofs only [m_product_in, b_product_in, semDef_ap, sSeq_ap, sSet_ap, sRet_ap, sIf_ap, sExpr_ap, sNil_ap, sNever_ap, sAug_ap, sPar_ap, sAsgT_ap, sStore_ap, sAugStore_ap, sFor_ap, sForO_ap, sWhile_ap, turn_ap, gNm_ap, gsNil_ap, gsCons_ap, gTp_ap, eVar_ap, eMove_ap, eC_ap, eBin_ap, eUn_ap, tOf_ap, tvAnd_ap, tvOr_ap, tvNot_ap, eAnd_ap, eOr_ap, eNot_ap, eIf_ap, eChain_ap, aNil_ap, aCons_ap, aStar_ap, eTup_ap, eLst_ap, eCall_ap, eCallL_ap, lNil_ap, lSh_ap, lLe_ap, lstAt_ap, eOwn2_ap, eSl_ap, pNo_ap, pSome_ap, eLstRg1_ap, eTupRg1_ap, eApp_ap, eExtend_ap, iOf_ap, iEnum_ap, iZip2_ap, iRng1_ap, eLc_ap, keep_nil, keep_zero, opI, opIc, opB, opAdd, opLen, opNeg, opMax, opMin, opAbs, opInt, opIx, opIsNotN, opIsN, isNon, opTuple, opList, opRev, opSl, opSlL, isi_int, isi_boolint, isi_tuple, items?, opEq_int, opNe_int, setAll, forgetAll, wipeE, backE, lentAt, fill, List.cons_append, List.nil_append, List.append_nil, List.replicate_succ, List.replicate_zero, List.getElem?_cons_zero, List.getElem?_cons_succ, List.set_cons_zero, List.set_cons_succ, List.map_cons, List.map_nil, List.length_cons, List.length_nil, List.length_map, List.length_replicate, List.all_nil, List.all_cons, Option.isSome, Option.bind_some, Option.map_some, Option.getD_some, Option.bind_none, Option.map_none, Nat.reduceAdd, Nat.zero_add, beq_self_eq_true, Bool.and_true, Bool.true_and, Bool.false_eq_true, reduceIte, reduceCtorEq, if_true, if_false, Bool.not_true, Bool.not_false, decide_true, decide_false, f0, enil f, decide_eq_false hf, e0]
      rfl
    · simp only [ev, Int.mul_zero]
      exact Cg.refl _ _
  have pf : 0 < f.length := List.length_pos_iff.mpr hf
  have pg : 0 < g.length := List.length_pos_iff.mpr hg
  have inner : ∀ (F G : Option PV) (i : Nat) (one : Int) (rest : List Int) (n : Nat) (found : List Int), 0 ≤ one → one < p → i + n + rest.length ≤ found.length → ∃ found', forL (turn (gTp 2 (gsCons (gNm 6) (gsCons (gNm 7) gsNil))) (sAugStore 3 (opI fun i j => i + j) (eBin opAdd (eVar 4) (eVar 6)) (eBin opMul (eVar 5) (eVar 7))) [6, 7]) (enumP n (rest.map .int)) [some (.int p), F, G, some (lI found), some (.int i), some (.int one), none, none]
      = some (.nx, [some (.int p), F, G, some (lI found'), some (.int i), some (.int one), none, none]) ∧ found'.length = found.length ∧ ∀ x, ev found' x = ev found x + one * x ^ (i + n) * ev rest x := by
    intro F G i one rest
    induction rest with
    | nil =>
      intro n found _ _ _
      exact ⟨found, rfl, rfl, fun x => by simp [ev]⟩
    | cons c rest ih =>
      intro n found h1 h2 hl
      simp only [List.length_cons] at hl
      have hlt : i + n < found.length := by omega
      obtain ⟨v, hv⟩ : ∃ v, found[i + n]? = some v := ⟨_, List.getElem?_eq_getElem hlt⟩
      obtain ⟨found', e, l, q⟩ := ih (n + 1) (found.set (i + n) (v + one * c)) h1 h2 (by rw [List.length_set]; omega)
      refine ⟨found', ?_, by rw [l, List.length_set], fun x => ?_⟩
      · have hix : L2.ixN found.length ((i : Int) + (n : Int)) = some (i + n) := by
          rw [ixN_of (by omega) (by omega)]
          congr 1
        have hget : (found.map PV.int)[i + n]? = some (.int v) := by rw [List.getElem?_map, hv]; rfl
        have hm : mulOk one c = true := mulOk_left (by omega) (by omega)
        show forL _ (PV.tup [.int n, .int c] :: enumP (n + 1) (rest.map .int)) _ = _
        unfold forL
        have e1 : turn (gTp 2 (gsCons (gNm 6) (gsCons (gNm 7) gsNil))) (sAugStore 3 (opI fun i j => i + j) (eBin opAdd (eVar 4) (eVar 6)) (eBin opMul (eVar 5) (eVar 7))) [6, 7] (PV.tup [.int n, .int c]) [some (.int p), F, G, some (lI found), some (.int i), some (.int one), none, none]
            = some (.nx, [some (.int p), F, G, some (lI (found.set (i + n) (v + one * c))), some (.int i), some (.int one), none, none]) := by
          simp -implicitDefEqProofs only [semDef_ap, sSeq_ap, sSet_ap, sRet_ap, sIf_ap, sExpr_ap, sNil_ap, sNever_ap, sAug_ap, sPar_ap, sAsgT_ap, sStore_ap, sAugStore_ap, sFor_ap, sForO_ap, sWhile_ap, turn_ap, gNm_ap, gsNil_ap, gsCons_ap, gTp_ap, eVar_ap, eMove_ap, eC_ap, eBin_ap, eUn_ap, tOf_ap, tvAnd_ap, tvOr_ap, tvNot_ap, eAnd_ap, eOr_ap, eNot_ap, eIf_ap, eChain_ap, aNil_ap, aCons_ap, aStar_ap, eTup_ap, eLst_ap, eCall_ap, eCallL_ap, lNil_ap, lSh_ap, lLe_ap, lstAt_ap, eOwn2_ap, eSl_ap, pNo_ap, pSome_ap, eLstRg1_ap, eTupRg1_ap, eApp_ap, eExtend_ap, iOf_ap, iEnum_ap, iZip2_ap, iRng1_ap, eLc_ap, keep_nil, keep_zero, opI, opIc, opB, opAdd, opLen, opNeg, opMax, opMin, opAbs, opInt, opIx, opIsNotN, opIsN, isNon, opTuple, opList, opRev, opSl, opSlL, isi_int, isi_boolint, isi_tuple, items?, opEq_int, opNe_int, setAll, forgetAll, wipeE, backE, lentAt, fill, List.cons_append, List.nil_append, List.append_nil, List.replicate_succ, List.replicate_zero, List.getElem?_cons_zero, List.getElem?_cons_succ, List.set_cons_zero, List.set_cons_succ, List.map_cons, List.map_nil, List.length_cons, List.length_nil, List.length_map, List.length_replicate, List.all_nil, List.all_cons, Option.isSome, Option.bind_some, Option.map_some, Option.getD_some, Option.bind_none, Option.map_none, Nat.reduceAdd, Nat.zero_add, beq_self_eq_true, Bool.and_true, Bool.true_and, Bool.false_eq_true, reduceIte, reduceCtorEq, if_true, if_false, Bool.not_true, Bool.not_false, decide_true, decide_false, hix, hget, hm, ← List.map_set]
        rw [e1]
        exact e
      · rw [q x, ev_set hv]
        show ev found x + one * c * x ^ (i + n) + one * x ^ (i + (n + 1)) * ev rest x = ev found x + one * x ^ (i + n) * (ev rest x * x + c)
        rw [← Nat.add_assoc, Int.pow_succ, Int.mul_add]
        have a1 : one * (x ^ (i + n) * x) * ev rest x = one * x ^ (i + n) * (ev rest x * x) := by rw [← Int.mul_assoc one, Int.mul_assoc _ x, Int.mul_comm x]
        have a2 : one * c * x ^ (i + n) = one * x ^ (i + n) * c := by rw [Int.mul_assoc, Int.mul_comm c, ← Int.mul_assoc]
        rw [a1, a2]
        omega
  have outer : ∀ (F : Option PV) (rest : List Int) (n : Nat) (found : List Int), Nums p rest → n + rest.length + g.length ≤ found.length + 1 → ∃ found', forL (turn (gTp 2 (gsCons (gNm 4) (gsCons (gNm 5) gsNil))) (sFor (iEnum (eVar 2)) (gTp 2 (gsCons (gNm 6) (gsCons (gNm 7) gsNil))) (sAugStore 3 (opI fun i j => i + j) (eBin opAdd (eVar 4) (eVar 6)) (eBin opMul (eVar 5) (eVar 7))) [6, 7]) [4, 5, 6, 7]) (enumP n (rest.map .int)) [some (.int p), F, some (tI g), some (lI found), none, none, none, none]
      = some (.nx, [some (.int p), F, some (tI g), some (lI found'), none, none, none, none]) ∧ found'.length = found.length ∧ ∀ x, ev found' x = ev found x + x ^ n * ev rest x * ev g x := by
    intro F rest
    induction rest with
    | nil =>
      intro n found _ _
      exact ⟨found, rfl, rfl, fun x => by simp [ev]⟩
    | cons c rest ih =>
      intro n found hn hl
      simp only [List.length_cons] at hl
      have hc := hn c List.mem_cons_self
      obtain ⟨f1, e1, l1, q1⟩ := inner F (some (tI g)) n c g 0 found hc.1 hc.2 (by omega)
      obtain ⟨f2, e2, l2, q2⟩ := ih (n + 1) f1 (fun x hx => hn x (List.mem_cons_of_mem _ hx)) (by omega)
      refine ⟨f2, ?_, by omega, fun x => ?_⟩
      · show forL _ (PV.tup [.int n, .int c] :: enumP (n + 1) (rest.map .int)) _ = _
        unfold forL
        have e3 : turn (gTp 2 (gsCons (gNm 4) (gsCons (gNm 5) gsNil))) (sFor (iEnum (eVar 2)) (gTp 2 (gsCons (gNm 6) (gsCons (gNm 7) gsNil))) (sAugStore 3 (opI fun i j => i + j) (eBin opAdd (eVar 4) (eVar 6)) (eBin opMul (eVar 5) (eVar 7))) [6, 7]) [4, 5, 6, 7] (PV.tup [.int n, .int c]) [some (.int p), F, some (tI g), some (lI found), none, none, none, none]
            = some (.nx, [some (.int p), F, some (tI g), some (lI f1), none, none, none, none]) := by
          simp -implicitDefEqProofs only [semDef_ap, sSeq_ap, sSet_ap, sRet_ap, sIf_ap, sExpr_ap, sNil_ap, sNever_ap, sAug_ap, sPar_ap, sAsgT_ap, sStore_ap, sAugStore_ap, sFor_ap, sForO_ap, sWhile_ap, turn_ap, gNm_ap, gsNil_ap, gsCons_ap, gTp_ap, eVar_ap, eMove_ap, eC_ap, eBin_ap, eUn_ap, tOf_ap, tvAnd_ap, tvOr_ap, tvNot_ap, eAnd_ap, eOr_ap, eNot_ap, eIf_ap, eChain_ap, aNil_ap, aCons_ap, aStar_ap, eTup_ap, eLst_ap, eCall_ap, eCallL_ap, lNil_ap, lSh_ap, lLe_ap, lstAt_ap, eOwn2_ap, eSl_ap, pNo_ap, pSome_ap, eLstRg1_ap, eTupRg1_ap, eApp_ap, eExtend_ap, iOf_ap, iEnum_ap, iZip2_ap, iRng1_ap, eLc_ap, keep_nil, keep_zero, opI, opIc, opB, opAdd, opLen, opNeg, opMax, opMin, opAbs, opInt, opIx, opIsNotN, opIsN, isNon, opTuple, opList, opRev, opSl, opSlL, isi_int, isi_boolint, isi_tuple, items?, opEq_int, opNe_int, setAll, forgetAll, wipeE, backE, lentAt, fill, List.cons_append, List.nil_append, List.append_nil, List.replicate_succ, List.replicate_zero, List.getElem?_cons_zero, List.getElem?_cons_succ, List.set_cons_zero, List.set_cons_succ, List.map_cons, List.map_nil, List.length_cons, List.length_nil, List.length_map, List.length_replicate, List.all_nil, List.all_cons, Option.isSome, Option.bind_some, Option.map_some, Option.getD_some, Option.bind_none, Option.map_none, Nat.reduceAdd, Nat.zero_add, beq_self_eq_true, Bool.and_true, Bool.true_and, Bool.false_eq_true, reduceIte, reduceCtorEq, if_true, if_false, Bool.not_true, Bool.not_false, decide_true, decide_false, e1]
        rw [e3]
        exact e2
      · rw [q2 x, q1 x]
        show ev found x + c * x ^ (n + 0) * ev g x + x ^ (n + 1) * ev rest x * ev g x = ev found x + x ^ n * (ev rest x * x + c) * ev g x
        rw [Nat.add_zero, Int.mul_add, Int.add_mul, Int.pow_succ]
        have a1 : x ^ n * x * ev rest x * ev g x = x ^ n * (ev rest x * x) * ev g x := by rw [Int.mul_assoc (x ^ n) x, Int.mul_comm x (ev rest x)]
        have a2 : c * x ^ n * ev g x = x ^ n * c * ev g x := by rw [Int.mul_comm c]
        rw [a1, a2]
        omega
  obtain ⟨f1, e1, l1, q1⟩ := outer (some (tI f)) f 0 (List.replicate (f.length + g.length - 1) 0) nf (by rw [List.length_replicate]; omega)
  rw [List.length_replicate] at l1
  obtain ⟨t, e, n, l, v⟩ := s_trimmed p f1 hp (by omega)
  refine ⟨t, ?_, n, by omega, fun x => ?_⟩
  · have hk : (decide (-(2 ^ 63) ≤ (f.length : Int) + (g.length : Int) - 1 ∧ (f.length : Int) + (g.length : Int) - 1 < 2 ^ 63) && fits (1 * ((f.length : Int) + (g.length : Int) - 1).toNat)) = true := by
      rw [decide_eq_true (by omega), fits_of (by omega)]
      rfl
    have hr : (List.replicate ((f.length : Int) + (g.length : Int) - 1).toNat [PV.int 0]).flatten = (List.replicate (f.length + g.length - 1) (0 : Int)).map .int := by
      rw [show ((f.length : Int) + (g.length : Int) - 1).toNat = f.length + g.length - 1 from by omega]
      exact rep_zero _
    have one : fits 1 = true := by decide
    simp -implicitDefEqProofs only [m_product_in, b_product_in, semDef_ap, sSeq_ap, sSet_ap, sRet_ap, sIf_ap, sExpr_ap, sNil_ap, sNever_ap, sAug_ap, sPar_ap, sAsgT_ap, sStore_ap, sAugStore_ap, sFor_ap, sForO_ap, sWhile_ap, turn_ap, gNm_ap, gsNil_ap, gsCons_ap, gTp_ap, eVar_ap, eMove_ap, eC_ap, eBin_ap, eUn_ap, tOf_ap, tvAnd_ap, tvOr_ap, tvNot_ap, eAnd_ap, eOr_ap, eNot_ap, eIf_ap, eChain_ap, aNil_ap, aCons_ap, aStar_ap, eTup_ap, eLst_ap, eCall_ap, eCallL_ap, lNil_ap, lSh_ap, lLe_ap, lstAt_ap, eOwn2_ap, eSl_ap, pNo_ap, pSome_ap, eLstRg1_ap, eTupRg1_ap, eApp_ap, eExtend_ap, iOf_ap, iEnum_ap, iZip2_ap, iRng1_ap, eLc_ap, keep_nil, keep_zero, opI, opIc, opB, opAdd, opLen, opNeg, opMax, opMin, opAbs, opInt, opIx, opIsNotN, opIsN, isNon, opTuple, opList, opRev, opSl, opSlL, isi_int, isi_boolint, isi_tuple, items?, opEq_int, opNe_int, setAll, forgetAll, wipeE, backE, lentAt, fill, List.cons_append, List.nil_append, List.append_nil, List.replicate_succ, List.replicate_zero, List.getElem?_cons_zero, List.getElem?_cons_succ, List.set_cons_zero, List.set_cons_succ, List.map_cons, List.map_nil, List.length_cons, List.length_nil, List.length_map, List.length_replicate, List.all_nil, List.all_cons, Option.isSome, Option.bind_some, Option.map_some, Option.getD_some, Option.bind_none, Option.map_none, Nat.reduceAdd, Nat.zero_add, beq_self_eq_true, Bool.and_true, Bool.true_and, Bool.false_eq_true, reduceIte, reduceCtorEq, if_true, if_false, Bool.not_true, Bool.not_false, decide_true, decide_false, f0, enil f, enil g, decide_eq_false hf, decide_eq_false hg, opRep, one, hk, hr, e1, e]
  · have := v x
    rw [q1 x, ev_nil_zeros, Int.zero_add, Int.pow_zero, Int.one_mul] at this
    exact this
end Hd

namespace Hd
open PL PM
/-- every number below p but nought has its inverse -/
abbrev Inv (p : Nat) : Prop := ∀ y : Nat, y < p → 0 < y → (y ^ (p - 2) * y) % p = 1
theorem inv_cg {p : Nat} (hp : 2 ≤ p) (h : Inv p) {y : Int} (h0 : 0 < y) (h1 : y < p) : Cg p (y ^ (p - 2) % p * y) 1 := by
  obtain ⟨n, rfl⟩ : ∃ n : Nat, y = n := ⟨y.toNat, by omega⟩
  refine Cg.trans (Cg.mul (Cg.mod _ _) (Cg.refl _ _)) (Cg.iff.mpr ?_)
  have e := h n (by omega) (by omega)
  rw [show (1 : Int) % (p : Int) = 1 from Int.emod_eq_of_lt (by decide) (by omega)]
  rw [← Int.natCast_pow, ← Int.natCast_mul, ← Int.natCast_emod, e]
  rfl
theorem s_through_in (p : Nat) (vals : List Int) (hP : Pr p) (hI : Inv p) (hp2 : p < 20000) (nv : Nums p vals) (lv : vals.length ≤ p) (lv2 : vals.length ≤ 300) : ∃ t, m_through_in [some (.int p), some (tI vals)] = some (tI t, [none, none]) ∧ Nums p t ∧ t.length ≤ vals.length ∧ ∀ (j : Nat) (v : Int), vals[j]? = some v → Cg p (ev t j) v := by
  have hp : 2 ≤ p := by have := hP.1; omega
  have loop : ∀ (V : Option PV) (rest : List Int) (k : Nat) (found ahead : List Int), k + rest.length ≤ p → k + rest.length ≤ 300 → Nums p rest → Nums p found → found.length ≤ k → Nums p ahead → ahead.length ≤ k + 1 → (∀ x, Cg p (ev ahead x) (prodTo k x)) →
      ∃ t a, forL (turn (gTp 2 (gsCons (gNm 4) (gsCons (gNm 5) gsNil))) (sSeq (sSet 6 (eBin opMul (eBin opSub (eVar 5) (eCall 3 m_worth_in (aCons (eVar 0) (aCons (eVar 2) (aCons (eVar 4) aNil))))) (eCall 2 m_back_in (aCons (eVar 0) (aCons (eCall 3 m_worth_in (aCons (eVar 0) (aCons (eVar 3) (aCons (eVar 4) aNil)))) aNil)))))
    (sSeq (sSet 2 (eCall 3 m_added_in (aCons (eVar 0) (aCons (eVar 2) (aCons (eCall 3 m_scaled_in (aCons (eVar 0) (aCons (eVar 3) (aCons (eVar 6) aNil)))) aNil)))))
    (sSet 3 (eCall 3 m_product_in (aCons (eVar 0) (aCons (eVar 3) (aCons (eTup (aCons (eBin opMod (eUn opNeg (eVar 4)) (eVar 0)) (aCons (eC (.int 1)) aNil))) aNil))))))) [4, 5, 6]) (enumP k (rest.map .int)) [some (.int p), V, some (tI found), some (tI ahead), none, none, none]
        = some (.nx, [some (.int p), V, some (tI t), some (tI a), none, none, none]) ∧ Nums p t ∧ t.length ≤ k + rest.length ∧ (∀ j : Nat, j < k → Cg p (ev t j) (ev found j)) ∧ ∀ (j : Nat) (v : Int), rest[j]? = some v → Cg p (ev t (k + j : Nat)) v := by
    intro V rest
    induction rest with
    | nil =>
      intro k found ahead _ _ _ nf lf na la ha
      exact ⟨found, ahead, rfl, nf, lf, fun j _ => Cg.refl _ _, fun j v h => by simp at h⟩
    | cons v rest ih =>
      intro k found ahead hk hk2 nr nf lf na la ha
      simp only [List.length_cons] at hk hk2
      have hv := nr v List.mem_cons_self
      have w1 := s_worth_in p found k (by omega) (by omega) (by omega)
      have w2 := s_worth_in p ahead k (by omega) (by omega) (by omega)
      have wn := worth_nums (p := p) (by omega) found k
      have wa := worth_nums (p := p) (by omega) ahead k
      have ca : Cg p (worth p ahead k) (ev ahead k) := by rw [worth_ev p (by omega)]; exact Cg.mod _ _
      have cf : Cg p (worth p found k) (ev found k) := by rw [worth_ev p (by omega)]; exact Cg.mod _ _
      have hne : 0 < worth p ahead k := by
        rcases Int.lt_or_eq_of_le wa.1 with q | q
        · exact q
        · refine absurd (Cg.zero.mp ?_) (prodTo_ne hP k k (Nat.le_refl _) (by omega))
          have := (ha k).symm.trans ca.symm
          rw [← q] at this
          exact this
      have b1 := s_back_in p (worth p ahead k) hp hp2
      generalize hbk : worth p ahead k ^ (p - 2) % (p : Int) = bk at b1
      have hinv : Cg p (bk * worth p ahead k) 1 := by rw [← hbk]; exact inv_cg hp hI hne wa.2
      obtain ⟨sc, e1, n1, l1, q1⟩ := s_scaled_in p ahead ((v - worth p found k) * bk) (by omega) (by omega) na (by omega)
      obtain ⟨f2, e2, n2, l2, q2⟩ := s_added_in p found sc (by omega) (by omega) (by omega)
      have nm : Nums p [-(k : Int) % p, 1] := fun x hx => by
        simp only [List.mem_cons, List.not_mem_nil, or_false] at hx
        rcases hx with rfl | rfl
        · exact ⟨Int.emod_nonneg _ (by omega), Int.emod_lt_of_pos _ (by omega)⟩
        · exact ⟨by decide, by omega⟩
      obtain ⟨a2, e3, n3, l3, q3⟩ := s_product_in p ahead [-(k : Int) % p, 1] (by omega) (by omega) na nm (by omega) (by simp)
      have e3 : m_product_in [some (.int p), some (tI ahead), some (.tup [.int (-(k : Int) % p), .int 1])] = some (tI a2, [none, none, none]) := e3
      have ha2 : ∀ x, Cg p (ev a2 x) (prodTo (k + 1) x) := fun x => by
        refine (q3 x).trans (Cg.mul (ha x) ?_)
        show Cg p ((0 * x + 1) * x + -(k : Int) % p) (x - k)
        have : x - (k : Int) = (0 * x + 1) * x + -(k : Int) := by rw [Int.zero_mul, Int.zero_add, Int.one_mul]; omega
        rw [this]
        exact Cg.add (Cg.refl _ _) (Cg.mod _ _)
      simp only [List.length_cons, List.length_nil] at l3
      obtain ⟨t, a, e4, n4, l4, o4, r4⟩ := ih (k + 1) f2 a2 (by omega) (by omega) (fun x hx => nr x (List.mem_cons_of_mem _ hx)) n2 (by omega) n3 (by omega) ha2
      have fx : ∀ x, Cg p (ev f2 x) (ev found x + (v - worth p found k) * bk * ev ahead x) := fun x => (q2 x).trans (Cg.add (Cg.refl _ _) (q1 x))
      refine ⟨t, a, ?_, n4, by simp only [List.length_cons]; omega, fun j hj => ?_, fun j w hw => ?_⟩
      · show forL _ (PV.tup [.int k, .int v] :: enumP (k + 1) (rest.map .int)) _ = _
        unfold forL
        have hm : mulOk (v - worth p found k) bk = true := mulOk_left (by omega) (by omega)
        have hpd : decide ((0 : Int) < (p : Int)) = true := decide_eq_true (by omega)
        have f2' : fits 2 = true := by decide
        simp -implicitDefEqProofs only [semDef_ap, sSeq_ap, sSet_ap, sRet_ap, sIf_ap, sExpr_ap, sNil_ap, sNever_ap, sAug_ap, sPar_ap, sAsgT_ap, sStore_ap, sAugStore_ap, sFor_ap, sForO_ap, sWhile_ap, turn_ap, gNm_ap, gsNil_ap, gsCons_ap, gTp_ap, eVar_ap, eMove_ap, eC_ap, eBin_ap, eUn_ap, tOf_ap, tvAnd_ap, tvOr_ap, tvNot_ap, eAnd_ap, eOr_ap, eNot_ap, eIf_ap, eChain_ap, aNil_ap, aCons_ap, aStar_ap, eTup_ap, eLst_ap, eCall_ap, eCallL_ap, lNil_ap, lSh_ap, lLe_ap, lstAt_ap, eOwn2_ap, eSl_ap, pNo_ap, pSome_ap, eLstRg1_ap, eTupRg1_ap, eApp_ap, eExtend_ap, iOf_ap, iEnum_ap, iZip2_ap, iRng1_ap, eLc_ap, keep_nil, keep_zero, opI, opIc, opB, opAdd, opLen, opNeg, opMax, opMin, opAbs, opInt, opIx, opIsNotN, opIsN, isNon, opTuple, opList, opRev, opSl, opSlL, isi_int, isi_boolint, isi_tuple, items?, opEq_int, opNe_int, setAll, forgetAll, wipeE, backE, lentAt, fill, List.cons_append, List.nil_append, List.append_nil, List.replicate_succ, List.replicate_zero, List.getElem?_cons_zero, List.getElem?_cons_succ, List.set_cons_zero, List.set_cons_succ, List.map_cons, List.map_nil, List.length_cons, List.length_nil, List.length_map, List.length_replicate, List.all_nil, List.all_cons, Option.isSome, Option.bind_some, Option.map_some, Option.getD_some, Option.bind_none, Option.map_none, Nat.reduceAdd, Nat.zero_add, beq_self_eq_true, Bool.and_true, Bool.true_and, Bool.false_eq_true, reduceIte, reduceCtorEq, if_true, if_false, Bool.not_true, Bool.not_false, decide_true, decide_false, w1, w2, b1, hm, e1, e2, hpd, f2', e3]
        exact e4
      · refine (o4 j (by omega)).trans ((fx j).trans ?_)
        have : Cg p (ev ahead j) 0 := by
          have := ha j
          rw [prodTo_zero k j hj] at this
          exact this
        have := Cg.add (Cg.refl p (ev found j)) (Cg.mul (Cg.refl p ((v - worth p found k) * bk)) this)
        rw [Int.mul_zero, Int.add_zero] at this
        exact this
      · cases j with
        | zero =>
          have hw : v = w := by simpa using hw
          subst hw
          refine (o4 k (by omega)).trans ((fx k).trans ?_)
          have h1 : Cg p ((v - worth p found k) * bk * ev ahead k) (v - worth p found k) := by
            have := Cg.mul (Cg.refl p (v - worth p found k)) ((Cg.mul (Cg.refl p bk) ca.symm).trans hinv)
            rw [Int.mul_one, ← Int.mul_assoc] at this
            exact this
          have h2 := Cg.add (cf.symm) h1
          have e : worth p found k + (v - worth p found k) = v := by omega
          rw [e] at h2
          exact h2
        | succ j =>
          have := r4 j w (by simpa using hw)
          rw [show k + 1 + j = k + (j + 1) from by omega] at this
          exact this
  obtain ⟨t, a, e, n, l, _, r⟩ := loop (some (tI vals)) vals 0 [] [1] (by omega) (by omega) nv (fun x h => absurd h (by simp)) (by simp) (fun x h => by simp at h; omega) (by simp) (fun x => by simp [ev, prodTo]; exact Cg.refl _ _)
  refine ⟨t, ?_, n, by omega, fun j v h => by have := r j v h; rw [Nat.zero_add] at this; exact this⟩
  have g0 : fits 0 = true := by decide
  have g1 : fits 1 = true := by decide
  have g2 : fits 2 = true := by decide
  have e : forL (turn (gTp 2 (gsCons (gNm 4) (gsCons (gNm 5) gsNil))) (sSeq (sSet 6 (eBin opMul (eBin opSub (eVar 5) (eCall 3 m_worth_in (aCons (eVar 0) (aCons (eVar 2) (aCons (eVar 4) aNil))))) (eCall 2 m_back_in (aCons (eVar 0) (aCons (eCall 3 m_worth_in (aCons (eVar 0) (aCons (eVar 3) (aCons (eVar 4) aNil)))) aNil)))))
    (sSeq (sSet 2 (eCall 3 m_added_in (aCons (eVar 0) (aCons (eVar 2) (aCons (eCall 3 m_scaled_in (aCons (eVar 0) (aCons (eVar 3) (aCons (eVar 6) aNil)))) aNil)))))
    (sSet 3 (eCall 3 m_product_in (aCons (eVar 0) (aCons (eVar 3) (aCons (eTup (aCons (eBin opMod (eUn opNeg (eVar 4)) (eVar 0)) (aCons (eC (.int 1)) aNil))) aNil))))))) [4, 5, 6]) (enumP 0 (vals.map .int)) [some (.int p), some (tI vals), some (.tup []), some (.tup [.int 1]), none, none, none]
      = some (.nx, [some (.int p), some (tI vals), some (tI t), some (tI a), none, none, none]) := e
  simp -implicitDefEqProofs only [m_through_in, b_through_in, semDef_ap, sSeq_ap, sSet_ap, sRet_ap, sIf_ap, sExpr_ap, sNil_ap, sNever_ap, sAug_ap, sPar_ap, sAsgT_ap, sStore_ap, sAugStore_ap, sFor_ap, sForO_ap, sWhile_ap, turn_ap, gNm_ap, gsNil_ap, gsCons_ap, gTp_ap, eVar_ap, eMove_ap, eC_ap, eBin_ap, eUn_ap, tOf_ap, tvAnd_ap, tvOr_ap, tvNot_ap, eAnd_ap, eOr_ap, eNot_ap, eIf_ap, eChain_ap, aNil_ap, aCons_ap, aStar_ap, eTup_ap, eLst_ap, eCall_ap, eCallL_ap, lNil_ap, lSh_ap, lLe_ap, lstAt_ap, eOwn2_ap, eSl_ap, pNo_ap, pSome_ap, eLstRg1_ap, eTupRg1_ap, eApp_ap, eExtend_ap, iOf_ap, iEnum_ap, iZip2_ap, iRng1_ap, eLc_ap, keep_nil, keep_zero, opI, opIc, opB, opAdd, opLen, opNeg, opMax, opMin, opAbs, opInt, opIx, opIsNotN, opIsN, isNon, opTuple, opList, opRev, opSl, opSlL, isi_int, isi_boolint, isi_tuple, items?, opEq_int, opNe_int, setAll, forgetAll, wipeE, backE, lentAt, fill, List.cons_append, List.nil_append, List.append_nil, List.replicate_succ, List.replicate_zero, List.getElem?_cons_zero, List.getElem?_cons_succ, List.set_cons_zero, List.set_cons_succ, List.map_cons, List.map_nil, List.length_cons, List.length_nil, List.length_map, List.length_replicate, List.all_nil, List.all_cons, Option.isSome, Option.bind_some, Option.map_some, Option.getD_some, Option.bind_none, Option.map_none, Nat.reduceAdd, Nat.zero_add, beq_self_eq_true, Bool.and_true, Bool.true_and, Bool.false_eq_true, reduceIte, reduceCtorEq, if_true, if_false, Bool.not_true, Bool.not_false, decide_true, decide_false, g0, g1, g2, e]
theorem s_row_through (p : Nat) (vals : List Int) (hP : Pr p) (hI : Inv p) (hp2 : p < 20000) (nv : Nums p vals) (lv : vals.length ≤ p) (lv2 : vals.length ≤ 300) : ∃ t, m_row_through [some (.int p), some (tI vals)] = some (tI t, [none, none]) ∧ Nums p t ∧ t.length = vals.length ∧ ∀ (j : Nat) (v : Int), vals[j]? = some v → Cg p (ev t j) v := by
  obtain ⟨t, e, n, l, r⟩ := s_through_in p vals hP hI hp2 nv lv lv2
  refine ⟨t ++ List.replicate (vals.length - t.length) 0, ?_, fun x hx => ?_, by rw [List.length_append, List.length_replicate]; omega, fun j v h => by rw [ev_zeros]; exact r j v h⟩
  · have r1 : (decide (-(2 ^ 63) ≤ (vals.length : Int) - (t.length : Int) ∧ (vals.length : Int) - (t.length : Int) < 2 ^ 63) && fits (1 * ((vals.length : Int) - (t.length : Int)).toNat)) = true := by
      rw [decide_eq_true (by omega), fits_of (by omega)]
      rfl
    have r2 : (List.replicate ((vals.length : Int) - (t.length : Int)).toNat [PV.int 0]).flatten = (List.replicate (vals.length - t.length) (0 : Int)).map .int := by
      rw [show ((vals.length : Int) - (t.length : Int)).toNat = vals.length - t.length from by omega]
      exact rep_zero _
    have one : fits 1 = true := by decide
    have ft : fits (t.length + (vals.length - t.length)) = true := fits_of (by omega)
    simp -implicitDefEqProofs only [m_row_through, b_row_through, semDef_ap, sSeq_ap, sSet_ap, sRet_ap, sIf_ap, sExpr_ap, sNil_ap, sNever_ap, sAug_ap, sPar_ap, sAsgT_ap, sStore_ap, sAugStore_ap, sFor_ap, sForO_ap, sWhile_ap, turn_ap, gNm_ap, gsNil_ap, gsCons_ap, gTp_ap, eVar_ap, eMove_ap, eC_ap, eBin_ap, eUn_ap, tOf_ap, tvAnd_ap, tvOr_ap, tvNot_ap, eAnd_ap, eOr_ap, eNot_ap, eIf_ap, eChain_ap, aNil_ap, aCons_ap, aStar_ap, eTup_ap, eLst_ap, eCall_ap, eCallL_ap, lNil_ap, lSh_ap, lLe_ap, lstAt_ap, eOwn2_ap, eSl_ap, pNo_ap, pSome_ap, eLstRg1_ap, eTupRg1_ap, eApp_ap, eExtend_ap, iOf_ap, iEnum_ap, iZip2_ap, iRng1_ap, eLc_ap, keep_nil, keep_zero, opI, opIc, opB, opAdd, opLen, opNeg, opMax, opMin, opAbs, opInt, opIx, opIsNotN, opIsN, isNon, opTuple, opList, opRev, opSl, opSlL, isi_int, isi_boolint, isi_tuple, items?, opEq_int, opNe_int, setAll, forgetAll, wipeE, backE, lentAt, fill, List.cons_append, List.nil_append, List.append_nil, List.replicate_succ, List.replicate_zero, List.getElem?_cons_zero, List.getElem?_cons_succ, List.set_cons_zero, List.set_cons_succ, List.map_cons, List.map_nil, List.length_cons, List.length_nil, List.length_map, List.length_replicate, List.all_nil, List.all_cons, Option.isSome, Option.bind_some, Option.map_some, Option.getD_some, Option.bind_none, Option.map_none, Nat.reduceAdd, Nat.zero_add, beq_self_eq_true, Bool.and_true, Bool.true_and, Bool.false_eq_true, reduceIte, reduceCtorEq, if_true, if_false, Bool.not_true, Bool.not_false, decide_true, decide_false, e, one, opRep, r1, r2, ← List.map_append, List.length_append, ft]
  · rcases List.mem_append.mp hx with q | q
    · exact n x q
    · rw [(List.mem_replicate.mp q).2]
      exact ⟨by decide, by have := hP.1; omega⟩
end Hd

namespace Hd
open PL PM
def code (p : Int) (row : List Int) (n : Nat) : List Int := (List.range n).map fun (x : Nat) => worth p row x
theorem code_length (p : Int) (row : List Int) (n : Nat) : (code p row n).length = n := by simp [code]
theorem code_get {p : Int} {row : List Int} {n j : Nat} (h : j < n) : (code p row n)[j]? = some (worth p row j) := by
  unfold code
  rw [List.getElem?_map, List.getElem?_range h]
  rfl
theorem code_nums {p : Int} (hp : 0 < p) (row : List Int) (n : Nat) : Nums p (code p row n) := fun x hx => by
  obtain ⟨y, _, rfl⟩ := List.mem_map.mp hx
  exact worth_nums hp row y
abbrev known : List Int := [3, 5, 7, 11, 13, 17, 31, 61, 97, 193, 257, 769, 12289]
theorem known_b {p : Int} (h : p ∈ known) : 3 ≤ p ∧ p ≤ 12289 := by
  simp only [known, List.mem_cons, List.not_mem_nil, or_false] at h
  omega
theorem s_coded_row_in (p : Int) (row : List Int) (n : Nat) (hp : 0 < p) (hn : n ≤ 1000) : m_coded_row_in [some (.int p), some (tI row), some (.int n)] = some (tI (code p row n), [none, none, none]) := by
  have lc : ∀ a, lcL (gNm 3) tYes' (eCall 3 m_worth_in (aCons (eVar 0) (aCons (eVar 1) (aCons (eVar 3) aNil)))) [3] ((List.range n).map fun (i : Nat) => PV.int (i : Int)) [some (.int p), some (tI row), a, none] = some ((List.range n).map fun (x : Nat) => .int (worth p row x), [some (.int p), some (tI row), a, none]) := fun a =>
    lcL_map fun x hx => ⟨[some (.int p), some (tI row), a, some (.int x)], [some (.int p), some (tI row), a, some (.int x)], rfl, by simp -implicitDefEqProofs only [semDef_ap, sSeq_ap, sSet_ap, sRet_ap, sIf_ap, sExpr_ap, sNil_ap, sNever_ap, sAug_ap, sPar_ap, sAsgT_ap, sStore_ap, sAugStore_ap, sFor_ap, sForO_ap, sWhile_ap, turn_ap, gNm_ap, gsNil_ap, gsCons_ap, gTp_ap, eVar_ap, eMove_ap, eC_ap, eBin_ap, eUn_ap, tOf_ap, tvAnd_ap, tvOr_ap, tvNot_ap, eAnd_ap, eOr_ap, eNot_ap, eIf_ap, eChain_ap, aNil_ap, aCons_ap, aStar_ap, eTup_ap, eLst_ap, eCall_ap, eCallL_ap, lNil_ap, lSh_ap, lLe_ap, lstAt_ap, eOwn2_ap, eSl_ap, pNo_ap, pSome_ap, eLstRg1_ap, eTupRg1_ap, eApp_ap, eExtend_ap, iOf_ap, iEnum_ap, iZip2_ap, iRng1_ap, eLc_ap, keep_nil, keep_zero, opI, opIc, opB, opAdd, opLen, opNeg, opMax, opMin, opAbs, opInt, opIx, opIsNotN, opIsN, isNon, opTuple, opList, opRev, opSl, opSlL, isi_int, isi_boolint, isi_tuple, items?, opEq_int, opNe_int, setAll, forgetAll, wipeE, backE, lentAt, fill, List.cons_append, List.nil_append, List.append_nil, List.replicate_succ, List.replicate_zero, List.getElem?_cons_zero, List.getElem?_cons_succ, List.set_cons_zero, List.set_cons_succ, List.map_cons, List.map_nil, List.length_cons, List.length_nil, List.length_map, List.length_replicate, List.all_nil, List.all_cons, Option.isSome, Option.bind_some, Option.map_some, Option.getD_some, Option.bind_none, Option.map_none, Nat.reduceAdd, Nat.zero_add, beq_self_eq_true, Bool.and_true, Bool.true_and, Bool.false_eq_true, reduceIte, reduceCtorEq, if_true, if_false, Bool.not_true, Bool.not_false, decide_true, decide_false, s_worth_in p row x hp (by omega) (by have := List.mem_range.mp hx; omega)], rfl⟩
  have em : ((List.range n).map fun (x : Nat) => PV.int (worth p row x)) = (code p row n).map .int := by unfold code; rw [List.map_map]; rfl
  simp -implicitDefEqProofs only [m_coded_row_in, b_coded_row_in, semDef_ap, sSeq_ap, sSet_ap, sRet_ap, sIf_ap, sExpr_ap, sNil_ap, sNever_ap, sAug_ap, sPar_ap, sAsgT_ap, sStore_ap, sAugStore_ap, sFor_ap, sForO_ap, sWhile_ap, turn_ap, gNm_ap, gsNil_ap, gsCons_ap, gTp_ap, eVar_ap, eMove_ap, eC_ap, eBin_ap, eUn_ap, tOf_ap, tvAnd_ap, tvOr_ap, tvNot_ap, eAnd_ap, eOr_ap, eNot_ap, eIf_ap, eChain_ap, aNil_ap, aCons_ap, aStar_ap, eTup_ap, eLst_ap, eCall_ap, eCallL_ap, lNil_ap, lSh_ap, lLe_ap, lstAt_ap, eOwn2_ap, eSl_ap, pNo_ap, pSome_ap, eLstRg1_ap, eTupRg1_ap, eApp_ap, eExtend_ap, iOf_ap, iEnum_ap, iZip2_ap, iRng1_ap, eLc_ap, keep_nil, keep_zero, opI, opIc, opB, opAdd, opLen, opNeg, opMax, opMin, opAbs, opInt, opIx, opIsNotN, opIsN, isNon, opTuple, opList, opRev, opSl, opSlL, isi_int, isi_boolint, isi_tuple, items?, opEq_int, opNe_int, setAll, forgetAll, wipeE, backE, lentAt, fill, List.cons_append, List.nil_append, List.append_nil, List.replicate_succ, List.replicate_zero, List.getElem?_cons_zero, List.getElem?_cons_succ, List.set_cons_zero, List.set_cons_succ, List.map_cons, List.map_nil, List.length_cons, List.length_nil, List.length_map, List.length_replicate, List.all_nil, List.all_cons, Option.isSome, Option.bind_some, Option.map_some, Option.getD_some, Option.bind_none, Option.map_none, Nat.reduceAdd, Nat.zero_add, beq_self_eq_true, Bool.and_true, Bool.true_and, Bool.false_eq_true, reduceIte, reduceCtorEq, if_true, if_false, Bool.not_true, Bool.not_false, decide_true, decide_false, rg_ok (Nat.le_trans hn (by decide)), rg_n, List.length_range, fits_of (Nat.le_trans hn (by decide)), lc, em]
theorem s_is_row_in (p : Int) (row : List Int) (h1 : 1 ≤ row.length) (h2 : row.length ≤ 16) (n : Nums p row) : m_is_row_in [some (.int p), some (tI row)] = some (.bl true, [none, none]) := by
  have e1 : decide ((1 : Int) ≤ (row.length : Int)) = true := decide_eq_true (by omega)
  have e2 : decide ((row.length : Int) ≤ 16) = true := decide_eq_true (by omega)
  simp -implicitDefEqProofs only [m_is_row_in, b_is_row_in, semDef_ap, sSeq_ap, sSet_ap, sRet_ap, sIf_ap, sExpr_ap, sNil_ap, sNever_ap, sAug_ap, sPar_ap, sAsgT_ap, sStore_ap, sAugStore_ap, sFor_ap, sForO_ap, sWhile_ap, turn_ap, gNm_ap, gsNil_ap, gsCons_ap, gTp_ap, eVar_ap, eMove_ap, eC_ap, eBin_ap, eUn_ap, tOf_ap, tvAnd_ap, tvOr_ap, tvNot_ap, eAnd_ap, eOr_ap, eNot_ap, eIf_ap, eChain_ap, aNil_ap, aCons_ap, aStar_ap, eTup_ap, eLst_ap, eCall_ap, eCallL_ap, lNil_ap, lSh_ap, lLe_ap, lstAt_ap, eOwn2_ap, eSl_ap, pNo_ap, pSome_ap, eLstRg1_ap, eTupRg1_ap, eApp_ap, eExtend_ap, iOf_ap, iEnum_ap, iZip2_ap, iRng1_ap, eLc_ap, keep_nil, keep_zero, opI, opIc, opB, opAdd, opLen, opNeg, opMax, opMin, opAbs, opInt, opIx, opIsNotN, opIsN, isNon, opTuple, opList, opRev, opSl, opSlL, isi_int, isi_boolint, isi_tuple, items?, opEq_int, opNe_int, setAll, forgetAll, wipeE, backE, lentAt, fill, List.cons_append, List.nil_append, List.append_nil, List.replicate_succ, List.replicate_zero, List.getElem?_cons_zero, List.getElem?_cons_succ, List.set_cons_zero, List.set_cons_succ, List.map_cons, List.map_nil, List.length_cons, List.length_nil, List.length_map, List.length_replicate, List.all_nil, List.all_cons, Option.isSome, Option.bind_some, Option.map_some, Option.getD_some, Option.bind_none, Option.map_none, Nat.reduceAdd, Nat.zero_add, beq_self_eq_true, Bool.and_true, Bool.true_and, Bool.false_eq_true, reduceIte, reduceCtorEq, if_true, if_false, Bool.not_true, Bool.not_false, decide_true, decide_false, s_are_numbers p row (by omega), decide_eq_true n, e1, e2]
theorem s_require_coded_row (p : Int) (row : List Int) (h1 : 1 ≤ row.length) (h2 : row.length ≤ 16) (n : Nums p row) : m_require_coded_row [some (.int p), some (tI row)] = some (.non, [none, none]) := by
  simp -implicitDefEqProofs only [m_require_coded_row, b_require_coded_row, semDef_ap, sSeq_ap, sSet_ap, sRet_ap, sIf_ap, sExpr_ap, sNil_ap, sNever_ap, sAug_ap, sPar_ap, sAsgT_ap, sStore_ap, sAugStore_ap, sFor_ap, sForO_ap, sWhile_ap, turn_ap, gNm_ap, gsNil_ap, gsCons_ap, gTp_ap, eVar_ap, eMove_ap, eC_ap, eBin_ap, eUn_ap, tOf_ap, tvAnd_ap, tvOr_ap, tvNot_ap, eAnd_ap, eOr_ap, eNot_ap, eIf_ap, eChain_ap, aNil_ap, aCons_ap, aStar_ap, eTup_ap, eLst_ap, eCall_ap, eCallL_ap, lNil_ap, lSh_ap, lLe_ap, lstAt_ap, eOwn2_ap, eSl_ap, pNo_ap, pSome_ap, eLstRg1_ap, eTupRg1_ap, eApp_ap, eExtend_ap, iOf_ap, iEnum_ap, iZip2_ap, iRng1_ap, eLc_ap, keep_nil, keep_zero, opI, opIc, opB, opAdd, opLen, opNeg, opMax, opMin, opAbs, opInt, opIx, opIsNotN, opIsN, isNon, opTuple, opList, opRev, opSl, opSlL, isi_int, isi_boolint, isi_tuple, items?, opEq_int, opNe_int, setAll, forgetAll, wipeE, backE, lentAt, fill, List.cons_append, List.nil_append, List.append_nil, List.replicate_succ, List.replicate_zero, List.getElem?_cons_zero, List.getElem?_cons_succ, List.set_cons_zero, List.set_cons_succ, List.map_cons, List.map_nil, List.length_cons, List.length_nil, List.length_map, List.length_replicate, List.all_nil, List.all_cons, Option.isSome, Option.bind_some, Option.map_some, Option.getD_some, Option.bind_none, Option.map_none, Nat.reduceAdd, Nat.zero_add, beq_self_eq_true, Bool.and_true, Bool.true_and, Bool.false_eq_true, reduceIte, reduceCtorEq, if_true, if_false, Bool.not_true, Bool.not_false, decide_true, decide_false, s_is_row_in p row h1 h2 n]
theorem min_if (a b : Int) : (if b < a then b else a) = min a b := by
  split <;> omega
theorem max_if (a b : Int) : (if b > a then b else a) = max a b := by
  split <;> omega
theorem s_coded_row (p : Int) (row : List Int) (n : Nat) (hp : p ∈ known) (h1 : 1 ≤ row.length) (h2 : row.length ≤ 16) (hn : Nums p row) (h3 : row.length ≤ n) (h4 : n ≤ p) (h5 : n ≤ 64) : m_coded_row [some (.int p), some (tI row), some (.int n)] = some (tI (code p row n), [none, none, none]) := by
  have hb := known_b hp
  have e := s_require_number n row.length (if (64 : Int) < p then 64 else p) (by omega) (by omega) (by omega) (by split <;> omega)
  simp -implicitDefEqProofs only [m_coded_row, b_coded_row, semDef_ap, sSeq_ap, sSet_ap, sRet_ap, sIf_ap, sExpr_ap, sNil_ap, sNever_ap, sAug_ap, sPar_ap, sAsgT_ap, sStore_ap, sAugStore_ap, sFor_ap, sForO_ap, sWhile_ap, turn_ap, gNm_ap, gsNil_ap, gsCons_ap, gTp_ap, eVar_ap, eMove_ap, eC_ap, eBin_ap, eUn_ap, tOf_ap, tvAnd_ap, tvOr_ap, tvNot_ap, eAnd_ap, eOr_ap, eNot_ap, eIf_ap, eChain_ap, aNil_ap, aCons_ap, aStar_ap, eTup_ap, eLst_ap, eCall_ap, eCallL_ap, lNil_ap, lSh_ap, lLe_ap, lstAt_ap, eOwn2_ap, eSl_ap, pNo_ap, pSome_ap, eLstRg1_ap, eTupRg1_ap, eApp_ap, eExtend_ap, iOf_ap, iEnum_ap, iZip2_ap, iRng1_ap, eLc_ap, keep_nil, keep_zero, opI, opIc, opB, opAdd, opLen, opNeg, opMax, opMin, opAbs, opInt, opIx, opIsNotN, opIsN, isNon, opTuple, opList, opRev, opSl, opSlL, isi_int, isi_boolint, isi_tuple, items?, opEq_int, opNe_int, setAll, forgetAll, wipeE, backE, lentAt, fill, List.cons_append, List.nil_append, List.append_nil, List.replicate_succ, List.replicate_zero, List.getElem?_cons_zero, List.getElem?_cons_succ, List.set_cons_zero, List.set_cons_succ, List.map_cons, List.map_nil, List.length_cons, List.length_nil, List.length_map, List.length_replicate, List.all_nil, List.all_cons, Option.isSome, Option.bind_some, Option.map_some, Option.getD_some, Option.bind_none, Option.map_none, Nat.reduceAdd, Nat.zero_add, beq_self_eq_true, Bool.and_true, Bool.true_and, Bool.false_eq_true, reduceIte, reduceCtorEq, if_true, if_false, Bool.not_true, Bool.not_false, decide_true, decide_false, s_require_prime p hp, s_require_coded_row p row h1 h2 hn, e, s_coded_row_in p row n (by omega) (by omega)]
theorem s_row_of_code_in (p : Nat) (word : List Int) (w : Nat) (hP : Pr p) (hI : Inv p) (hp2 : p < 20000) (nw : Nums p word) (hw : w ≤ word.length) (hw2 : w ≤ p) (hw3 : word.length ≤ 300) : ∃ r, m_row_of_code_in [some (.int p), some (tI word), some (.int w)] = some (if code p r word.length = word then tI r else .non, [none, none, none]) ∧ Nums p r ∧ r.length = w ∧ ∀ (j : Nat) (v : Int), j < w → word[j]? = some v → Cg p (ev r j) v := by
  have hp : 2 ≤ p := by have := hP.1; omega
  obtain ⟨r, e, n, l, c⟩ := s_row_through p (word.take w) hP hI hp2 (fun x hx => nw x (List.mem_of_mem_take hx)) (by rw [List.length_take]; omega) (by rw [List.length_take]; omega)
  refine ⟨r, ?_, n, by rw [l, List.length_take]; omega, fun j v hj hv => c j v (by rw [List.getElem?_take, if_pos hj]; exact hv)⟩
  have e2 := s_coded_row_in p r word.length (by omega) (by omega)
  have ec : cutP (word.map PV.int) none (some (w : Int)) = (word.take w).map .int := by rw [cut_take, List.map_take]
  by_cases h : code p r word.length = word
  · simp -implicitDefEqProofs only [m_row_of_code_in, b_row_of_code_in, semDef_ap, sSeq_ap, sSet_ap, sRet_ap, sIf_ap, sExpr_ap, sNil_ap, sNever_ap, sAug_ap, sPar_ap, sAsgT_ap, sStore_ap, sAugStore_ap, sFor_ap, sForO_ap, sWhile_ap, turn_ap, gNm_ap, gsNil_ap, gsCons_ap, gTp_ap, eVar_ap, eMove_ap, eC_ap, eBin_ap, eUn_ap, tOf_ap, tvAnd_ap, tvOr_ap, tvNot_ap, eAnd_ap, eOr_ap, eNot_ap, eIf_ap, eChain_ap, aNil_ap, aCons_ap, aStar_ap, eTup_ap, eLst_ap, eCall_ap, eCallL_ap, lNil_ap, lSh_ap, lLe_ap, lstAt_ap, eOwn2_ap, eSl_ap, pNo_ap, pSome_ap, eLstRg1_ap, eTupRg1_ap, eApp_ap, eExtend_ap, iOf_ap, iEnum_ap, iZip2_ap, iRng1_ap, eLc_ap, keep_nil, keep_zero, opI, opIc, opB, opAdd, opLen, opNeg, opMax, opMin, opAbs, opInt, opIx, opIsNotN, opIsN, isNon, opTuple, opList, opRev, opSl, opSlL, isi_int, isi_boolint, isi_tuple, items?, opEq_int, opNe_int, setAll, forgetAll, wipeE, backE, lentAt, fill, List.cons_append, List.nil_append, List.append_nil, List.replicate_succ, List.replicate_zero, List.getElem?_cons_zero, List.getElem?_cons_succ, List.set_cons_zero, List.set_cons_succ, List.map_cons, List.map_nil, List.length_cons, List.length_nil, List.length_map, List.length_replicate, List.all_nil, List.all_cons, Option.isSome, Option.bind_some, Option.map_some, Option.getD_some, Option.bind_none, Option.map_none, Nat.reduceAdd, Nat.zero_add, beq_self_eq_true, Bool.and_true, Bool.true_and, Bool.false_eq_true, reduceIte, reduceCtorEq, if_true, if_false, Bool.not_true, Bool.not_false, decide_true, decide_false, ec, e, e2, opEq_tI, decide_eq_true h, if_pos h]
  · simp -implicitDefEqProofs only [m_row_of_code_in, b_row_of_code_in, semDef_ap, sSeq_ap, sSet_ap, sRet_ap, sIf_ap, sExpr_ap, sNil_ap, sNever_ap, sAug_ap, sPar_ap, sAsgT_ap, sStore_ap, sAugStore_ap, sFor_ap, sForO_ap, sWhile_ap, turn_ap, gNm_ap, gsNil_ap, gsCons_ap, gTp_ap, eVar_ap, eMove_ap, eC_ap, eBin_ap, eUn_ap, tOf_ap, tvAnd_ap, tvOr_ap, tvNot_ap, eAnd_ap, eOr_ap, eNot_ap, eIf_ap, eChain_ap, aNil_ap, aCons_ap, aStar_ap, eTup_ap, eLst_ap, eCall_ap, eCallL_ap, lNil_ap, lSh_ap, lLe_ap, lstAt_ap, eOwn2_ap, eSl_ap, pNo_ap, pSome_ap, eLstRg1_ap, eTupRg1_ap, eApp_ap, eExtend_ap, iOf_ap, iEnum_ap, iZip2_ap, iRng1_ap, eLc_ap, keep_nil, keep_zero, opI, opIc, opB, opAdd, opLen, opNeg, opMax, opMin, opAbs, opInt, opIx, opIsNotN, opIsN, isNon, opTuple, opList, opRev, opSl, opSlL, isi_int, isi_boolint, isi_tuple, items?, opEq_int, opNe_int, setAll, forgetAll, wipeE, backE, lentAt, fill, List.cons_append, List.nil_append, List.append_nil, List.replicate_succ, List.replicate_zero, List.getElem?_cons_zero, List.getElem?_cons_succ, List.set_cons_zero, List.set_cons_succ, List.map_cons, List.map_nil, List.length_cons, List.length_nil, List.length_map, List.length_replicate, List.all_nil, List.all_cons, Option.isSome, Option.bind_some, Option.map_some, Option.getD_some, Option.bind_none, Option.map_none, Nat.reduceAdd, Nat.zero_add, beq_self_eq_true, Bool.and_true, Bool.true_and, Bool.false_eq_true, reduceIte, reduceCtorEq, if_true, if_false, Bool.not_true, Bool.not_false, decide_true, decide_false, ec, e, e2, opEq_tI, decide_eq_false h, if_neg h]
theorem s_row_of_code (p : Nat) (word : List Int) (w : Nat) (hk : (p : Int) ∈ known) (hP : Pr p) (hI : Inv p) (nw : Nums p word) (h1 : 1 ≤ w) (hw : w ≤ word.length) (h16 : w ≤ 16) (hwp : word.length ≤ p) (hw3 : word.length ≤ 64) : ∃ r, m_row_of_code [some (.int p), some (tI word), some (.int w)] = some (if code p r word.length = word then tI r else .non, [none, none, none]) ∧ Nums p r ∧ r.length = w ∧ ∀ (j : Nat) (v : Int), j < w → word[j]? = some v → Cg p (ev r j) v := by
  have hb := known_b hk
  obtain ⟨r, e, n, l, c⟩ := s_row_of_code_in p word w hP hI (by omega) nw hw (by omega) (by omega)
  refine ⟨r, ?_, n, l, c⟩
  have e1 : decide ((1 : Int) ≤ (word.length : Int)) = true := decide_eq_true (by omega)
  have e2 : decide ((word.length : Int) ≤ (if (64 : Int) < (p : Int) then (64 : Int) else (p : Int))) = true := decide_eq_true (by split <;> omega)
  have e3 := s_require_number w 1 (if (16 : Int) < (word.length : Int) then (16 : Int) else (word.length : Int)) (by omega) (by omega) (by omega) (by split <;> omega)
  simp -implicitDefEqProofs only [m_row_of_code, b_row_of_code, semDef_ap, sSeq_ap, sSet_ap, sRet_ap, sIf_ap, sExpr_ap, sNil_ap, sNever_ap, sAug_ap, sPar_ap, sAsgT_ap, sStore_ap, sAugStore_ap, sFor_ap, sForO_ap, sWhile_ap, turn_ap, gNm_ap, gsNil_ap, gsCons_ap, gTp_ap, eVar_ap, eMove_ap, eC_ap, eBin_ap, eUn_ap, tOf_ap, tvAnd_ap, tvOr_ap, tvNot_ap, eAnd_ap, eOr_ap, eNot_ap, eIf_ap, eChain_ap, aNil_ap, aCons_ap, aStar_ap, eTup_ap, eLst_ap, eCall_ap, eCallL_ap, lNil_ap, lSh_ap, lLe_ap, lstAt_ap, eOwn2_ap, eSl_ap, pNo_ap, pSome_ap, eLstRg1_ap, eTupRg1_ap, eApp_ap, eExtend_ap, iOf_ap, iEnum_ap, iZip2_ap, iRng1_ap, eLc_ap, keep_nil, keep_zero, opI, opIc, opB, opAdd, opLen, opNeg, opMax, opMin, opAbs, opInt, opIx, opIsNotN, opIsN, isNon, opTuple, opList, opRev, opSl, opSlL, isi_int, isi_boolint, isi_tuple, items?, opEq_int, opNe_int, setAll, forgetAll, wipeE, backE, lentAt, fill, List.cons_append, List.nil_append, List.append_nil, List.replicate_succ, List.replicate_zero, List.getElem?_cons_zero, List.getElem?_cons_succ, List.set_cons_zero, List.set_cons_succ, List.map_cons, List.map_nil, List.length_cons, List.length_nil, List.length_map, List.length_replicate, List.all_nil, List.all_cons, Option.isSome, Option.bind_some, Option.map_some, Option.getD_some, Option.bind_none, Option.map_none, Nat.reduceAdd, Nat.zero_add, beq_self_eq_true, Bool.and_true, Bool.true_and, Bool.false_eq_true, reduceIte, reduceCtorEq, if_true, if_false, Bool.not_true, Bool.not_false, decide_true, decide_false, s_require_prime p hk, s_are_numbers p word (by omega), decide_eq_true nw, e1, e2, e3, e]
/-- rows of one length that agree at as many places are one -/
theorem code_inj {p : Nat} (hP : Pr p) {r s : List Int} (hl : r.length = s.length) (nr : Nums p r) (ns : Nums p s) (xs : List Nat) (hs : xs.Pairwise (· < ·)) (hb : ∀ x ∈ xs, x < p) (hx : r.length ≤ xs.length) (h : ∀ x ∈ xs, Cg p (ev r x) (ev s x)) : r = s :=
  same_by hP hl nr ns (xs.map fun (i : Nat) => (i : Int)) (by rw [List.length_map]; exact hx) (places xs hs fun x hx => by have := hb x hx; omega) fun x hx => by
    obtain ⟨y, hy, rfl⟩ := List.mem_map.mp hx
    exact h y hy
theorem l_same {p : Nat} (hk : (p : Int) ∈ known) (hP : Pr p) (hI : Inv p) {row : List Int} {far : Nat} (nr : Nums p row) (h1 : 1 ≤ row.length) (h16 : row.length ≤ 16) (hf : row.length ≤ far) (hfp : far ≤ p) (h64 : far ≤ 64) :
    m_row_of_code [some (.int p), some (tI (code p row far)), some (.int row.length)] = some (tI row, [none, none, none]) := by
  have hp : 0 < p := by have := hP.1; omega
  obtain ⟨r, e, n, l, c⟩ := s_row_of_code p (code p row far) row.length hk hP hI (code_nums (by omega) row far) h1 (by rw [code_length]; omega) h16 (by rw [code_length]; omega) (by rw [code_length]; omega)
  have hr : r = row := code_inj hP l n nr (List.range row.length) List.pairwise_lt_range (fun x hx => by have := List.mem_range.mp hx; omega) (by simp; omega) fun x hx => by
    have hx := List.mem_range.mp hx
    refine (c x _ hx (code_get (by omega))).trans ?_
    rw [worth_ev p (by omega)]
    exact Cg.mod _ _
  rw [e, hr, code_length, if_pos rfl]
theorem l_bent {p : Nat} (hk : (p : Int) ∈ known) (hP : Pr p) (hI : Inv p) {row : List Int} {far at_ : Nat} {v : Int} (nr : Nums p row) (h1 : 1 ≤ row.length) (h16 : row.length ≤ 16) (hf : row.length + 1 ≤ far) (hfp : far ≤ p) (h64 : far ≤ 64) (ha : at_ < far) (hv : 0 ≤ v ∧ v < p) (hne : v ≠ worth p row at_) :
    m_row_of_code [some (.int p), some (tI ((code p row far).set at_ v)), some (.int row.length)] = some (.non, [none, none, none]) := by
  have hp : 0 < p := by have := hP.1; omega
  have nb : Nums p ((code p row far).set at_ v) := fun x hx => by
    rcases List.mem_or_eq_of_mem_set hx with q | q
    · exact code_nums (by omega) row far x q
    · rw [q]; exact hv
  obtain ⟨r, e, n, l, c⟩ := s_row_of_code p ((code p row far).set at_ v) row.length hk hP hI nb h1 (by rw [List.length_set, code_length]; omega) h16 (by rw [List.length_set, code_length]; omega) (by rw [List.length_set, code_length]; omega)
  rw [e, List.length_set, code_length]
  refine congrArg some (congrArg (·, _) (if_neg fun hc => ?_))
  have hat : ∀ j, j < far → ((code p row far).set at_ v)[j]? = some (worth p r j) := fun j hj => by
    rw [← hc]
    exact code_get hj
  have hr : r = row := code_inj hP l n nr ((List.range far).filter (· ≠ at_)) (List.pairwise_lt_range.filter _) (fun x hx => by have := List.mem_range.mp (List.mem_filter.mp hx |>.1); omega) (by
    have : ((List.range far).filter (· ≠ at_)).length = far - 1 := by
      have e1 := List.length_eq_countP_add_countP (p := fun x => decide (x ≠ at_)) (l := List.range far)
      rw [List.countP_eq_length_filter] at e1
      have e2 : List.countP (fun a => ¬ decide (a ≠ at_) = true) (List.range far) = List.count at_ (List.range far) := by
        unfold List.count
        congr 1
        funext a
        by_cases h : a = at_ <;> simp [h]
      have e3 : List.count at_ (List.range far) = 1 := List.nodup_range.count.trans (if_pos (List.mem_range.mpr ha))
      rw [e2, e3, List.length_range] at e1
      omega
    omega) fun x hx => by
    obtain ⟨hx1, hx2⟩ := List.mem_filter.mp hx
    have hx1 := List.mem_range.mp hx1
    have hx2 : x ≠ at_ := by simpa using hx2
    have h3 := hat x hx1
    rw [List.getElem?_set_ne (fun z => hx2 z.symm), code_get hx1] at h3
    have h3 := Option.some.inj h3
    rw [worth_ev p (by omega), worth_ev p (by omega)] at h3
    exact (Cg.iff.mpr h3).symm
  have h4 := hat at_ ha
  rw [List.getElem?_set_self (by rw [code_length]; exact ha), hr] at h4
  exact hne (Option.some.inj h4)
end Hd

namespace Hd
open PL PM
abbrev D (d : Int × Int × Int) : PV := .lst [.int d.1, .int d.2.1, .int d.2.2]
theorem ix0 {α : Type} {x : α} {r : List α} : L2.atI (x :: r) 0 = some x := by
  rw [show (0 : Int) = ((0 : Nat) : Int) from rfl, atI_nat (x := x) rfl]
theorem ix1 {α : Type} {x y : α} {r : List α} : L2.atI (x :: y :: r) 1 = some y := by
  rw [show (1 : Int) = ((1 : Nat) : Int) from rfl, atI_nat (x := y) rfl]
theorem ix2 {α : Type} {x y z : α} {r : List α} : L2.atI (x :: y :: z :: r) 2 = some z := by
  rw [show (2 : Int) = ((2 : Nat) : Int) from rfl, atI_nat (x := z) rfl]
theorem n30 : L2.ixN 3 0 = some 0 := rfl
theorem n32 : L2.ixN 3 2 = some 2 := rfl
theorem s_roll (d : Int × Int × Int) (t : Int) (h0 : 0 < t) (h1 : t < 1000000000) : ∃ r d', m__law_roll [some (D d), some (.int t)] = some (.int r, [some (D d'), none]) ∧ 0 ≤ r ∧ r < t := by
  obtain ⟨a, b, c⟩ := d
  have ht : decide (0 < t) = true := decide_eq_true h0
  have hd : divOk t = true := divOk_of h0 (by omega)
  by_cases h : 0 < a
  · refine ⟨a % t, (a / t, b, c), ?_, Int.emod_nonneg _ (by omega), Int.emod_lt_of_pos _ h0⟩
    simp -implicitDefEqProofs only [m__law_roll, b__law_roll, semDef_ap, sSeq_ap, sSet_ap, sRet_ap, sIf_ap, sExpr_ap, sNil_ap, sNever_ap, sAug_ap, sPar_ap, sAsgT_ap, sStore_ap, sAugStore_ap, sFor_ap, sForO_ap, sWhile_ap, turn_ap, gNm_ap, gsNil_ap, gsCons_ap, gTp_ap, eVar_ap, eMove_ap, eC_ap, eBin_ap, eUn_ap, tOf_ap, tvAnd_ap, tvOr_ap, tvNot_ap, eAnd_ap, eOr_ap, eNot_ap, eIf_ap, eChain_ap, aNil_ap, aCons_ap, aStar_ap, eTup_ap, eLst_ap, eCall_ap, eCallL_ap, lNil_ap, lSh_ap, lLe_ap, lstAt_ap, eOwn2_ap, eSl_ap, pNo_ap, pSome_ap, eLstRg1_ap, eTupRg1_ap, eApp_ap, eExtend_ap, iOf_ap, iEnum_ap, iZip2_ap, iRng1_ap, eLc_ap, keep_nil, keep_zero, opI, opIc, opB, opAdd, opLen, opNeg, opMax, opMin, opAbs, opInt, opIx, opIsNotN, opIsN, isNon, opTuple, opList, opRev, opSl, opSlL, isi_int, isi_boolint, isi_tuple, items?, opEq_int, opNe_int, setAll, forgetAll, wipeE, backE, lentAt, fill, List.cons_append, List.nil_append, List.append_nil, List.replicate_succ, List.replicate_zero, List.getElem?_cons_zero, List.getElem?_cons_succ, List.set_cons_zero, List.set_cons_succ, List.map_cons, List.map_nil, List.length_cons, List.length_nil, List.length_map, List.length_replicate, List.all_nil, List.all_cons, Option.isSome, Option.bind_some, Option.map_some, Option.getD_some, Option.bind_none, Option.map_none, Nat.reduceAdd, Nat.zero_add, beq_self_eq_true, Bool.and_true, Bool.true_and, Bool.false_eq_true, reduceIte, reduceCtorEq, if_true, if_false, Bool.not_true, Bool.not_false, decide_true, decide_false, ix0, n30, decide_eq_true h, ht, hd]
  · have m1 : mulOk 15486277 (c + 1) = true := mulOk_left (by decide) (by decide)
    have m2 : mulOk 199 (c + 1) = true := mulOk_left (by decide) (by decide)
    have d1 : decide ((0 : Int) < 2305843009213693951) = true := rfl
    have d2 : decide ((0 : Int) < 2305843009213693907) = true := rfl
    have dv : divOk 65581 = true := divOk_of (by decide) (by decide)
    generalize ho : (b + 15486277 * (c + 1)) % 2305843009213693951 = one
    have o0 : 0 ≤ one := by rw [← ho]; exact Int.emod_nonneg _ (by decide)
    have o1 : one < 2305843009213693951 := by rw [← ho]; exact Int.emod_lt_of_pos _ (by decide)
    have m3 : mulOk one one = true := mulOk_left (by omega) (by omega)
    have m4 : ∀ z, mulOk z 7368787 = true := fun z => mulOk_right (by decide) (by decide)
    refine ⟨((one * one + 199 * (c + 1)) % 2305843009213693907 * 7368787 + one) / 65581 % t, (a, b, c + 1), ?_, Int.emod_nonneg _ (by omega), Int.emod_lt_of_pos _ h0⟩
    · simp -implicitDefEqProofs only [m__law_roll, b__law_roll, semDef_ap, sSeq_ap, sSet_ap, sRet_ap, sIf_ap, sExpr_ap, sNil_ap, sNever_ap, sAug_ap, sPar_ap, sAsgT_ap, sStore_ap, sAugStore_ap, sFor_ap, sForO_ap, sWhile_ap, turn_ap, gNm_ap, gsNil_ap, gsCons_ap, gTp_ap, eVar_ap, eMove_ap, eC_ap, eBin_ap, eUn_ap, tOf_ap, tvAnd_ap, tvOr_ap, tvNot_ap, eAnd_ap, eOr_ap, eNot_ap, eIf_ap, eChain_ap, aNil_ap, aCons_ap, aStar_ap, eTup_ap, eLst_ap, eCall_ap, eCallL_ap, lNil_ap, lSh_ap, lLe_ap, lstAt_ap, eOwn2_ap, eSl_ap, pNo_ap, pSome_ap, eLstRg1_ap, eTupRg1_ap, eApp_ap, eExtend_ap, iOf_ap, iEnum_ap, iZip2_ap, iRng1_ap, eLc_ap, keep_nil, keep_zero, opI, opIc, opB, opAdd, opLen, opNeg, opMax, opMin, opAbs, opInt, opIx, opIsNotN, opIsN, isNon, opTuple, opList, opRev, opSl, opSlL, isi_int, isi_boolint, isi_tuple, items?, opEq_int, opNe_int, setAll, forgetAll, wipeE, backE, lentAt, fill, List.cons_append, List.nil_append, List.append_nil, List.replicate_succ, List.replicate_zero, List.getElem?_cons_zero, List.getElem?_cons_succ, List.set_cons_zero, List.set_cons_succ, List.map_cons, List.map_nil, List.length_cons, List.length_nil, List.length_map, List.length_replicate, List.all_nil, List.all_cons, Option.isSome, Option.bind_some, Option.map_some, Option.getD_some, Option.bind_none, Option.map_none, Nat.reduceAdd, Nat.zero_add, beq_self_eq_true, Bool.and_true, Bool.true_and, Bool.false_eq_true, reduceIte, reduceCtorEq, if_true, if_false, Bool.not_true, Bool.not_false, decide_true, decide_false, ix0, ix1, ix2, n32, decide_eq_false h, ht, hd, m1, m2, d1, d2, dv, ho, m3, m4]
theorem s_pick (d : Int × Int × Int) (xs : List PV) (h0 : 0 < xs.length) (h1 : xs.length < 1000000) : ∃ x d', m__law_pick [some (D d), some (.lst xs)] = some (x, [some (D d'), none]) ∧ x ∈ xs := by
  obtain ⟨r, d', e, r0, r1⟩ := s_roll d (xs.length : Int) (by omega) (by omega)
  have hlt : r.toNat < xs.length := by omega
  refine ⟨xs[r.toNat], d', ?_, List.getElem_mem hlt⟩
  have hi : L2.atI xs r = some xs[r.toNat] := atI_of r0 (List.getElem?_eq_getElem hlt)
  simp -implicitDefEqProofs only [m__law_pick, b__law_pick, semDef_ap, sSeq_ap, sSet_ap, sRet_ap, sIf_ap, sExpr_ap, sNil_ap, sNever_ap, sAug_ap, sPar_ap, sAsgT_ap, sStore_ap, sAugStore_ap, sFor_ap, sForO_ap, sWhile_ap, turn_ap, gNm_ap, gsNil_ap, gsCons_ap, gTp_ap, eVar_ap, eMove_ap, eC_ap, eBin_ap, eUn_ap, tOf_ap, tvAnd_ap, tvOr_ap, tvNot_ap, eAnd_ap, eOr_ap, eNot_ap, eIf_ap, eChain_ap, aNil_ap, aCons_ap, aStar_ap, eTup_ap, eLst_ap, eCall_ap, eCallL_ap, lNil_ap, lSh_ap, lLe_ap, lstAt_ap, eOwn2_ap, eSl_ap, pNo_ap, pSome_ap, eLstRg1_ap, eTupRg1_ap, eApp_ap, eExtend_ap, iOf_ap, iEnum_ap, iZip2_ap, iRng1_ap, eLc_ap, keep_nil, keep_zero, opI, opIc, opB, opAdd, opLen, opNeg, opMax, opMin, opAbs, opInt, opIx, opIsNotN, opIsN, isNon, opTuple, opList, opRev, opSl, opSlL, isi_int, isi_boolint, isi_tuple, items?, opEq_int, opNe_int, setAll, forgetAll, wipeE, backE, lentAt, fill, List.cons_append, List.nil_append, List.append_nil, List.replicate_succ, List.replicate_zero, List.getElem?_cons_zero, List.getElem?_cons_succ, List.set_cons_zero, List.set_cons_succ, List.map_cons, List.map_nil, List.length_cons, List.length_nil, List.length_map, List.length_replicate, List.all_nil, List.all_cons, Option.isSome, Option.bind_some, Option.map_some, Option.getD_some, Option.bind_none, Option.map_none, Nat.reduceAdd, Nat.zero_add, beq_self_eq_true, Bool.and_true, Bool.true_and, Bool.false_eq_true, reduceIte, reduceCtorEq, if_true, if_false, Bool.not_true, Bool.not_false, decide_true, decide_false, e, hi]
theorem lcL_ints {eg : EvG} {ev : EvE} {vs : List Nat} (I : Env → Prop) (P : Int → Prop) {xs : List PV} {ρ : Env} (h : ∀ x ρ, x ∈ xs → I ρ → ∃ ρ1 y ρ2, eg x ρ = some ρ1 ∧ ev ρ1 = some (.int y, ρ2) ∧ P y ∧ I (wipeE vs ρ2)) (h0 : I ρ) :
    ∃ (ys : List Int) (ρ' : Env), lcL eg tYes' ev vs xs ρ = some (ys.map PV.int, ρ') ∧ I ρ' ∧ ys.length = xs.length ∧ ∀ y ∈ ys, P y := by
  obtain ⟨ys, ρ', e, i, l, p⟩ := lcL_inv (eg := eg) (ev := ev) (vs := vs) I (fun z => ∃ y, z = .int y ∧ P y) (xs := xs) (ρ := ρ) (fun x ρ hx hi => by
    obtain ⟨ρ1, y, ρ2, e1, e2, p, i⟩ := h x ρ hx hi
    exact ⟨ρ1, .int y, ρ2, e1, e2, ⟨y, rfl, p⟩, i⟩) h0
  obtain ⟨zs, rfl, hz⟩ : ∃ zs : List Int, ys = zs.map .int ∧ ∀ y ∈ zs, P y := by
    clear e l
    induction ys with
    | nil => exact ⟨[], rfl, fun y h => absurd h (by simp)⟩
    | cons y ys ih =>
      obtain ⟨z, rfl, pz⟩ := p y List.mem_cons_self
      obtain ⟨zs, rfl, hz⟩ := ih fun y hy => p y (List.mem_cons_of_mem _ hy)
      refine ⟨z :: zs, rfl, fun y hy => ?_⟩
      rcases List.mem_cons.mp hy with q | q
      · rw [q]; exact pz
      · exact hz y q
  exact ⟨zs, ρ', e, i, by simpa using l, hz⟩
theorem s_row (d : Int × Int × Int) (p : Int) (n : Nat) (hp : 0 < p) (hp2 : p < 1000000) (hn : n ≤ 1000) : ∃ row d', m__law_row [some (D d), some (.int p), some (.int n)] = some (tI row, [some (D d'), none, none]) ∧ row.length = n ∧ Nums p row := by
  obtain ⟨ys, ρ', e, ⟨d', rfl⟩, l, q⟩ := lcL_ints (eg := gNm 3) (ev := eCallL 2 0 0 m__law_roll (lLe 0 (lSh (eVar 1) lNil))) (vs := [3]) (fun ρ => ∃ d, ρ = [some (D d), some (.int p), some (.int n), none]) (fun y => 0 ≤ y ∧ y < p) (xs := (List.range n).map fun (i : Nat) => PV.int (i : Int)) (ρ := [some (D d), some (.int p), some (.int n), none]) (fun x ρ hx ⟨d, hd⟩ => by
    subst hd
    obtain ⟨r, d', e, r0, r1⟩ := s_roll d p hp (by omega)
    refine ⟨[some (D d), some (.int p), some (.int n), some x], r, [some (D d'), some (.int p), some (.int n), some x], rfl, ?_, ⟨r0, r1⟩, d', rfl⟩
    simp -implicitDefEqProofs only [semDef_ap, sSeq_ap, sSet_ap, sRet_ap, sIf_ap, sExpr_ap, sNil_ap, sNever_ap, sAug_ap, sPar_ap, sAsgT_ap, sStore_ap, sAugStore_ap, sFor_ap, sForO_ap, sWhile_ap, turn_ap, gNm_ap, gsNil_ap, gsCons_ap, gTp_ap, eVar_ap, eMove_ap, eC_ap, eBin_ap, eUn_ap, tOf_ap, tvAnd_ap, tvOr_ap, tvNot_ap, eAnd_ap, eOr_ap, eNot_ap, eIf_ap, eChain_ap, aNil_ap, aCons_ap, aStar_ap, eTup_ap, eLst_ap, eCall_ap, eCallL_ap, lNil_ap, lSh_ap, lLe_ap, lstAt_ap, eOwn2_ap, eSl_ap, pNo_ap, pSome_ap, eLstRg1_ap, eTupRg1_ap, eApp_ap, eExtend_ap, iOf_ap, iEnum_ap, iZip2_ap, iRng1_ap, eLc_ap, keep_nil, keep_zero, opI, opIc, opB, opAdd, opLen, opNeg, opMax, opMin, opAbs, opInt, opIx, opIsNotN, opIsN, isNon, opTuple, opList, opRev, opSl, opSlL, isi_int, isi_boolint, isi_tuple, items?, opEq_int, opNe_int, setAll, forgetAll, wipeE, backE, lentAt, fill, List.cons_append, List.nil_append, List.append_nil, List.replicate_succ, List.replicate_zero, List.getElem?_cons_zero, List.getElem?_cons_succ, List.set_cons_zero, List.set_cons_succ, List.map_cons, List.map_nil, List.length_cons, List.length_nil, List.length_map, List.length_replicate, List.all_nil, List.all_cons, Option.isSome, Option.bind_some, Option.map_some, Option.getD_some, Option.bind_none, Option.map_none, Nat.reduceAdd, Nat.zero_add, beq_self_eq_true, Bool.and_true, Bool.true_and, Bool.false_eq_true, reduceIte, reduceCtorEq, if_true, if_false, Bool.not_true, Bool.not_false, decide_true, decide_false, e]) ⟨d, rfl⟩
  rw [List.length_map, List.length_range] at l
  refine ⟨ys, d', ?_, l, q⟩
  simp -implicitDefEqProofs only [m__law_row, b__law_row, semDef_ap, sSeq_ap, sSet_ap, sRet_ap, sIf_ap, sExpr_ap, sNil_ap, sNever_ap, sAug_ap, sPar_ap, sAsgT_ap, sStore_ap, sAugStore_ap, sFor_ap, sForO_ap, sWhile_ap, turn_ap, gNm_ap, gsNil_ap, gsCons_ap, gTp_ap, eVar_ap, eMove_ap, eC_ap, eBin_ap, eUn_ap, tOf_ap, tvAnd_ap, tvOr_ap, tvNot_ap, eAnd_ap, eOr_ap, eNot_ap, eIf_ap, eChain_ap, aNil_ap, aCons_ap, aStar_ap, eTup_ap, eLst_ap, eCall_ap, eCallL_ap, lNil_ap, lSh_ap, lLe_ap, lstAt_ap, eOwn2_ap, eSl_ap, pNo_ap, pSome_ap, eLstRg1_ap, eTupRg1_ap, eApp_ap, eExtend_ap, iOf_ap, iEnum_ap, iZip2_ap, iRng1_ap, eLc_ap, keep_nil, keep_zero, opI, opIc, opB, opAdd, opLen, opNeg, opMax, opMin, opAbs, opInt, opIx, opIsNotN, opIsN, isNon, opTuple, opList, opRev, opSl, opSlL, isi_int, isi_boolint, isi_tuple, items?, opEq_int, opNe_int, setAll, forgetAll, wipeE, backE, lentAt, fill, List.cons_append, List.nil_append, List.append_nil, List.replicate_succ, List.replicate_zero, List.getElem?_cons_zero, List.getElem?_cons_succ, List.set_cons_zero, List.set_cons_succ, List.map_cons, List.map_nil, List.length_cons, List.length_nil, List.length_map, List.length_replicate, List.all_nil, List.all_cons, Option.isSome, Option.bind_some, Option.map_some, Option.getD_some, Option.bind_none, Option.map_none, Nat.reduceAdd, Nat.zero_add, beq_self_eq_true, Bool.and_true, Bool.true_and, Bool.false_eq_true, reduceIte, reduceCtorEq, if_true, if_false, Bool.not_true, Bool.not_false, decide_true, decide_false, rg_ok (Nat.le_trans hn (by decide)), rg_n, List.length_range, fits_of (Nat.le_trans hn (by decide)), e]
theorem s_po_worth (p : Int) (f : List Int) (x : Int) (hp : 0 < p) (h1 : -1000000000 < x) (h2 : x < 1000000000) : m__law_po_worth [some (.int p), some (tI f), some (.int x)] = some (.int (worth p f x), [none, none, none]) := by
  have hpd : decide (0 < p) = true := decide_eq_true hp
  have hm : ∀ a, mulOk a x = true := fun a => mulOk_right (by omega) (by omega)
  have lp := (forL_fold (f := turn (gNm 4) (sSet 3 (eBin opMod (eUn opInt (eBin opAdd (eBin opMul (eVar 3) (eVar 2)) (eVar 4))) (eVar 0))) [4]) (enc := PV.int) (emb := fun a : Int => [some (.int p), some (tI f), some (.int x), some (.int a), none])
    (step := fun a c => (a * x + c) % p) (fun _ => True) (xs := f.reverse) (s := 0) (fun a c _ _ => ⟨by simp -implicitDefEqProofs only [semDef_ap, sSeq_ap, sSet_ap, sRet_ap, sIf_ap, sExpr_ap, sNil_ap, sNever_ap, sAug_ap, sPar_ap, sAsgT_ap, sStore_ap, sAugStore_ap, sFor_ap, sForO_ap, sWhile_ap, turn_ap, gNm_ap, gsNil_ap, gsCons_ap, gTp_ap, eVar_ap, eMove_ap, eC_ap, eBin_ap, eUn_ap, tOf_ap, tvAnd_ap, tvOr_ap, tvNot_ap, eAnd_ap, eOr_ap, eNot_ap, eIf_ap, eChain_ap, aNil_ap, aCons_ap, aStar_ap, eTup_ap, eLst_ap, eCall_ap, eCallL_ap, lNil_ap, lSh_ap, lLe_ap, lstAt_ap, eOwn2_ap, eSl_ap, pNo_ap, pSome_ap, eLstRg1_ap, eTupRg1_ap, eApp_ap, eExtend_ap, iOf_ap, iEnum_ap, iZip2_ap, iRng1_ap, eLc_ap, keep_nil, keep_zero, opI, opIc, opB, opAdd, opLen, opNeg, opMax, opMin, opAbs, opInt, opIx, opIsNotN, opIsN, isNon, opTuple, opList, opRev, opSl, opSlL, isi_int, isi_boolint, isi_tuple, items?, opEq_int, opNe_int, setAll, forgetAll, wipeE, backE, lentAt, fill, List.cons_append, List.nil_append, List.append_nil, List.replicate_succ, List.replicate_zero, List.getElem?_cons_zero, List.getElem?_cons_succ, List.set_cons_zero, List.set_cons_succ, List.map_cons, List.map_nil, List.length_cons, List.length_nil, List.length_map, List.length_replicate, List.all_nil, List.all_cons, Option.isSome, Option.bind_some, Option.map_some, Option.getD_some, Option.bind_none, Option.map_none, Nat.reduceAdd, Nat.zero_add, beq_self_eq_true, Bool.and_true, Bool.true_and, Bool.false_eq_true, reduceIte, reduceCtorEq, if_true, if_false, Bool.not_true, Bool.not_false, decide_true, decide_false, hpd, hm], trivial⟩) trivial).1
  rw [worth_fold] at lp
  simp -implicitDefEqProofs only [m__law_po_worth, b__law_po_worth, semDef_ap, sSeq_ap, sSet_ap, sRet_ap, sIf_ap, sExpr_ap, sNil_ap, sNever_ap, sAug_ap, sPar_ap, sAsgT_ap, sStore_ap, sAugStore_ap, sFor_ap, sForO_ap, sWhile_ap, turn_ap, gNm_ap, gsNil_ap, gsCons_ap, gTp_ap, eVar_ap, eMove_ap, eC_ap, eBin_ap, eUn_ap, tOf_ap, tvAnd_ap, tvOr_ap, tvNot_ap, eAnd_ap, eOr_ap, eNot_ap, eIf_ap, eChain_ap, aNil_ap, aCons_ap, aStar_ap, eTup_ap, eLst_ap, eCall_ap, eCallL_ap, lNil_ap, lSh_ap, lLe_ap, lstAt_ap, eOwn2_ap, eSl_ap, pNo_ap, pSome_ap, eLstRg1_ap, eTupRg1_ap, eApp_ap, eExtend_ap, iOf_ap, iEnum_ap, iZip2_ap, iRng1_ap, eLc_ap, keep_nil, keep_zero, opI, opIc, opB, opAdd, opLen, opNeg, opMax, opMin, opAbs, opInt, opIx, opIsNotN, opIsN, isNon, opTuple, opList, opRev, opSl, opSlL, isi_int, isi_boolint, isi_tuple, items?, opEq_int, opNe_int, setAll, forgetAll, wipeE, backE, lentAt, fill, List.cons_append, List.nil_append, List.append_nil, List.replicate_succ, List.replicate_zero, List.getElem?_cons_zero, List.getElem?_cons_succ, List.set_cons_zero, List.set_cons_succ, List.map_cons, List.map_nil, List.length_cons, List.length_nil, List.length_map, List.length_replicate, List.all_nil, List.all_cons, Option.isSome, Option.bind_some, Option.map_some, Option.getD_some, Option.bind_none, Option.map_none, Nat.reduceAdd, Nat.zero_add, beq_self_eq_true, Bool.and_true, Bool.true_and, Bool.false_eq_true, reduceIte, reduceCtorEq, if_true, if_false, Bool.not_true, Bool.not_false, decide_true, decide_false, ← List.map_reverse, lp]
theorem fold_pow (x : Int) : ∀ (n : Nat) (a : Int), (List.range n).foldl (fun a _ => a * x) a = a * x ^ n
  | 0, a => by simp
  | n + 1, a => by
    rw [List.range_succ, List.foldl_append, fold_pow x n a]
    show a * x ^ n * x = _
    rw [Int.pow_succ, Int.mul_assoc]
theorem s_often (x : Int) (n : Nat) (h1 : -1000000000 < x) (h2 : x < 1000000000) (hn : n ≤ 1000) : m__law_often [some (.int x), some (.int n)] = some (.int (x ^ n), [none, none]) := by
  have hm : ∀ a, mulOk a x = true := fun a => mulOk_right (by omega) (by omega)
  have lp := (forL_fold (f := turn (gNm 3) (sSet 2 (eBin opMul (eVar 2) (eVar 0))) [3]) (enc := fun (i : Nat) => PV.int (i : Int)) (emb := fun a : Int => [some (.int x), some (.int n), some (.int a), none])
    (step := fun a _ => a * x) (fun _ => True) (xs := List.range n) (s := 1) (fun a c _ _ => ⟨by simp -implicitDefEqProofs only [semDef_ap, sSeq_ap, sSet_ap, sRet_ap, sIf_ap, sExpr_ap, sNil_ap, sNever_ap, sAug_ap, sPar_ap, sAsgT_ap, sStore_ap, sAugStore_ap, sFor_ap, sForO_ap, sWhile_ap, turn_ap, gNm_ap, gsNil_ap, gsCons_ap, gTp_ap, eVar_ap, eMove_ap, eC_ap, eBin_ap, eUn_ap, tOf_ap, tvAnd_ap, tvOr_ap, tvNot_ap, eAnd_ap, eOr_ap, eNot_ap, eIf_ap, eChain_ap, aNil_ap, aCons_ap, aStar_ap, eTup_ap, eLst_ap, eCall_ap, eCallL_ap, lNil_ap, lSh_ap, lLe_ap, lstAt_ap, eOwn2_ap, eSl_ap, pNo_ap, pSome_ap, eLstRg1_ap, eTupRg1_ap, eApp_ap, eExtend_ap, iOf_ap, iEnum_ap, iZip2_ap, iRng1_ap, eLc_ap, keep_nil, keep_zero, opI, opIc, opB, opAdd, opLen, opNeg, opMax, opMin, opAbs, opInt, opIx, opIsNotN, opIsN, isNon, opTuple, opList, opRev, opSl, opSlL, isi_int, isi_boolint, isi_tuple, items?, opEq_int, opNe_int, setAll, forgetAll, wipeE, backE, lentAt, fill, List.cons_append, List.nil_append, List.append_nil, List.replicate_succ, List.replicate_zero, List.getElem?_cons_zero, List.getElem?_cons_succ, List.set_cons_zero, List.set_cons_succ, List.map_cons, List.map_nil, List.length_cons, List.length_nil, List.length_map, List.length_replicate, List.all_nil, List.all_cons, Option.isSome, Option.bind_some, Option.map_some, Option.getD_some, Option.bind_none, Option.map_none, Nat.reduceAdd, Nat.zero_add, beq_self_eq_true, Bool.and_true, Bool.true_and, Bool.false_eq_true, reduceIte, reduceCtorEq, if_true, if_false, Bool.not_true, Bool.not_false, decide_true, decide_false, hm], trivial⟩) trivial).1
  rw [fold_pow, Int.one_mul] at lp
  simp -implicitDefEqProofs only [m__law_often, b__law_often, semDef_ap, sSeq_ap, sSet_ap, sRet_ap, sIf_ap, sExpr_ap, sNil_ap, sNever_ap, sAug_ap, sPar_ap, sAsgT_ap, sStore_ap, sAugStore_ap, sFor_ap, sForO_ap, sWhile_ap, turn_ap, gNm_ap, gsNil_ap, gsCons_ap, gTp_ap, eVar_ap, eMove_ap, eC_ap, eBin_ap, eUn_ap, tOf_ap, tvAnd_ap, tvOr_ap, tvNot_ap, eAnd_ap, eOr_ap, eNot_ap, eIf_ap, eChain_ap, aNil_ap, aCons_ap, aStar_ap, eTup_ap, eLst_ap, eCall_ap, eCallL_ap, lNil_ap, lSh_ap, lLe_ap, lstAt_ap, eOwn2_ap, eSl_ap, pNo_ap, pSome_ap, eLstRg1_ap, eTupRg1_ap, eApp_ap, eExtend_ap, iOf_ap, iEnum_ap, iZip2_ap, iRng1_ap, eLc_ap, keep_nil, keep_zero, opI, opIc, opB, opAdd, opLen, opNeg, opMax, opMin, opAbs, opInt, opIx, opIsNotN, opIsN, isNon, opTuple, opList, opRev, opSl, opSlL, isi_int, isi_boolint, isi_tuple, items?, opEq_int, opNe_int, setAll, forgetAll, wipeE, backE, lentAt, fill, List.cons_append, List.nil_append, List.append_nil, List.replicate_succ, List.replicate_zero, List.getElem?_cons_zero, List.getElem?_cons_succ, List.set_cons_zero, List.set_cons_succ, List.map_cons, List.map_nil, List.length_cons, List.length_nil, List.length_map, List.length_replicate, List.all_nil, List.all_cons, Option.isSome, Option.bind_some, Option.map_some, Option.getD_some, Option.bind_none, Option.map_none, Nat.reduceAdd, Nat.zero_add, beq_self_eq_true, Bool.and_true, Bool.true_and, Bool.false_eq_true, reduceIte, reduceCtorEq, if_true, if_false, Bool.not_true, Bool.not_false, decide_true, decide_false, rg_ok (Nat.le_trans hn (by decide)), rg_n, lp]
theorem s_raised_in (x : Int) (n : Nat) (h1 : -1000000000 < x) (h2 : x < 1000000000) (hn : n ≤ 1000) : m_raised_in [some (.int x), some (.int n)] = some (.int (x ^ n), [none, none]) := by
  have hm : ∀ a, mulOk a x = true := fun a => mulOk_right (by omega) (by omega)
  have lp := (forL_fold (f := turn (gNm 3) (sAug 2 opMul (eVar 0)) [3]) (enc := fun (i : Nat) => PV.int (i : Int)) (emb := fun a : Int => [some (.int x), some (.int n), some (.int a), none])
    (step := fun a _ => a * x) (fun _ => True) (xs := List.range n) (s := 1) (fun a c _ _ => ⟨by simp -implicitDefEqProofs only [semDef_ap, sSeq_ap, sSet_ap, sRet_ap, sIf_ap, sExpr_ap, sNil_ap, sNever_ap, sAug_ap, sPar_ap, sAsgT_ap, sStore_ap, sAugStore_ap, sFor_ap, sForO_ap, sWhile_ap, turn_ap, gNm_ap, gsNil_ap, gsCons_ap, gTp_ap, eVar_ap, eMove_ap, eC_ap, eBin_ap, eUn_ap, tOf_ap, tvAnd_ap, tvOr_ap, tvNot_ap, eAnd_ap, eOr_ap, eNot_ap, eIf_ap, eChain_ap, aNil_ap, aCons_ap, aStar_ap, eTup_ap, eLst_ap, eCall_ap, eCallL_ap, lNil_ap, lSh_ap, lLe_ap, lstAt_ap, eOwn2_ap, eSl_ap, pNo_ap, pSome_ap, eLstRg1_ap, eTupRg1_ap, eApp_ap, eExtend_ap, iOf_ap, iEnum_ap, iZip2_ap, iRng1_ap, eLc_ap, keep_nil, keep_zero, opI, opIc, opB, opAdd, opLen, opNeg, opMax, opMin, opAbs, opInt, opIx, opIsNotN, opIsN, isNon, opTuple, opList, opRev, opSl, opSlL, isi_int, isi_boolint, isi_tuple, items?, opEq_int, opNe_int, setAll, forgetAll, wipeE, backE, lentAt, fill, List.cons_append, List.nil_append, List.append_nil, List.replicate_succ, List.replicate_zero, List.getElem?_cons_zero, List.getElem?_cons_succ, List.set_cons_zero, List.set_cons_succ, List.map_cons, List.map_nil, List.length_cons, List.length_nil, List.length_map, List.length_replicate, List.all_nil, List.all_cons, Option.isSome, Option.bind_some, Option.map_some, Option.getD_some, Option.bind_none, Option.map_none, Nat.reduceAdd, Nat.zero_add, beq_self_eq_true, Bool.and_true, Bool.true_and, Bool.false_eq_true, reduceIte, reduceCtorEq, if_true, if_false, Bool.not_true, Bool.not_false, decide_true, decide_false, hm], trivial⟩) trivial).1
  rw [fold_pow, Int.one_mul] at lp
  simp -implicitDefEqProofs only [m_raised_in, b_raised_in, semDef_ap, sSeq_ap, sSet_ap, sRet_ap, sIf_ap, sExpr_ap, sNil_ap, sNever_ap, sAug_ap, sPar_ap, sAsgT_ap, sStore_ap, sAugStore_ap, sFor_ap, sForO_ap, sWhile_ap, turn_ap, gNm_ap, gsNil_ap, gsCons_ap, gTp_ap, eVar_ap, eMove_ap, eC_ap, eBin_ap, eUn_ap, tOf_ap, tvAnd_ap, tvOr_ap, tvNot_ap, eAnd_ap, eOr_ap, eNot_ap, eIf_ap, eChain_ap, aNil_ap, aCons_ap, aStar_ap, eTup_ap, eLst_ap, eCall_ap, eCallL_ap, lNil_ap, lSh_ap, lLe_ap, lstAt_ap, eOwn2_ap, eSl_ap, pNo_ap, pSome_ap, eLstRg1_ap, eTupRg1_ap, eApp_ap, eExtend_ap, iOf_ap, iEnum_ap, iZip2_ap, iRng1_ap, eLc_ap, keep_nil, keep_zero, opI, opIc, opB, opAdd, opLen, opNeg, opMax, opMin, opAbs, opInt, opIx, opIsNotN, opIsN, isNon, opTuple, opList, opRev, opSl, opSlL, isi_int, isi_boolint, isi_tuple, items?, opEq_int, opNe_int, setAll, forgetAll, wipeE, backE, lentAt, fill, List.cons_append, List.nil_append, List.append_nil, List.replicate_succ, List.replicate_zero, List.getElem?_cons_zero, List.getElem?_cons_succ, List.set_cons_zero, List.set_cons_succ, List.map_cons, List.map_nil, List.length_cons, List.length_nil, List.length_map, List.length_replicate, List.all_nil, List.all_cons, Option.isSome, Option.bind_some, Option.map_some, Option.getD_some, Option.bind_none, Option.map_none, Nat.reduceAdd, Nat.zero_add, beq_self_eq_true, Bool.and_true, Bool.true_and, Bool.false_eq_true, reduceIte, reduceCtorEq, if_true, if_false, Bool.not_true, Bool.not_false, decide_true, decide_false, rg_ok (Nat.le_trans hn (by decide)), rg_n, lp]
theorem s_dice (ns : List Int) (spot : Nat) (hs : spot ≤ 100) : ∃ a b c, m__law_dice [some (.scr ns), some (.int spot)] = some (D (a, b, c), [none, none]) := by
  have m1 : mulOk 97 (spot : Int) = true := mulOk_left (by decide) (by decide)
  have m2 : mulOk 853 (spot : Int) = true := mulOk_left (by decide) (by decide)
  have m3 : ∀ z, mulOk 31 z = true := fun z => mulOk_left (by decide) (by decide)
  have m4 : ∀ z, mulOk z 37 = true := fun z => mulOk_right (by decide) (by decide)
  have q1 : powOk 10 17 = true := by decide
  have q2 : powOk 10 60 = true := by decide
  have m5 : mulOk (10 ^ (60 : Int).toNat) (10 ^ (60 : Int).toNat) = true := by decide +kernel
  have md1 : decide ((0 : Int) < 10 ^ (60 : Int).toNat * 10 ^ (60 : Int).toNat) = true := by decide +kernel
  have md2 : decide ((0 : Int) < 1152921504606846737) = true := by decide
  have f3 : fits 3 = true := by decide
  by_cases h : (spot : Int) < ns.length
  · have hlt : spot < ns.length := by omega
    have hi : L2.atI ns (spot : Int) = some ns[spot] := atI_nat (List.getElem?_eq_getElem hlt)
    have hy := (rfl : m__law_dice [some (.scr ns), some (.int spot)] = m__law_dice [some (.scr ns), some (.int spot)])
    conv at hy => rhs; simp -implicitDefEqProofs only [m__law_dice, b__law_dice, semDef_ap, sSeq_ap, sSet_ap, sRet_ap, sIf_ap, sExpr_ap, sNil_ap, sNever_ap, sAug_ap, sPar_ap, sAsgT_ap, sStore_ap, sAugStore_ap, sFor_ap, sForO_ap, sWhile_ap, turn_ap, gNm_ap, gsNil_ap, gsCons_ap, gTp_ap, eVar_ap, eMove_ap, eC_ap, eBin_ap, eUn_ap, tOf_ap, tvAnd_ap, tvOr_ap, tvNot_ap, eAnd_ap, eOr_ap, eNot_ap, eIf_ap, eChain_ap, aNil_ap, aCons_ap, aStar_ap, eTup_ap, eLst_ap, eCall_ap, eCallL_ap, lNil_ap, lSh_ap, lLe_ap, lstAt_ap, eOwn2_ap, eSl_ap, pNo_ap, pSome_ap, eLstRg1_ap, eTupRg1_ap, eApp_ap, eExtend_ap, iOf_ap, iEnum_ap, iZip2_ap, iRng1_ap, eLc_ap, keep_nil, keep_zero, opI, opIc, opB, opAdd, opLen, opNeg, opMax, opMin, opAbs, opInt, opIx, opIsNotN, opIsN, isNon, opTuple, opList, opRev, opSl, opSlL, isi_int, isi_boolint, isi_tuple, items?, opEq_int, opNe_int, setAll, forgetAll, wipeE, backE, lentAt, fill, List.cons_append, List.nil_append, List.append_nil, List.replicate_succ, List.replicate_zero, List.getElem?_cons_zero, List.getElem?_cons_succ, List.set_cons_zero, List.set_cons_succ, List.map_cons, List.map_nil, List.length_cons, List.length_nil, List.length_map, List.length_replicate, List.all_nil, List.all_cons, Option.isSome, Option.bind_some, Option.map_some, Option.getD_some, Option.bind_none, Option.map_none, Nat.reduceAdd, Nat.zero_add, beq_self_eq_true, Bool.and_true, Bool.true_and, Bool.false_eq_true, reduceIte, reduceCtorEq, if_true, if_false, Bool.not_true, Bool.not_false, decide_true, decide_false, decide_eq_true h, hi, m1, m2, m3, m4, q1, q2, m5, md1, md2, f3]
    exact ⟨_, _, _, hy⟩
  · have hy := (rfl : m__law_dice [some (.scr ns), some (.int spot)] = m__law_dice [some (.scr ns), some (.int spot)])
    conv at hy => rhs; simp -implicitDefEqProofs only [m__law_dice, b__law_dice, semDef_ap, sSeq_ap, sSet_ap, sRet_ap, sIf_ap, sExpr_ap, sNil_ap, sNever_ap, sAug_ap, sPar_ap, sAsgT_ap, sStore_ap, sAugStore_ap, sFor_ap, sForO_ap, sWhile_ap, turn_ap, gNm_ap, gsNil_ap, gsCons_ap, gTp_ap, eVar_ap, eMove_ap, eC_ap, eBin_ap, eUn_ap, tOf_ap, tvAnd_ap, tvOr_ap, tvNot_ap, eAnd_ap, eOr_ap, eNot_ap, eIf_ap, eChain_ap, aNil_ap, aCons_ap, aStar_ap, eTup_ap, eLst_ap, eCall_ap, eCallL_ap, lNil_ap, lSh_ap, lLe_ap, lstAt_ap, eOwn2_ap, eSl_ap, pNo_ap, pSome_ap, eLstRg1_ap, eTupRg1_ap, eApp_ap, eExtend_ap, iOf_ap, iEnum_ap, iZip2_ap, iRng1_ap, eLc_ap, keep_nil, keep_zero, opI, opIc, opB, opAdd, opLen, opNeg, opMax, opMin, opAbs, opInt, opIx, opIsNotN, opIsN, isNon, opTuple, opList, opRev, opSl, opSlL, isi_int, isi_boolint, isi_tuple, items?, opEq_int, opNe_int, setAll, forgetAll, wipeE, backE, lentAt, fill, List.cons_append, List.nil_append, List.append_nil, List.replicate_succ, List.replicate_zero, List.getElem?_cons_zero, List.getElem?_cons_succ, List.set_cons_zero, List.set_cons_succ, List.map_cons, List.map_nil, List.length_cons, List.length_nil, List.length_map, List.length_replicate, List.all_nil, List.all_cons, Option.isSome, Option.bind_some, Option.map_some, Option.getD_some, Option.bind_none, Option.map_none, Nat.reduceAdd, Nat.zero_add, beq_self_eq_true, Bool.and_true, Bool.true_and, Bool.false_eq_true, reduceIte, reduceCtorEq, if_true, if_false, Bool.not_true, Bool.not_false, decide_true, decide_false, decide_eq_false h, m1, m2, m3, m4, q1, q2, m5, md1, md2, f3]
    exact ⟨_, _, _, hy⟩
end Hd

namespace Hd
open PL PM
/-- what is asked of a modulus -/
structure Md (p : Nat) : Prop where
  known : (p : Int) ∈ known
  pr : Pr p
  inv : Inv p
theorem md5 : Md 5 := ⟨by decide, pr_of (by decide) (by decide +kernel), by decide +kernel⟩
theorem md7 : Md 7 := ⟨by decide, pr_of (by decide) (by decide +kernel), by decide +kernel⟩
theorem md11 : Md 11 := ⟨by decide, pr_of (by decide) (by decide +kernel), by decide +kernel⟩
theorem md13 : Md 13 := ⟨by decide, pr_of (by decide) (by decide +kernel), by decide +kernel⟩
theorem md97 : Md 97 := ⟨by decide, pr_of (by decide) (by decide +kernel), by decide +kernel⟩
theorem md193 : Md 193 := ⟨by decide, pr_of (by decide) (by decide +kernel), by decide +kernel⟩
theorem ex_nat {r : Int} (h : 0 ≤ r) : ∃ n : Nat, r = n := ⟨r.toNat, by omega⟩
theorem t_word (d : Int × Int × Int) : ∃ d', m__law_word_right [some (D d)] = some (.bl true, [some (D d')]) := by
  obtain ⟨x, d1, e1, hx⟩ := s_pick d [.int 5, .int 7, .int 11, .int 13, .int 97] (by decide) (by decide)
  obtain ⟨p, rfl, M, hp5⟩ : ∃ p : Nat, x = .int p ∧ Md p ∧ 5 ≤ p := by
    simp only [List.mem_cons, List.not_mem_nil, or_false] at hx
    rcases hx with rfl | rfl | rfl | rfl | rfl
    · exact ⟨5, rfl, md5, by decide⟩
    · exact ⟨7, rfl, md7, by decide⟩
    · exact ⟨11, rfl, md11, by decide⟩
    · exact ⟨13, rfl, md13, by decide⟩
    · exact ⟨97, rfl, md97, by decide⟩
  have hb := known_b M.known
  obtain ⟨r1, d2, e2, q0, q1⟩ := s_roll d1 4 (by decide) (by decide)
  obtain ⟨r1, rfl⟩ := ex_nat q0
  obtain ⟨w, hw⟩ : ∃ w : Nat, (1 : Int) + (r1 : Int) = w := ⟨1 + r1, by omega⟩
  obtain ⟨r2, d3, e3, q2, q3⟩ := s_roll d2 8 (by decide) (by decide)
  obtain ⟨r2, rfl⟩ := ex_nat q2
  obtain ⟨far, hfar, f1, f2, f3⟩ : ∃ far : Nat, (if (w : Int) + 1 + (r2 : Int) < (p : Int) then (w : Int) + 1 + (r2 : Int) else (p : Int)) = far ∧ w + 1 ≤ far ∧ far ≤ p ∧ far ≤ 64 := by
    by_cases h : (w : Int) + 1 + (r2 : Int) < (p : Int)
    · exact ⟨w + 1 + r2, by rw [if_pos h]; omega, by omega, by omega, by omega⟩
    · exact ⟨p, by rw [if_neg h], by omega, by omega, by omega⟩
  obtain ⟨row, d4, e4, l4, n4⟩ := s_row d3 p w (by omega) (by omega) (by omega)
  have e5 := s_coded_row p row far M.known (by omega) (by omega) n4 (by omega) (by omega) f3
  obtain ⟨r3, d5, e6, q4, q5⟩ := s_roll d4 far (by omega) (by omega)
  obtain ⟨at_, rfl⟩ := ex_nat q4
  obtain ⟨r4, d6, e7, q6, q7⟩ := s_roll d5 ((p : Int) - 1) (by omega) (by omega)
  have hat : at_ < far := by omega
  have hix : L2.atI ((code p row far).map PV.int) (at_ : Int) = some (.int (worth p row at_)) := atI_nat (by rw [List.getElem?_map, code_get hat]; rfl)
  have wn := worth_nums (p := p) (by omega) row at_
  generalize hv : (worth p row at_ + 1 + r4) % (p : Int) = v
  have hv0 : 0 ≤ v ∧ v < p := by rw [← hv]; exact ⟨Int.emod_nonneg _ (by omega), Int.emod_lt_of_pos _ (by omega)⟩
  have hne : v ≠ worth p row at_ := by
    intro h
    have h1 : Cg p (worth p row at_ + 1 + r4) (worth p row at_) := Cg.iff.mpr (by rw [hv, h, Int.emod_eq_of_lt wn.1 wn.2])
    have h2 : (p : Int) ∣ 1 + r4 := by
      have : worth p row at_ + 1 + r4 - worth p row at_ = 1 + r4 := by omega
      rw [← this]
      exact h1
    have := Int.le_of_dvd (by omega) h2
    omega
  have a1 := l_same M.known M.pr M.inv n4 (by omega) (by omega) (show row.length ≤ far by omega) f2 f3
  have a2 := l_bent M.known M.pr M.inv n4 (by omega) (by omega) (show row.length + 1 ≤ far by omega) f2 f3 hat hv0 hne
  rw [l4] at a1 a2
  have c1 : cutP ((code p row far).map PV.int) none (some (at_ : Int)) = ((code p row far).take at_).map .int := by rw [cut_take, List.map_take]
  have c2 : cutP ((code p row far).map PV.int) (some ((at_ : Int) + 1)) none = ((code p row far).drop (at_ + 1)).map .int := by
    rw [show (at_ : Int) + 1 = ((at_ + 1 : Nat) : Int) from by omega, cut_drop, List.map_drop]
  have cs : ((code p row far).take at_).map PV.int ++ [PV.int v] ++ ((code p row far).drop (at_ + 1)).map PV.int = ((code p row far).set at_ v).map .int := by
    rw [List.set_eq_take_append_cons_drop, if_pos (by rw [code_length]; exact hat), List.map_append, List.map_cons, List.append_assoc]
    rfl
  have g1 : fits 1 = true := by decide
  have g2 : fits 2 = true := by decide
  have g5 : fits 5 = true := by decide
  have pd : decide ((0 : Int) < (p : Int)) = true := decide_eq_true (by omega)
  have Ls : Lay 2 (.lst [tI row, .non]) := Lay.lst fun x hx => by
    simp only [List.mem_cons, List.not_mem_nil, or_false] at hx
    rcases hx with rfl | rfl
    · exact Lay.tI row
    · exact Lay.non.mono (by decide)
  refine ⟨d6, ?_⟩
  simp -implicitDefEqProofs only [m__law_word_right, b__law_word_right, semDef_ap, sSeq_ap, sSet_ap, sRet_ap, sIf_ap, sExpr_ap, sNil_ap, sNever_ap, sAug_ap, sPar_ap, sAsgT_ap, sStore_ap, sAugStore_ap, sFor_ap, sForO_ap, sWhile_ap, turn_ap, gNm_ap, gsNil_ap, gsCons_ap, gTp_ap, eVar_ap, eMove_ap, eC_ap, eBin_ap, eUn_ap, tOf_ap, tvAnd_ap, tvOr_ap, tvNot_ap, eAnd_ap, eOr_ap, eNot_ap, eIf_ap, eChain_ap, aNil_ap, aCons_ap, aStar_ap, eTup_ap, eLst_ap, eCall_ap, eCallL_ap, lNil_ap, lSh_ap, lLe_ap, lstAt_ap, eOwn2_ap, eSl_ap, pNo_ap, pSome_ap, eLstRg1_ap, eTupRg1_ap, eApp_ap, eExtend_ap, iOf_ap, iEnum_ap, iZip2_ap, iRng1_ap, eLc_ap, keep_nil, keep_zero, opI, opIc, opB, opAdd, opLen, opNeg, opMax, opMin, opAbs, opInt, opIx, opIsNotN, opIsN, isNon, opTuple, opList, opRev, opSl, opSlL, isi_int, isi_boolint, isi_tuple, items?, opEq_int, opNe_int, setAll, forgetAll, wipeE, backE, lentAt, fill, List.cons_append, List.nil_append, List.append_nil, List.replicate_succ, List.replicate_zero, List.getElem?_cons_zero, List.getElem?_cons_succ, List.set_cons_zero, List.set_cons_succ, List.map_cons, List.map_nil, List.length_cons, List.length_nil, List.length_map, List.length_replicate, List.all_nil, List.all_cons, Option.isSome, Option.bind_some, Option.map_some, Option.getD_some, Option.bind_none, Option.map_none, Nat.reduceAdd, Nat.zero_add, beq_self_eq_true, Bool.and_true, Bool.true_and, Bool.false_eq_true, reduceIte, reduceCtorEq, if_true, if_false, Bool.not_true, Bool.not_false, decide_true, decide_false, g5, e1, e2, hw, e3, hfar, e4, e5, e6, c1, c2, hix, e7, hv, pd, g1, g2, List.length_take, List.length_drop, List.length_append, code_length, fits_of (show min at_ far + 1 ≤ 16777216 by omega), fits_of (show min at_ far + 1 + (far - (at_ + 1)) ≤ 16777216 by omega), cs, a1, a2, opEq_self Ls]
end Hd

namespace Hd
open PL PM
/-- rows of one length -/
structure Rows (p : Int) (w : Nat) (rows : List (List Int)) : Prop where
  nums : ∀ r ∈ rows, Nums p r
  len : ∀ r ∈ rows, r.length = w
theorem Rows.tail {p : Int} {w : Nat} {r : List Int} {rows : List (List Int)} (h : Rows p w (r :: rows)) : Rows p w rows := ⟨fun x hx => h.nums x (List.mem_cons_of_mem _ hx), fun x hx => h.len x (List.mem_cons_of_mem _ hx)⟩
theorem atI_zero {α : Type} {l : List α} (h : 0 < l.length) : L2.atI l 0 = some l[0] := by
  rw [show (0 : Int) = ((0 : Nat) : Int) from rfl, atI_nat (List.getElem?_eq_getElem h)]
theorem all_true {α : Type} (l : List α) : (l.all fun _ => true) = true := by simp
theorem s_are_rows_in (p : Int) (w : Nat) (rows : List (List Int)) (h : Rows p w rows) (h1 : 1 ≤ rows.length) (h2 : rows.length ≤ 64) (w1 : 1 ≤ w) (w2 : w ≤ 16) : m_are_rows_in [some (.int p), some (tT rows)] = some (.bl true, [none, none]) := by
  have c1 : decide ((1 : Int) ≤ (rows.length : Int)) = true := decide_eq_true (by omega)
  have c2 : decide ((rows.length : Int) ≤ 64) = true := decide_eq_true (by omega)
  have lc1 : lcL (gNm 2) tYes' (eCall 2 m_is_row_in (aCons (eVar 0) (aCons (eVar 2) aNil))) [2] (rows.map tI) [some (.int p), some (tT rows), none] = some (rows.map fun _ => .bl true, [some (.int p), some (tT rows), none]) :=
    lcL_map fun r hr => ⟨[some (.int p), some (tT rows), some (tI r)], [some (.int p), some (tT rows), some (tI r)], rfl, by simp -implicitDefEqProofs only [semDef_ap, sSeq_ap, sSet_ap, sRet_ap, sIf_ap, sExpr_ap, sNil_ap, sNever_ap, sAug_ap, sPar_ap, sAsgT_ap, sStore_ap, sAugStore_ap, sFor_ap, sForO_ap, sWhile_ap, turn_ap, gNm_ap, gsNil_ap, gsCons_ap, gTp_ap, eVar_ap, eMove_ap, eC_ap, eBin_ap, eUn_ap, tOf_ap, tvAnd_ap, tvOr_ap, tvNot_ap, eAnd_ap, eOr_ap, eNot_ap, eIf_ap, eChain_ap, aNil_ap, aCons_ap, aStar_ap, eTup_ap, eLst_ap, eCall_ap, eCallL_ap, lNil_ap, lSh_ap, lLe_ap, lstAt_ap, eOwn2_ap, eSl_ap, pNo_ap, pSome_ap, eLstRg1_ap, eTupRg1_ap, eApp_ap, eExtend_ap, iOf_ap, iEnum_ap, iZip2_ap, iRng1_ap, eLc_ap, keep_nil, keep_zero, opI, opIc, opB, opAdd, opLen, opNeg, opMax, opMin, opAbs, opInt, opIx, opIsNotN, opIsN, isNon, opTuple, opList, opRev, opSl, opSlL, isi_int, isi_boolint, isi_tuple, items?, opEq_int, opNe_int, setAll, forgetAll, wipeE, backE, lentAt, fill, List.cons_append, List.nil_append, List.append_nil, List.replicate_succ, List.replicate_zero, List.getElem?_cons_zero, List.getElem?_cons_succ, List.set_cons_zero, List.set_cons_succ, List.map_cons, List.map_nil, List.length_cons, List.length_nil, List.length_map, List.length_replicate, List.all_nil, List.all_cons, Option.isSome, Option.bind_some, Option.map_some, Option.getD_some, Option.bind_none, Option.map_none, Nat.reduceAdd, Nat.zero_add, beq_self_eq_true, Bool.and_true, Bool.true_and, Bool.false_eq_true, reduceIte, reduceCtorEq, if_true, if_false, Bool.not_true, Bool.not_false, decide_true, decide_false, s_is_row_in p r (by rw [h.len r hr]; exact w1) (by rw [h.len r hr]; exact w2) (h.nums r hr)], rfl⟩
  have hi : L2.atI (rows.map tI) 0 = some (tI rows[0]) := by
    rw [atI_zero (by rw [List.length_map]; exact h1)]
    simp
  have l0 : rows[0].length = w := h.len _ (List.getElem_mem _)
  have lc2 : lcL (gNm 2) tYes' (eBin opEq (eUn opLen (eVar 2)) (eUn opLen (eBin opIx (eVar 1) (eC (.int 0))))) [2] (rows.map tI) [some (.int p), some (tT rows), none] = some (rows.map fun _ => .bl true, [some (.int p), some (tT rows), none]) :=
    lcL_map fun r hr => ⟨[some (.int p), some (tT rows), some (tI r)], [some (.int p), some (tT rows), some (tI r)], rfl, by simp -implicitDefEqProofs only [semDef_ap, sSeq_ap, sSet_ap, sRet_ap, sIf_ap, sExpr_ap, sNil_ap, sNever_ap, sAug_ap, sPar_ap, sAsgT_ap, sStore_ap, sAugStore_ap, sFor_ap, sForO_ap, sWhile_ap, turn_ap, gNm_ap, gsNil_ap, gsCons_ap, gTp_ap, eVar_ap, eMove_ap, eC_ap, eBin_ap, eUn_ap, tOf_ap, tvAnd_ap, tvOr_ap, tvNot_ap, eAnd_ap, eOr_ap, eNot_ap, eIf_ap, eChain_ap, aNil_ap, aCons_ap, aStar_ap, eTup_ap, eLst_ap, eCall_ap, eCallL_ap, lNil_ap, lSh_ap, lLe_ap, lstAt_ap, eOwn2_ap, eSl_ap, pNo_ap, pSome_ap, eLstRg1_ap, eTupRg1_ap, eApp_ap, eExtend_ap, iOf_ap, iEnum_ap, iZip2_ap, iRng1_ap, eLc_ap, keep_nil, keep_zero, opI, opIc, opB, opAdd, opLen, opNeg, opMax, opMin, opAbs, opInt, opIx, opIsNotN, opIsN, isNon, opTuple, opList, opRev, opSl, opSlL, isi_int, isi_boolint, isi_tuple, items?, opEq_int, opNe_int, setAll, forgetAll, wipeE, backE, lentAt, fill, List.cons_append, List.nil_append, List.append_nil, List.replicate_succ, List.replicate_zero, List.getElem?_cons_zero, List.getElem?_cons_succ, List.set_cons_zero, List.set_cons_succ, List.map_cons, List.map_nil, List.length_cons, List.length_nil, List.length_map, List.length_replicate, List.all_nil, List.all_cons, Option.isSome, Option.bind_some, Option.map_some, Option.getD_some, Option.bind_none, Option.map_none, Nat.reduceAdd, Nat.zero_add, beq_self_eq_true, Bool.and_true, Bool.true_and, Bool.false_eq_true, reduceIte, reduceCtorEq, if_true, if_false, Bool.not_true, Bool.not_false, decide_true, decide_false, hi, h.len r hr, l0, decide_true], rfl⟩
  simp -implicitDefEqProofs only [m_are_rows_in, b_are_rows_in, semDef_ap, sSeq_ap, sSet_ap, sRet_ap, sIf_ap, sExpr_ap, sNil_ap, sNever_ap, sAug_ap, sPar_ap, sAsgT_ap, sStore_ap, sAugStore_ap, sFor_ap, sForO_ap, sWhile_ap, turn_ap, gNm_ap, gsNil_ap, gsCons_ap, gTp_ap, eVar_ap, eMove_ap, eC_ap, eBin_ap, eUn_ap, tOf_ap, tvAnd_ap, tvOr_ap, tvNot_ap, eAnd_ap, eOr_ap, eNot_ap, eIf_ap, eChain_ap, aNil_ap, aCons_ap, aStar_ap, eTup_ap, eLst_ap, eCall_ap, eCallL_ap, lNil_ap, lSh_ap, lLe_ap, lstAt_ap, eOwn2_ap, eSl_ap, pNo_ap, pSome_ap, eLstRg1_ap, eTupRg1_ap, eApp_ap, eExtend_ap, iOf_ap, iEnum_ap, iZip2_ap, iRng1_ap, eLc_ap, keep_nil, keep_zero, opI, opIc, opB, opAdd, opLen, opNeg, opMax, opMin, opAbs, opInt, opIx, opIsNotN, opIsN, isNon, opTuple, opList, opRev, opSl, opSlL, isi_int, isi_boolint, isi_tuple, items?, opEq_int, opNe_int, setAll, forgetAll, wipeE, backE, lentAt, fill, List.cons_append, List.nil_append, List.append_nil, List.replicate_succ, List.replicate_zero, List.getElem?_cons_zero, List.getElem?_cons_succ, List.set_cons_zero, List.set_cons_succ, List.map_cons, List.map_nil, List.length_cons, List.length_nil, List.length_map, List.length_replicate, List.all_nil, List.all_cons, Option.isSome, Option.bind_some, Option.map_some, Option.getD_some, Option.bind_none, Option.map_none, Nat.reduceAdd, Nat.zero_add, beq_self_eq_true, Bool.and_true, Bool.true_and, Bool.false_eq_true, reduceIte, reduceCtorEq, if_true, if_false, Bool.not_true, Bool.not_false, decide_true, decide_false, c1, c2, lc1, lc2, fits_of (show rows.length ≤ 16777216 by omega), opAll_map, all_true]
theorem s_require_coded_rows (p : Int) (w : Nat) (rows : List (List Int)) (h : Rows p w rows) (h1 : 1 ≤ rows.length) (h2 : rows.length ≤ 64) (w1 : 1 ≤ w) (w2 : w ≤ 16) : m_require_coded_rows [some (.int p), some (tT rows)] = some (.non, [none, none]) := by
  simp -implicitDefEqProofs only [m_require_coded_rows, b_require_coded_rows, semDef_ap, sSeq_ap, sSet_ap, sRet_ap, sIf_ap, sExpr_ap, sNil_ap, sNever_ap, sAug_ap, sPar_ap, sAsgT_ap, sStore_ap, sAugStore_ap, sFor_ap, sForO_ap, sWhile_ap, turn_ap, gNm_ap, gsNil_ap, gsCons_ap, gTp_ap, eVar_ap, eMove_ap, eC_ap, eBin_ap, eUn_ap, tOf_ap, tvAnd_ap, tvOr_ap, tvNot_ap, eAnd_ap, eOr_ap, eNot_ap, eIf_ap, eChain_ap, aNil_ap, aCons_ap, aStar_ap, eTup_ap, eLst_ap, eCall_ap, eCallL_ap, lNil_ap, lSh_ap, lLe_ap, lstAt_ap, eOwn2_ap, eSl_ap, pNo_ap, pSome_ap, eLstRg1_ap, eTupRg1_ap, eApp_ap, eExtend_ap, iOf_ap, iEnum_ap, iZip2_ap, iRng1_ap, eLc_ap, keep_nil, keep_zero, opI, opIc, opB, opAdd, opLen, opNeg, opMax, opMin, opAbs, opInt, opIx, opIsNotN, opIsN, isNon, opTuple, opList, opRev, opSl, opSlL, isi_int, isi_boolint, isi_tuple, items?, opEq_int, opNe_int, setAll, forgetAll, wipeE, backE, lentAt, fill, List.cons_append, List.nil_append, List.append_nil, List.replicate_succ, List.replicate_zero, List.getElem?_cons_zero, List.getElem?_cons_succ, List.set_cons_zero, List.set_cons_succ, List.map_cons, List.map_nil, List.length_cons, List.length_nil, List.length_map, List.length_replicate, List.all_nil, List.all_cons, Option.isSome, Option.bind_some, Option.map_some, Option.getD_some, Option.bind_none, Option.map_none, Nat.reduceAdd, Nat.zero_add, beq_self_eq_true, Bool.and_true, Bool.true_and, Bool.false_eq_true, reduceIte, reduceCtorEq, if_true, if_false, Bool.not_true, Bool.not_false, decide_true, decide_false, s_are_rows_in p w rows h h1 h2 w1 w2]
theorem s_require_factors (p : Int) (fs : List Int) (n : Nat) (h : Nums p fs) (hl : fs.length = n) (hn : n ≤ 1000) : m_require_factors [some (.int p), some (tI fs), some (.int n)] = some (.non, [none, none, none]) := by
  simp -implicitDefEqProofs only [m_require_factors, b_require_factors, semDef_ap, sSeq_ap, sSet_ap, sRet_ap, sIf_ap, sExpr_ap, sNil_ap, sNever_ap, sAug_ap, sPar_ap, sAsgT_ap, sStore_ap, sAugStore_ap, sFor_ap, sForO_ap, sWhile_ap, turn_ap, gNm_ap, gsNil_ap, gsCons_ap, gTp_ap, eVar_ap, eMove_ap, eC_ap, eBin_ap, eUn_ap, tOf_ap, tvAnd_ap, tvOr_ap, tvNot_ap, eAnd_ap, eOr_ap, eNot_ap, eIf_ap, eChain_ap, aNil_ap, aCons_ap, aStar_ap, eTup_ap, eLst_ap, eCall_ap, eCallL_ap, lNil_ap, lSh_ap, lLe_ap, lstAt_ap, eOwn2_ap, eSl_ap, pNo_ap, pSome_ap, eLstRg1_ap, eTupRg1_ap, eApp_ap, eExtend_ap, iOf_ap, iEnum_ap, iZip2_ap, iRng1_ap, eLc_ap, keep_nil, keep_zero, opI, opIc, opB, opAdd, opLen, opNeg, opMax, opMin, opAbs, opInt, opIx, opIsNotN, opIsN, isNon, opTuple, opList, opRev, opSl, opSlL, isi_int, isi_boolint, isi_tuple, items?, opEq_int, opNe_int, setAll, forgetAll, wipeE, backE, lentAt, fill, List.cons_append, List.nil_append, List.append_nil, List.replicate_succ, List.replicate_zero, List.getElem?_cons_zero, List.getElem?_cons_succ, List.set_cons_zero, List.set_cons_succ, List.map_cons, List.map_nil, List.length_cons, List.length_nil, List.length_map, List.length_replicate, List.all_nil, List.all_cons, Option.isSome, Option.bind_some, Option.map_some, Option.getD_some, Option.bind_none, Option.map_none, Nat.reduceAdd, Nat.zero_add, beq_self_eq_true, Bool.and_true, Bool.true_and, Bool.false_eq_true, reduceIte, reduceCtorEq, if_true, if_false, Bool.not_true, Bool.not_false, decide_true, decide_false, s_are_numbers p fs (by omega), decide_eq_true h, hl, decide_true]
def cols (p : Int) (rows : List (List Int)) (n : Nat) : List (List Int) := (List.range n).map fun (x : Nat) => rows.map fun r => worth p r x
theorem s_coded_columns_in (p : Int) (rows : List (List Int)) (n : Nat) (hp : 0 < p) (hn : n ≤ 1000) (hr : rows.length ≤ 1000) : m_coded_columns_in [some (.int p), some (tT rows), some (.int n)] = some (tT (cols p rows n), [none, none, none]) := by
  have l1 : ∀ (a : Option PV) (x : Nat), x < n → lcL (gNm 4) tYes' (eCall 3 m_worth_in (aCons (eVar 0) (aCons (eVar 4) (aCons (eVar 3) aNil)))) [4] (rows.map tI) [some (.int p), some (tT rows), a, some (.int x), none] = some (rows.map fun r => .int (worth p r x), [some (.int p), some (tT rows), a, some (.int x), none]) := fun a x hx =>
    lcL_map fun r hr => ⟨[some (.int p), some (tT rows), a, some (.int x), some (tI r)], [some (.int p), some (tT rows), a, some (.int x), some (tI r)], rfl, by simp -implicitDefEqProofs only [semDef_ap, sSeq_ap, sSet_ap, sRet_ap, sIf_ap, sExpr_ap, sNil_ap, sNever_ap, sAug_ap, sPar_ap, sAsgT_ap, sStore_ap, sAugStore_ap, sFor_ap, sForO_ap, sWhile_ap, turn_ap, gNm_ap, gsNil_ap, gsCons_ap, gTp_ap, eVar_ap, eMove_ap, eC_ap, eBin_ap, eUn_ap, tOf_ap, tvAnd_ap, tvOr_ap, tvNot_ap, eAnd_ap, eOr_ap, eNot_ap, eIf_ap, eChain_ap, aNil_ap, aCons_ap, aStar_ap, eTup_ap, eLst_ap, eCall_ap, eCallL_ap, lNil_ap, lSh_ap, lLe_ap, lstAt_ap, eOwn2_ap, eSl_ap, pNo_ap, pSome_ap, eLstRg1_ap, eTupRg1_ap, eApp_ap, eExtend_ap, iOf_ap, iEnum_ap, iZip2_ap, iRng1_ap, eLc_ap, keep_nil, keep_zero, opI, opIc, opB, opAdd, opLen, opNeg, opMax, opMin, opAbs, opInt, opIx, opIsNotN, opIsN, isNon, opTuple, opList, opRev, opSl, opSlL, isi_int, isi_boolint, isi_tuple, items?, opEq_int, opNe_int, setAll, forgetAll, wipeE, backE, lentAt, fill, List.cons_append, List.nil_append, List.append_nil, List.replicate_succ, List.replicate_zero, List.getElem?_cons_zero, List.getElem?_cons_succ, List.set_cons_zero, List.set_cons_succ, List.map_cons, List.map_nil, List.length_cons, List.length_nil, List.length_map, List.length_replicate, List.all_nil, List.all_cons, Option.isSome, Option.bind_some, Option.map_some, Option.getD_some, Option.bind_none, Option.map_none, Nat.reduceAdd, Nat.zero_add, beq_self_eq_true, Bool.and_true, Bool.true_and, Bool.false_eq_true, reduceIte, reduceCtorEq, if_true, if_false, Bool.not_true, Bool.not_false, decide_true, decide_false, s_worth_in p r x hp (by omega) (by omega)], rfl⟩
  have l2 : ∀ (a : Option PV), lcL (gNm 3) tYes' (eUn opTuple (eLc (iOf (eVar 1)) (gNm 4) tYes' (eCall 3 m_worth_in (aCons (eVar 0) (aCons (eVar 4) (aCons (eVar 3) aNil)))) [4])) [3] ((List.range n).map fun (i : Nat) => PV.int (i : Int)) [some (.int p), some (tT rows), a, none, none] = some ((List.range n).map fun (x : Nat) => .tup (rows.map fun r => .int (worth p r x)), [some (.int p), some (tT rows), a, none, none]) := fun a =>
    lcL_map fun x hx => ⟨[some (.int p), some (tT rows), a, some (.int x), none], [some (.int p), some (tT rows), a, some (.int x), none], rfl, by simp -implicitDefEqProofs only [semDef_ap, sSeq_ap, sSet_ap, sRet_ap, sIf_ap, sExpr_ap, sNil_ap, sNever_ap, sAug_ap, sPar_ap, sAsgT_ap, sStore_ap, sAugStore_ap, sFor_ap, sForO_ap, sWhile_ap, turn_ap, gNm_ap, gsNil_ap, gsCons_ap, gTp_ap, eVar_ap, eMove_ap, eC_ap, eBin_ap, eUn_ap, tOf_ap, tvAnd_ap, tvOr_ap, tvNot_ap, eAnd_ap, eOr_ap, eNot_ap, eIf_ap, eChain_ap, aNil_ap, aCons_ap, aStar_ap, eTup_ap, eLst_ap, eCall_ap, eCallL_ap, lNil_ap, lSh_ap, lLe_ap, lstAt_ap, eOwn2_ap, eSl_ap, pNo_ap, pSome_ap, eLstRg1_ap, eTupRg1_ap, eApp_ap, eExtend_ap, iOf_ap, iEnum_ap, iZip2_ap, iRng1_ap, eLc_ap, keep_nil, keep_zero, opI, opIc, opB, opAdd, opLen, opNeg, opMax, opMin, opAbs, opInt, opIx, opIsNotN, opIsN, isNon, opTuple, opList, opRev, opSl, opSlL, isi_int, isi_boolint, isi_tuple, items?, opEq_int, opNe_int, setAll, forgetAll, wipeE, backE, lentAt, fill, List.cons_append, List.nil_append, List.append_nil, List.replicate_succ, List.replicate_zero, List.getElem?_cons_zero, List.getElem?_cons_succ, List.set_cons_zero, List.set_cons_succ, List.map_cons, List.map_nil, List.length_cons, List.length_nil, List.length_map, List.length_replicate, List.all_nil, List.all_cons, Option.isSome, Option.bind_some, Option.map_some, Option.getD_some, Option.bind_none, Option.map_none, Nat.reduceAdd, Nat.zero_add, beq_self_eq_true, Bool.and_true, Bool.true_and, Bool.false_eq_true, reduceIte, reduceCtorEq, if_true, if_false, Bool.not_true, Bool.not_false, decide_true, decide_false, fits_of (show rows.length ≤ 16777216 by omega), l1 a x (List.mem_range.mp hx)], rfl⟩
  have em : ((List.range n).map fun (x : Nat) => PV.tup (rows.map fun r => .int (worth p r x))) = (cols p rows n).map tI := by
    unfold cols
    rw [List.map_map]
    refine List.map_congr_left fun x _ => ?_
    show _ = PV.tup ((rows.map fun r => worth p r x).map .int)
    rw [List.map_map]
    rfl
  simp -implicitDefEqProofs only [m_coded_columns_in, b_coded_columns_in, semDef_ap, sSeq_ap, sSet_ap, sRet_ap, sIf_ap, sExpr_ap, sNil_ap, sNever_ap, sAug_ap, sPar_ap, sAsgT_ap, sStore_ap, sAugStore_ap, sFor_ap, sForO_ap, sWhile_ap, turn_ap, gNm_ap, gsNil_ap, gsCons_ap, gTp_ap, eVar_ap, eMove_ap, eC_ap, eBin_ap, eUn_ap, tOf_ap, tvAnd_ap, tvOr_ap, tvNot_ap, eAnd_ap, eOr_ap, eNot_ap, eIf_ap, eChain_ap, aNil_ap, aCons_ap, aStar_ap, eTup_ap, eLst_ap, eCall_ap, eCallL_ap, lNil_ap, lSh_ap, lLe_ap, lstAt_ap, eOwn2_ap, eSl_ap, pNo_ap, pSome_ap, eLstRg1_ap, eTupRg1_ap, eApp_ap, eExtend_ap, iOf_ap, iEnum_ap, iZip2_ap, iRng1_ap, eLc_ap, keep_nil, keep_zero, opI, opIc, opB, opAdd, opLen, opNeg, opMax, opMin, opAbs, opInt, opIx, opIsNotN, opIsN, isNon, opTuple, opList, opRev, opSl, opSlL, isi_int, isi_boolint, isi_tuple, items?, opEq_int, opNe_int, setAll, forgetAll, wipeE, backE, lentAt, fill, List.cons_append, List.nil_append, List.append_nil, List.replicate_succ, List.replicate_zero, List.getElem?_cons_zero, List.getElem?_cons_succ, List.set_cons_zero, List.set_cons_succ, List.map_cons, List.map_nil, List.length_cons, List.length_nil, List.length_map, List.length_replicate, List.all_nil, List.all_cons, Option.isSome, Option.bind_some, Option.map_some, Option.getD_some, Option.bind_none, Option.map_none, Nat.reduceAdd, Nat.zero_add, beq_self_eq_true, Bool.and_true, Bool.true_and, Bool.false_eq_true, reduceIte, reduceCtorEq, if_true, if_false, Bool.not_true, Bool.not_false, decide_true, decide_false, rg_ok (Nat.le_trans hn (by decide)), rg_n, List.length_range, fits_of (Nat.le_trans hn (by decide)), l2, em]
theorem s_coded_columns (p : Int) (w : Nat) (rows : List (List Int)) (n : Nat) (hp : p ∈ known) (h : Rows p w rows) (h1 : 1 ≤ rows.length) (h2 : rows.length ≤ 64) (w1 : 1 ≤ w) (w2 : w ≤ 16) (h3 : w ≤ n) (h4 : n ≤ p) (h5 : n ≤ 64) :
    m_coded_columns [some (.int p), some (tT rows), some (.int n)] = some (tT (cols p rows n), [none, none, none]) := by
  have hb := known_b hp
  have hi : L2.atI (rows.map tI) 0 = some (tI rows[0]) := by
    rw [atI_zero (by rw [List.length_map]; exact h1)]
    simp
  have l0 : rows[0].length = w := h.len _ (List.getElem_mem _)
  have e := s_require_number n w (if (64 : Int) < p then 64 else p) (by omega) (by omega) (by omega) (by split <;> omega)
  simp -implicitDefEqProofs only [m_coded_columns, b_coded_columns, semDef_ap, sSeq_ap, sSet_ap, sRet_ap, sIf_ap, sExpr_ap, sNil_ap, sNever_ap, sAug_ap, sPar_ap, sAsgT_ap, sStore_ap, sAugStore_ap, sFor_ap, sForO_ap, sWhile_ap, turn_ap, gNm_ap, gsNil_ap, gsCons_ap, gTp_ap, eVar_ap, eMove_ap, eC_ap, eBin_ap, eUn_ap, tOf_ap, tvAnd_ap, tvOr_ap, tvNot_ap, eAnd_ap, eOr_ap, eNot_ap, eIf_ap, eChain_ap, aNil_ap, aCons_ap, aStar_ap, eTup_ap, eLst_ap, eCall_ap, eCallL_ap, lNil_ap, lSh_ap, lLe_ap, lstAt_ap, eOwn2_ap, eSl_ap, pNo_ap, pSome_ap, eLstRg1_ap, eTupRg1_ap, eApp_ap, eExtend_ap, iOf_ap, iEnum_ap, iZip2_ap, iRng1_ap, eLc_ap, keep_nil, keep_zero, opI, opIc, opB, opAdd, opLen, opNeg, opMax, opMin, opAbs, opInt, opIx, opIsNotN, opIsN, isNon, opTuple, opList, opRev, opSl, opSlL, isi_int, isi_boolint, isi_tuple, items?, opEq_int, opNe_int, setAll, forgetAll, wipeE, backE, lentAt, fill, List.cons_append, List.nil_append, List.append_nil, List.replicate_succ, List.replicate_zero, List.getElem?_cons_zero, List.getElem?_cons_succ, List.set_cons_zero, List.set_cons_succ, List.map_cons, List.map_nil, List.length_cons, List.length_nil, List.length_map, List.length_replicate, List.all_nil, List.all_cons, Option.isSome, Option.bind_some, Option.map_some, Option.getD_some, Option.bind_none, Option.map_none, Nat.reduceAdd, Nat.zero_add, beq_self_eq_true, Bool.and_true, Bool.true_and, Bool.false_eq_true, reduceIte, reduceCtorEq, if_true, if_false, Bool.not_true, Bool.not_false, decide_true, decide_false, s_require_prime p hp, s_require_coded_rows p w rows h h1 h2 w1 w2, hi, l0, e, s_coded_columns_in p rows n (by omega) (by omega) (by omega)]
/-! ### mixed rows -/
def mixf (p : Int) : List (List Int × Int) → List Int → List Int
  | [], found => found
  | (row, c) :: r, found => mixf p r (List.zipWith (fun a b => (a + c * b) % p) found row)
theorem mixf_length {p : Int} {w : Nat} : ∀ (l : List (List Int × Int)) (found : List Int), (∀ q ∈ l, q.1.length = w) → found.length = w → (mixf p l found).length = w
  | [], _, _, h => h
  | (row, c) :: r, found, hl, h => mixf_length r _ (fun q hq => hl q (List.mem_cons_of_mem _ hq)) (by rw [List.length_zipWith, h, hl (row, c) List.mem_cons_self]; omega)
theorem mixf_nums {p : Int} (hp : 0 < p) : ∀ (l : List (List Int × Int)) (found : List Int), Nums p found → Nums p (mixf p l found)
  | [], _, h => h
  | (row, c) :: r, found, h => mixf_nums hp r _ fun x hx => by
    obtain ⟨i, hi, rfl⟩ := List.getElem_of_mem hx
    rw [List.getElem_zipWith]
    exact ⟨Int.emod_nonneg _ (by omega), Int.emod_lt_of_pos _ hp⟩
theorem ev_zipMix (p c x : Int) : ∀ (f g : List Int), f.length = g.length → Cg p (ev (List.zipWith (fun a b => (a + c * b) % p) f g) x) (ev f x + c * ev g x)
  | [], [], _ => by simp [ev]; exact Cg.refl _ _
  | a :: f, b :: g, h => by
    have ih := ev_zipMix p c x f g (by simpa using h)
    have := Cg.add (ih.mul (Cg.refl p x)) (Cg.mod p (a + c * b))
    have e : (ev f x + c * ev g x) * x + (a + c * b) = ev f x * x + a + c * (ev g x * x + b) := by
      rw [Int.add_mul, Int.mul_add, ← Int.mul_assoc]
      omega
    rw [e] at this
    exact this
  | [], _ :: _, h => by simp at h
  | _ :: _, [], h => by simp at h
def sumAt (x : Int) : List (List Int × Int) → Int
  | [] => 0
  | (row, c) :: r => c * ev row x + sumAt x r
theorem ev_mixf {p : Int} {w : Nat} (x : Int) : ∀ (l : List (List Int × Int)) (found : List Int), (∀ q ∈ l, q.1.length = w) → found.length = w → Cg p (ev (mixf p l found) x) (ev found x + sumAt x l)
  | [], found, _, _ => by
    show Cg p (ev found x) (ev found x + 0)
    rw [Int.add_zero]
    exact Cg.refl _ _
  | (row, c) :: r, found, hl, h => by
    have hr := hl (row, c) List.mem_cons_self
    have ih := ev_mixf (p := p) (w := w) x r (List.zipWith (fun a b => (a + c * b) % p) found row) (fun q hq => hl q (List.mem_cons_of_mem _ hq)) (by rw [List.length_zipWith, h, hr]; omega)
    have := ih.trans (Cg.add (ev_zipMix p c x found row (by rw [h, hr])) (Cg.refl p (sumAt x r)))
    rw [Int.add_assoc] at this
    exact this
/-- one place of a mixed row -/
def sumK (k : Nat) : List (List Int × Int) → Int
  | [] => 0
  | (row, c) :: r => c * (row[k]?).getD 0 + sumK k r
theorem mixf_get {p : Int} (hp : 0 < p) {w : Nat} (k : Nat) (hk : k < w) : ∀ (l : List (List Int × Int)) (found : List Int), (∀ q ∈ l, q.1.length = w) → found.length = w → Nums p found → (mixf p l found)[k]? = some (((found[k]?).getD 0 + sumK k l) % p)
  | [], found, _, h, n => by
    have hlt : k < found.length := by omega
    show found[k]? = some (((found[k]?).getD 0 + 0) % p)
    rw [List.getElem?_eq_getElem hlt]
    have := n found[k] (List.getElem_mem hlt)
    rw [Option.getD_some, Int.add_zero, Int.emod_eq_of_lt this.1 this.2]
  | (row, c) :: r, found, hl, h, n => by
    have hr := hl (row, c) List.mem_cons_self
    have hr : row.length = w := hr
    have n2 : Nums p (List.zipWith (fun a b => (a + c * b) % p) found row) := mixf_nums hp [(row, c)] found n
    have ih := mixf_get hp k hk r (List.zipWith (fun a b => (a + c * b) % p) found row) (fun q hq => hl q (List.mem_cons_of_mem _ hq)) (by rw [List.length_zipWith, h, hr]; omega) n2
    have h1 : k < found.length := by omega
    have h2 : k < row.length := by omega
    show (mixf p r _)[k]? = some (((found[k]?).getD 0 + (c * (row[k]?).getD 0 + sumK k r)) % p)
    rw [ih, List.getElem?_zipWith, List.getElem?_eq_getElem h1, List.getElem?_eq_getElem h2]
    show some (((found[k] + c * row[k]) % p + sumK k r) % p) = some ((found[k] + (c * row[k] + sumK k r)) % p)
    rw [← Int.add_assoc]
    congr 1
    exact Cg.iff.mp (Cg.add (Cg.mod p _) (Cg.refl p _))
theorem s_mixed_row_in (p : Int) (w : Nat) (rows : List (List Int)) (fs : List Int) (hp : 0 < p) (hp2 : p < 1000000) (h : Rows p w rows) (hf : Nums p fs) (h1 : 1 ≤ rows.length) (h2 : rows.length ≤ 64) (hw : w ≤ 64) (hl : fs.length = rows.length) : m_mixed_row_in [some (.int p), some (tT rows), some (tI fs)] = some (tI (mixf p (rows.zip fs) (List.replicate w 0)), [none, none, none]) := by
  have hpd : decide (0 < p) = true := decide_eq_true hp
  have hi : L2.atI (rows.map tI) 0 = some (tI rows[0]) := by
    rw [atI_zero (by rw [List.length_map]; exact h1)]
    simp
  have l0 : rows[0].length = w := h.len _ (List.getElem_mem _)
  have inner : ∀ (a b z : Option PV) (found row : List Int) (c : Int), (∀ x ∈ row, 0 ≤ x ∧ x < p) → lcL (gTp 2 (gsCons (gNm 6) (gsCons (gNm 7) gsNil))) tYes' (eBin opMod (eBin opAdd (eVar 6) (eBin opMul (eVar 5) (eVar 7))) (eVar 0)) [6, 7] ((found.zip row).map fun q : Int × Int => PV.tup [.int q.1, .int q.2]) [some (.int p), a, b, z, some (tI row), some (.int c), none, none]
      = some ((found.zip row).map fun q : Int × Int => .int ((q.1 + c * q.2) % p), [some (.int p), a, b, z, some (tI row), some (.int c), none, none]) := fun a b z found row c hr =>
    lcL_map fun q hq => ⟨[some (.int p), a, b, z, some (tI row), some (.int c), some (.int q.1), some (.int q.2)], [some (.int p), a, b, z, some (tI row), some (.int c), some (.int q.1), some (.int q.2)], by simp -implicitDefEqProofs only [semDef_ap, sSeq_ap, sSet_ap, sRet_ap, sIf_ap, sExpr_ap, sNil_ap, sNever_ap, sAug_ap, sPar_ap, sAsgT_ap, sStore_ap, sAugStore_ap, sFor_ap, sForO_ap, sWhile_ap, turn_ap, gNm_ap, gsNil_ap, gsCons_ap, gTp_ap, eVar_ap, eMove_ap, eC_ap, eBin_ap, eUn_ap, tOf_ap, tvAnd_ap, tvOr_ap, tvNot_ap, eAnd_ap, eOr_ap, eNot_ap, eIf_ap, eChain_ap, aNil_ap, aCons_ap, aStar_ap, eTup_ap, eLst_ap, eCall_ap, eCallL_ap, lNil_ap, lSh_ap, lLe_ap, lstAt_ap, eOwn2_ap, eSl_ap, pNo_ap, pSome_ap, eLstRg1_ap, eTupRg1_ap, eApp_ap, eExtend_ap, iOf_ap, iEnum_ap, iZip2_ap, iRng1_ap, eLc_ap, keep_nil, keep_zero, opI, opIc, opB, opAdd, opLen, opNeg, opMax, opMin, opAbs, opInt, opIx, opIsNotN, opIsN, isNon, opTuple, opList, opRev, opSl, opSlL, isi_int, isi_boolint, isi_tuple, items?, opEq_int, opNe_int, setAll, forgetAll, wipeE, backE, lentAt, fill, List.cons_append, List.nil_append, List.append_nil, List.replicate_succ, List.replicate_zero, List.getElem?_cons_zero, List.getElem?_cons_succ, List.set_cons_zero, List.set_cons_succ, List.map_cons, List.map_nil, List.length_cons, List.length_nil, List.length_map, List.length_replicate, List.all_nil, List.all_cons, Option.isSome, Option.bind_some, Option.map_some, Option.getD_some, Option.bind_none, Option.map_none, Nat.reduceAdd, Nat.zero_add, beq_self_eq_true, Bool.and_true, Bool.true_and, Bool.false_eq_true, reduceIte, reduceCtorEq, if_true, if_false, Bool.not_true, Bool.not_false, decide_true, decide_false],
      by
        have := hr q.2 (List.of_mem_zip hq).2
        simp -implicitDefEqProofs only [semDef_ap, sSeq_ap, sSet_ap, sRet_ap, sIf_ap, sExpr_ap, sNil_ap, sNever_ap, sAug_ap, sPar_ap, sAsgT_ap, sStore_ap, sAugStore_ap, sFor_ap, sForO_ap, sWhile_ap, turn_ap, gNm_ap, gsNil_ap, gsCons_ap, gTp_ap, eVar_ap, eMove_ap, eC_ap, eBin_ap, eUn_ap, tOf_ap, tvAnd_ap, tvOr_ap, tvNot_ap, eAnd_ap, eOr_ap, eNot_ap, eIf_ap, eChain_ap, aNil_ap, aCons_ap, aStar_ap, eTup_ap, eLst_ap, eCall_ap, eCallL_ap, lNil_ap, lSh_ap, lLe_ap, lstAt_ap, eOwn2_ap, eSl_ap, pNo_ap, pSome_ap, eLstRg1_ap, eTupRg1_ap, eApp_ap, eExtend_ap, iOf_ap, iEnum_ap, iZip2_ap, iRng1_ap, eLc_ap, keep_nil, keep_zero, opI, opIc, opB, opAdd, opLen, opNeg, opMax, opMin, opAbs, opInt, opIx, opIsNotN, opIsN, isNon, opTuple, opList, opRev, opSl, opSlL, isi_int, isi_boolint, isi_tuple, items?, opEq_int, opNe_int, setAll, forgetAll, wipeE, backE, lentAt, fill, List.cons_append, List.nil_append, List.append_nil, List.replicate_succ, List.replicate_zero, List.getElem?_cons_zero, List.getElem?_cons_succ, List.set_cons_zero, List.set_cons_succ, List.map_cons, List.map_nil, List.length_cons, List.length_nil, List.length_map, List.length_replicate, List.all_nil, List.all_cons, Option.isSome, Option.bind_some, Option.map_some, Option.getD_some, Option.bind_none, Option.map_none, Nat.reduceAdd, Nat.zero_add, beq_self_eq_true, Bool.and_true, Bool.true_and, Bool.false_eq_true, reduceIte, reduceCtorEq, if_true, if_false, Bool.not_true, Bool.not_false, decide_true, decide_false, mulOk_right (i := c) (j := q.2) (by omega) (by omega), hpd], by simp -implicitDefEqProofs only [semDef_ap, sSeq_ap, sSet_ap, sRet_ap, sIf_ap, sExpr_ap, sNil_ap, sNever_ap, sAug_ap, sPar_ap, sAsgT_ap, sStore_ap, sAugStore_ap, sFor_ap, sForO_ap, sWhile_ap, turn_ap, gNm_ap, gsNil_ap, gsCons_ap, gTp_ap, eVar_ap, eMove_ap, eC_ap, eBin_ap, eUn_ap, tOf_ap, tvAnd_ap, tvOr_ap, tvNot_ap, eAnd_ap, eOr_ap, eNot_ap, eIf_ap, eChain_ap, aNil_ap, aCons_ap, aStar_ap, eTup_ap, eLst_ap, eCall_ap, eCallL_ap, lNil_ap, lSh_ap, lLe_ap, lstAt_ap, eOwn2_ap, eSl_ap, pNo_ap, pSome_ap, eLstRg1_ap, eTupRg1_ap, eApp_ap, eExtend_ap, iOf_ap, iEnum_ap, iZip2_ap, iRng1_ap, eLc_ap, keep_nil, keep_zero, opI, opIc, opB, opAdd, opLen, opNeg, opMax, opMin, opAbs, opInt, opIx, opIsNotN, opIsN, isNon, opTuple, opList, opRev, opSl, opSlL, isi_int, isi_boolint, isi_tuple, items?, opEq_int, opNe_int, setAll, forgetAll, wipeE, backE, lentAt, fill, List.cons_append, List.nil_append, List.append_nil, List.replicate_succ, List.replicate_zero, List.getElem?_cons_zero, List.getElem?_cons_succ, List.set_cons_zero, List.set_cons_succ, List.map_cons, List.map_nil, List.length_cons, List.length_nil, List.length_map, List.length_replicate, List.all_nil, List.all_cons, Option.isSome, Option.bind_some, Option.map_some, Option.getD_some, Option.bind_none, Option.map_none, Nat.reduceAdd, Nat.zero_add, beq_self_eq_true, Bool.and_true, Bool.true_and, Bool.false_eq_true, reduceIte, reduceCtorEq, if_true, if_false, Bool.not_true, Bool.not_false, decide_true, decide_false]⟩
  have em : ∀ (found row : List Int) (c : Int), ((found.zip row).map fun q : Int × Int => PV.int ((q.1 + c * q.2) % p)) = (List.zipWith (fun a b => (a + c * b) % p) found row).map .int := fun found row c => by
    rw [List.zip, List.map_zipWith, List.map_zipWith]
  have loop : ∀ (a b : Option PV) (l : List (List Int × Int)) (found : List Int), (∀ q ∈ l, q.1.length = w ∧ Nums p q.1) → found.length = w →
      forL (turn (gTp 2 (gsCons (gNm 4) (gsCons (gNm 5) gsNil))) (sSet 3 (eLc (iZip2 (eVar 3) (eVar 4)) (gTp 2 (gsCons (gNm 6) (gsCons (gNm 7) gsNil))) tYes' (eBin opMod (eBin opAdd (eVar 6) (eBin opMul (eVar 5) (eVar 7))) (eVar 0)) [6, 7])) [4, 5]) (l.map fun q => PV.tup [tI q.1, .int q.2]) [some (.int p), a, b, some (lI found), none, none, none, none]
        = some (.nx, [some (.int p), a, b, some (lI (mixf p l found)), none, none, none, none]) := by
    intro a b l
    induction l with
    | nil => intro found _ _; rfl
    | cons q l ih =>
      intro found hq hf
      obtain ⟨row, c⟩ := q
      obtain ⟨q1, q2⟩ := hq (row, c) List.mem_cons_self
      have q1 : row.length = w := q1
      rw [List.map_cons]
      unfold forL
      have e1 : turn (gTp 2 (gsCons (gNm 4) (gsCons (gNm 5) gsNil))) (sSet 3 (eLc (iZip2 (eVar 3) (eVar 4)) (gTp 2 (gsCons (gNm 6) (gsCons (gNm 7) gsNil))) tYes' (eBin opMod (eBin opAdd (eVar 6) (eBin opMul (eVar 5) (eVar 7))) (eVar 0)) [6, 7])) [4, 5] (PV.tup [tI (row, c).1, .int (row, c).2]) [some (.int p), a, b, some (lI found), none, none, none, none]
          = some (.nx, [some (.int p), a, b, some (lI (List.zipWith (fun a b => (a + c * b) % p) found row)), none, none, none, none]) := by
        simp -implicitDefEqProofs only [semDef_ap, sSeq_ap, sSet_ap, sRet_ap, sIf_ap, sExpr_ap, sNil_ap, sNever_ap, sAug_ap, sPar_ap, sAsgT_ap, sStore_ap, sAugStore_ap, sFor_ap, sForO_ap, sWhile_ap, turn_ap, gNm_ap, gsNil_ap, gsCons_ap, gTp_ap, eVar_ap, eMove_ap, eC_ap, eBin_ap, eUn_ap, tOf_ap, tvAnd_ap, tvOr_ap, tvNot_ap, eAnd_ap, eOr_ap, eNot_ap, eIf_ap, eChain_ap, aNil_ap, aCons_ap, aStar_ap, eTup_ap, eLst_ap, eCall_ap, eCallL_ap, lNil_ap, lSh_ap, lLe_ap, lstAt_ap, eOwn2_ap, eSl_ap, pNo_ap, pSome_ap, eLstRg1_ap, eTupRg1_ap, eApp_ap, eExtend_ap, iOf_ap, iEnum_ap, iZip2_ap, iRng1_ap, eLc_ap, keep_nil, keep_zero, opI, opIc, opB, opAdd, opLen, opNeg, opMax, opMin, opAbs, opInt, opIx, opIsNotN, opIsN, isNon, opTuple, opList, opRev, opSl, opSlL, isi_int, isi_boolint, isi_tuple, items?, opEq_int, opNe_int, setAll, forgetAll, wipeE, backE, lentAt, fill, List.cons_append, List.nil_append, List.append_nil, List.replicate_succ, List.replicate_zero, List.getElem?_cons_zero, List.getElem?_cons_succ, List.set_cons_zero, List.set_cons_succ, List.map_cons, List.map_nil, List.length_cons, List.length_nil, List.length_map, List.length_replicate, List.all_nil, List.all_cons, Option.isSome, Option.bind_some, Option.map_some, Option.getD_some, Option.bind_none, Option.map_none, Nat.reduceAdd, Nat.zero_add, beq_self_eq_true, Bool.and_true, Bool.true_and, Bool.false_eq_true, reduceIte, reduceCtorEq, if_true, if_false, Bool.not_true, Bool.not_false, decide_true, decide_false, zipP_map, List.length_zip, hf, q1, fits_of (show min w w ≤ 16777216 by omega), inner a b _ found row c q2, em]
      rw [e1]
      exact ih _ (fun q h => hq q (List.mem_cons_of_mem _ h)) (by rw [List.length_zipWith, hf, q1]; omega)
  have r1 : (decide (-(2 ^ 63) ≤ (w : Int) ∧ (w : Int) < 2 ^ 63) && fits (1 * ((w : Int)).toNat)) = true := by
    rw [decide_eq_true (by omega), fits_of (by omega)]
    rfl
  have r2 : (List.replicate ((w : Int)).toNat [PV.int 0]).flatten = (List.replicate w (0 : Int)).map .int := by
    rw [Int.toNat_natCast]
    exact rep_zero _
  have one : fits 1 = true := by decide
  have lp := loop (some (tT rows)) (some (tI fs)) (rows.zip fs) (List.replicate w 0) (fun q hq => ⟨h.len _ (List.of_mem_zip hq).1, h.nums _ (List.of_mem_zip hq).1⟩) (by simp)
  simp -implicitDefEqProofs only [m_mixed_row_in, b_mixed_row_in, semDef_ap, sSeq_ap, sSet_ap, sRet_ap, sIf_ap, sExpr_ap, sNil_ap, sNever_ap, sAug_ap, sPar_ap, sAsgT_ap, sStore_ap, sAugStore_ap, sFor_ap, sForO_ap, sWhile_ap, turn_ap, gNm_ap, gsNil_ap, gsCons_ap, gTp_ap, eVar_ap, eMove_ap, eC_ap, eBin_ap, eUn_ap, tOf_ap, tvAnd_ap, tvOr_ap, tvNot_ap, eAnd_ap, eOr_ap, eNot_ap, eIf_ap, eChain_ap, aNil_ap, aCons_ap, aStar_ap, eTup_ap, eLst_ap, eCall_ap, eCallL_ap, lNil_ap, lSh_ap, lLe_ap, lstAt_ap, eOwn2_ap, eSl_ap, pNo_ap, pSome_ap, eLstRg1_ap, eTupRg1_ap, eApp_ap, eExtend_ap, iOf_ap, iEnum_ap, iZip2_ap, iRng1_ap, eLc_ap, keep_nil, keep_zero, opI, opIc, opB, opAdd, opLen, opNeg, opMax, opMin, opAbs, opInt, opIx, opIsNotN, opIsN, isNon, opTuple, opList, opRev, opSl, opSlL, isi_int, isi_boolint, isi_tuple, items?, opEq_int, opNe_int, setAll, forgetAll, wipeE, backE, lentAt, fill, List.cons_append, List.nil_append, List.append_nil, List.replicate_succ, List.replicate_zero, List.getElem?_cons_zero, List.getElem?_cons_succ, List.set_cons_zero, List.set_cons_succ, List.map_cons, List.map_nil, List.length_cons, List.length_nil, List.length_map, List.length_replicate, List.all_nil, List.all_cons, Option.isSome, Option.bind_some, Option.map_some, Option.getD_some, Option.bind_none, Option.map_none, Nat.reduceAdd, Nat.zero_add, beq_self_eq_true, Bool.and_true, Bool.true_and, Bool.false_eq_true, reduceIte, reduceCtorEq, if_true, if_false, Bool.not_true, Bool.not_false, decide_true, decide_false, hi, l0, one, opRep, r1, r2, zipP_map, lp]
theorem s_mixed_row (p : Int) (w : Nat) (rows : List (List Int)) (fs : List Int) (hp : p ∈ known) (h : Rows p w rows) (hf : Nums p fs) (h1 : 1 ≤ rows.length) (h2 : rows.length ≤ 64) (w1 : 1 ≤ w) (w2 : w ≤ 16) (hl : fs.length = rows.length) :
    m_mixed_row [some (.int p), some (tT rows), some (tI fs)] = some (tI (mixf p (rows.zip fs) (List.replicate w 0)), [none, none, none]) := by
  have hb := known_b hp
  simp -implicitDefEqProofs only [m_mixed_row, b_mixed_row, semDef_ap, sSeq_ap, sSet_ap, sRet_ap, sIf_ap, sExpr_ap, sNil_ap, sNever_ap, sAug_ap, sPar_ap, sAsgT_ap, sStore_ap, sAugStore_ap, sFor_ap, sForO_ap, sWhile_ap, turn_ap, gNm_ap, gsNil_ap, gsCons_ap, gTp_ap, eVar_ap, eMove_ap, eC_ap, eBin_ap, eUn_ap, tOf_ap, tvAnd_ap, tvOr_ap, tvNot_ap, eAnd_ap, eOr_ap, eNot_ap, eIf_ap, eChain_ap, aNil_ap, aCons_ap, aStar_ap, eTup_ap, eLst_ap, eCall_ap, eCallL_ap, lNil_ap, lSh_ap, lLe_ap, lstAt_ap, eOwn2_ap, eSl_ap, pNo_ap, pSome_ap, eLstRg1_ap, eTupRg1_ap, eApp_ap, eExtend_ap, iOf_ap, iEnum_ap, iZip2_ap, iRng1_ap, eLc_ap, keep_nil, keep_zero, opI, opIc, opB, opAdd, opLen, opNeg, opMax, opMin, opAbs, opInt, opIx, opIsNotN, opIsN, isNon, opTuple, opList, opRev, opSl, opSlL, isi_int, isi_boolint, isi_tuple, items?, opEq_int, opNe_int, setAll, forgetAll, wipeE, backE, lentAt, fill, List.cons_append, List.nil_append, List.append_nil, List.replicate_succ, List.replicate_zero, List.getElem?_cons_zero, List.getElem?_cons_succ, List.set_cons_zero, List.set_cons_succ, List.map_cons, List.map_nil, List.length_cons, List.length_nil, List.length_map, List.length_replicate, List.all_nil, List.all_cons, Option.isSome, Option.bind_some, Option.map_some, Option.getD_some, Option.bind_none, Option.map_none, Nat.reduceAdd, Nat.zero_add, beq_self_eq_true, Bool.and_true, Bool.true_and, Bool.false_eq_true, reduceIte, reduceCtorEq, if_true, if_false, Bool.not_true, Bool.not_false, decide_true, decide_false, s_require_prime p hp, s_require_coded_rows p w rows h h1 h2 w1 w2, s_require_factors p fs rows.length hf hl (by omega), s_mixed_row_in p w rows fs (by omega) (by omega) h hf h1 h2 (by omega) hl]
/-! ### agreeing places -/
def dot (p : Int) (fs col : List Int) : Int := ((fs.zip col).map fun q => q.1 * q.2).sum % p
theorem s_mixed_column (p : Int) (col fs : List Int) (hp : 0 < p) (hp2 : p < 1000000) (hf : Nums p fs) (hc : col.length ≤ 1000) : m_mixed_column [some (.int p), some (tI col), some (tI fs)] = some (.int (dot p fs col), [none, none, none]) := by
  have hpd : decide (0 < p) = true := decide_eq_true hp
  have lc : lcL (gTp 2 (gsCons (gNm 3) (gsCons (gNm 4) gsNil))) tYes' (eBin opMul (eVar 3) (eVar 4)) [3, 4] ((fs.zip col).map fun q : Int × Int => PV.tup [.int q.1, .int q.2]) [some (.int p), some (tI col), some (tI fs), none, none]
      = some ((fs.zip col).map fun q : Int × Int => .int (q.1 * q.2), [some (.int p), some (tI col), some (tI fs), none, none]) :=
    lcL_map fun q hq => ⟨[some (.int p), some (tI col), some (tI fs), some (.int q.1), some (.int q.2)], [some (.int p), some (tI col), some (tI fs), some (.int q.1), some (.int q.2)], by simp -implicitDefEqProofs only [semDef_ap, sSeq_ap, sSet_ap, sRet_ap, sIf_ap, sExpr_ap, sNil_ap, sNever_ap, sAug_ap, sPar_ap, sAsgT_ap, sStore_ap, sAugStore_ap, sFor_ap, sForO_ap, sWhile_ap, turn_ap, gNm_ap, gsNil_ap, gsCons_ap, gTp_ap, eVar_ap, eMove_ap, eC_ap, eBin_ap, eUn_ap, tOf_ap, tvAnd_ap, tvOr_ap, tvNot_ap, eAnd_ap, eOr_ap, eNot_ap, eIf_ap, eChain_ap, aNil_ap, aCons_ap, aStar_ap, eTup_ap, eLst_ap, eCall_ap, eCallL_ap, lNil_ap, lSh_ap, lLe_ap, lstAt_ap, eOwn2_ap, eSl_ap, pNo_ap, pSome_ap, eLstRg1_ap, eTupRg1_ap, eApp_ap, eExtend_ap, iOf_ap, iEnum_ap, iZip2_ap, iRng1_ap, eLc_ap, keep_nil, keep_zero, opI, opIc, opB, opAdd, opLen, opNeg, opMax, opMin, opAbs, opInt, opIx, opIsNotN, opIsN, isNon, opTuple, opList, opRev, opSl, opSlL, isi_int, isi_boolint, isi_tuple, items?, opEq_int, opNe_int, setAll, forgetAll, wipeE, backE, lentAt, fill, List.cons_append, List.nil_append, List.append_nil, List.replicate_succ, List.replicate_zero, List.getElem?_cons_zero, List.getElem?_cons_succ, List.set_cons_zero, List.set_cons_succ, List.map_cons, List.map_nil, List.length_cons, List.length_nil, List.length_map, List.length_replicate, List.all_nil, List.all_cons, Option.isSome, Option.bind_some, Option.map_some, Option.getD_some, Option.bind_none, Option.map_none, Nat.reduceAdd, Nat.zero_add, beq_self_eq_true, Bool.and_true, Bool.true_and, Bool.false_eq_true, reduceIte, reduceCtorEq, if_true, if_false, Bool.not_true, Bool.not_false, decide_true, decide_false],
      by
        have := hf q.1 (List.of_mem_zip hq).1
        simp -implicitDefEqProofs only [semDef_ap, sSeq_ap, sSet_ap, sRet_ap, sIf_ap, sExpr_ap, sNil_ap, sNever_ap, sAug_ap, sPar_ap, sAsgT_ap, sStore_ap, sAugStore_ap, sFor_ap, sForO_ap, sWhile_ap, turn_ap, gNm_ap, gsNil_ap, gsCons_ap, gTp_ap, eVar_ap, eMove_ap, eC_ap, eBin_ap, eUn_ap, tOf_ap, tvAnd_ap, tvOr_ap, tvNot_ap, eAnd_ap, eOr_ap, eNot_ap, eIf_ap, eChain_ap, aNil_ap, aCons_ap, aStar_ap, eTup_ap, eLst_ap, eCall_ap, eCallL_ap, lNil_ap, lSh_ap, lLe_ap, lstAt_ap, eOwn2_ap, eSl_ap, pNo_ap, pSome_ap, eLstRg1_ap, eTupRg1_ap, eApp_ap, eExtend_ap, iOf_ap, iEnum_ap, iZip2_ap, iRng1_ap, eLc_ap, keep_nil, keep_zero, opI, opIc, opB, opAdd, opLen, opNeg, opMax, opMin, opAbs, opInt, opIx, opIsNotN, opIsN, isNon, opTuple, opList, opRev, opSl, opSlL, isi_int, isi_boolint, isi_tuple, items?, opEq_int, opNe_int, setAll, forgetAll, wipeE, backE, lentAt, fill, List.cons_append, List.nil_append, List.append_nil, List.replicate_succ, List.replicate_zero, List.getElem?_cons_zero, List.getElem?_cons_succ, List.set_cons_zero, List.set_cons_succ, List.map_cons, List.map_nil, List.length_cons, List.length_nil, List.length_map, List.length_replicate, List.all_nil, List.all_cons, Option.isSome, Option.bind_some, Option.map_some, Option.getD_some, Option.bind_none, Option.map_none, Nat.reduceAdd, Nat.zero_add, beq_self_eq_true, Bool.and_true, Bool.true_and, Bool.false_eq_true, reduceIte, reduceCtorEq, if_true, if_false, Bool.not_true, Bool.not_false, decide_true, decide_false, mulOk_left (i := q.1) (j := q.2) (by omega) (by omega)], by simp -implicitDefEqProofs only [semDef_ap, sSeq_ap, sSet_ap, sRet_ap, sIf_ap, sExpr_ap, sNil_ap, sNever_ap, sAug_ap, sPar_ap, sAsgT_ap, sStore_ap, sAugStore_ap, sFor_ap, sForO_ap, sWhile_ap, turn_ap, gNm_ap, gsNil_ap, gsCons_ap, gTp_ap, eVar_ap, eMove_ap, eC_ap, eBin_ap, eUn_ap, tOf_ap, tvAnd_ap, tvOr_ap, tvNot_ap, eAnd_ap, eOr_ap, eNot_ap, eIf_ap, eChain_ap, aNil_ap, aCons_ap, aStar_ap, eTup_ap, eLst_ap, eCall_ap, eCallL_ap, lNil_ap, lSh_ap, lLe_ap, lstAt_ap, eOwn2_ap, eSl_ap, pNo_ap, pSome_ap, eLstRg1_ap, eTupRg1_ap, eApp_ap, eExtend_ap, iOf_ap, iEnum_ap, iZip2_ap, iRng1_ap, eLc_ap, keep_nil, keep_zero, opI, opIc, opB, opAdd, opLen, opNeg, opMax, opMin, opAbs, opInt, opIx, opIsNotN, opIsN, isNon, opTuple, opList, opRev, opSl, opSlL, isi_int, isi_boolint, isi_tuple, items?, opEq_int, opNe_int, setAll, forgetAll, wipeE, backE, lentAt, fill, List.cons_append, List.nil_append, List.append_nil, List.replicate_succ, List.replicate_zero, List.getElem?_cons_zero, List.getElem?_cons_succ, List.set_cons_zero, List.set_cons_succ, List.map_cons, List.map_nil, List.length_cons, List.length_nil, List.length_map, List.length_replicate, List.all_nil, List.all_cons, Option.isSome, Option.bind_some, Option.map_some, Option.getD_some, Option.bind_none, Option.map_none, Nat.reduceAdd, Nat.zero_add, beq_self_eq_true, Bool.and_true, Bool.true_and, Bool.false_eq_true, reduceIte, reduceCtorEq, if_true, if_false, Bool.not_true, Bool.not_false, decide_true, decide_false]⟩
  have em : ((fs.zip col).map fun q : Int × Int => PV.int (q.1 * q.2)) = ((fs.zip col).map fun q => q.1 * q.2).map .int := by rw [List.map_map]; rfl
  simp -implicitDefEqProofs only [m_mixed_column, b_mixed_column, semDef_ap, sSeq_ap, sSet_ap, sRet_ap, sIf_ap, sExpr_ap, sNil_ap, sNever_ap, sAug_ap, sPar_ap, sAsgT_ap, sStore_ap, sAugStore_ap, sFor_ap, sForO_ap, sWhile_ap, turn_ap, gNm_ap, gsNil_ap, gsCons_ap, gTp_ap, eVar_ap, eMove_ap, eC_ap, eBin_ap, eUn_ap, tOf_ap, tvAnd_ap, tvOr_ap, tvNot_ap, eAnd_ap, eOr_ap, eNot_ap, eIf_ap, eChain_ap, aNil_ap, aCons_ap, aStar_ap, eTup_ap, eLst_ap, eCall_ap, eCallL_ap, lNil_ap, lSh_ap, lLe_ap, lstAt_ap, eOwn2_ap, eSl_ap, pNo_ap, pSome_ap, eLstRg1_ap, eTupRg1_ap, eApp_ap, eExtend_ap, iOf_ap, iEnum_ap, iZip2_ap, iRng1_ap, eLc_ap, keep_nil, keep_zero, opI, opIc, opB, opAdd, opLen, opNeg, opMax, opMin, opAbs, opInt, opIx, opIsNotN, opIsN, isNon, opTuple, opList, opRev, opSl, opSlL, isi_int, isi_boolint, isi_tuple, items?, opEq_int, opNe_int, setAll, forgetAll, wipeE, backE, lentAt, fill, List.cons_append, List.nil_append, List.append_nil, List.replicate_succ, List.replicate_zero, List.getElem?_cons_zero, List.getElem?_cons_succ, List.set_cons_zero, List.set_cons_succ, List.map_cons, List.map_nil, List.length_cons, List.length_nil, List.length_map, List.length_replicate, List.all_nil, List.all_cons, Option.isSome, Option.bind_some, Option.map_some, Option.getD_some, Option.bind_none, Option.map_none, Nat.reduceAdd, Nat.zero_add, beq_self_eq_true, Bool.and_true, Bool.true_and, Bool.false_eq_true, reduceIte, reduceCtorEq, if_true, if_false, Bool.not_true, Bool.not_false, decide_true, decide_false, zipP_map, List.length_zip, fits_of (show min fs.length col.length ≤ 16777216 by omega), lc, em, opSum_ints, hpd, dot]
def agree (p : Int) (cs : List (List Int)) (fs row : List Int) : List Int := ((cs.zipIdx).filter fun q => decide (dot p fs q.1 = worth p row q.2)).map fun q => ((q.2 : Nat) : Int)
theorem s_agreeing_in (p : Int) (cs : List (List Int)) (fs row : List Int) (hp : 0 < p) (hp2 : p < 1000000) (hf : Nums p fs) (h1 : cs.length ≤ 64) (h2 : ∀ c ∈ cs, c.length ≤ 1000) : m_agreeing_in [some (.int p), some (tT cs), some (tI fs), some (tI row)] = some (tI (agree p cs fs row), [none, none, none, none]) := by
  have lc : lcL (gTp 2 (gsCons (gNm 5) (gsCons (gNm 6) gsNil))) (tOf (eBin opEq (eCall 3 m_mixed_column (aCons (eVar 0) (aCons (eVar 6) (aCons (eVar 2) aNil)))) (eBin opIx (eVar 4) (eVar 5)))) (eVar 5) [5, 6] (cs.zipIdx.map fun q => PV.tup [.int ((q.2 : Nat) : Int), tI q.1]) [some (.int p), some (tT cs), some (tI fs), some (tI row), some (tI (code p row cs.length)), none, none]
      = some ((cs.zipIdx.filter fun q => decide (dot p fs q.1 = worth p row q.2)).map fun q => .int ((q.2 : Nat) : Int), [some (.int p), some (tT cs), some (tI fs), some (tI row), some (tI (code p row cs.length)), none, none]) :=
    lcL_filter fun q hq => by
      have hm := List.mem_zipIdx hq
      have hlt : q.2 < cs.length := by omega
      have hx : q.1 ∈ cs := by rw [hm.2.2]; exact List.getElem_mem _
      have hix : L2.atI ((code p row cs.length).map PV.int) ((q.2 : Nat) : Int) = some (.int (worth p row q.2)) := atI_nat (by rw [List.getElem?_map, code_get hlt]; rfl)
      refine ⟨[some (.int p), some (tT cs), some (tI fs), some (tI row), some (tI (code p row cs.length)), some (.int ((q.2 : Nat) : Int)), some (tI q.1)], [some (.int p), some (tT cs), some (tI fs), some (tI row), some (tI (code p row cs.length)), some (.int ((q.2 : Nat) : Int)), some (tI q.1)], by simp -implicitDefEqProofs only [semDef_ap, sSeq_ap, sSet_ap, sRet_ap, sIf_ap, sExpr_ap, sNil_ap, sNever_ap, sAug_ap, sPar_ap, sAsgT_ap, sStore_ap, sAugStore_ap, sFor_ap, sForO_ap, sWhile_ap, turn_ap, gNm_ap, gsNil_ap, gsCons_ap, gTp_ap, eVar_ap, eMove_ap, eC_ap, eBin_ap, eUn_ap, tOf_ap, tvAnd_ap, tvOr_ap, tvNot_ap, eAnd_ap, eOr_ap, eNot_ap, eIf_ap, eChain_ap, aNil_ap, aCons_ap, aStar_ap, eTup_ap, eLst_ap, eCall_ap, eCallL_ap, lNil_ap, lSh_ap, lLe_ap, lstAt_ap, eOwn2_ap, eSl_ap, pNo_ap, pSome_ap, eLstRg1_ap, eTupRg1_ap, eApp_ap, eExtend_ap, iOf_ap, iEnum_ap, iZip2_ap, iRng1_ap, eLc_ap, keep_nil, keep_zero, opI, opIc, opB, opAdd, opLen, opNeg, opMax, opMin, opAbs, opInt, opIx, opIsNotN, opIsN, isNon, opTuple, opList, opRev, opSl, opSlL, isi_int, isi_boolint, isi_tuple, items?, opEq_int, opNe_int, setAll, forgetAll, wipeE, backE, lentAt, fill, List.cons_append, List.nil_append, List.append_nil, List.replicate_succ, List.replicate_zero, List.getElem?_cons_zero, List.getElem?_cons_succ, List.set_cons_zero, List.set_cons_succ, List.map_cons, List.map_nil, List.length_cons, List.length_nil, List.length_map, List.length_replicate, List.all_nil, List.all_cons, Option.isSome, Option.bind_some, Option.map_some, Option.getD_some, Option.bind_none, Option.map_none, Nat.reduceAdd, Nat.zero_add, beq_self_eq_true, Bool.and_true, Bool.true_and, Bool.false_eq_true, reduceIte, reduceCtorEq, if_true, if_false, Bool.not_true, Bool.not_false, decide_true, decide_false], ?_, fun _ => ⟨[some (.int p), some (tT cs), some (tI fs), some (tI row), some (tI (code p row cs.length)), some (.int ((q.2 : Nat) : Int)), some (tI q.1)], by simp -implicitDefEqProofs only [semDef_ap, sSeq_ap, sSet_ap, sRet_ap, sIf_ap, sExpr_ap, sNil_ap, sNever_ap, sAug_ap, sPar_ap, sAsgT_ap, sStore_ap, sAugStore_ap, sFor_ap, sForO_ap, sWhile_ap, turn_ap, gNm_ap, gsNil_ap, gsCons_ap, gTp_ap, eVar_ap, eMove_ap, eC_ap, eBin_ap, eUn_ap, tOf_ap, tvAnd_ap, tvOr_ap, tvNot_ap, eAnd_ap, eOr_ap, eNot_ap, eIf_ap, eChain_ap, aNil_ap, aCons_ap, aStar_ap, eTup_ap, eLst_ap, eCall_ap, eCallL_ap, lNil_ap, lSh_ap, lLe_ap, lstAt_ap, eOwn2_ap, eSl_ap, pNo_ap, pSome_ap, eLstRg1_ap, eTupRg1_ap, eApp_ap, eExtend_ap, iOf_ap, iEnum_ap, iZip2_ap, iRng1_ap, eLc_ap, keep_nil, keep_zero, opI, opIc, opB, opAdd, opLen, opNeg, opMax, opMin, opAbs, opInt, opIx, opIsNotN, opIsN, isNon, opTuple, opList, opRev, opSl, opSlL, isi_int, isi_boolint, isi_tuple, items?, opEq_int, opNe_int, setAll, forgetAll, wipeE, backE, lentAt, fill, List.cons_append, List.nil_append, List.append_nil, List.replicate_succ, List.replicate_zero, List.getElem?_cons_zero, List.getElem?_cons_succ, List.set_cons_zero, List.set_cons_succ, List.map_cons, List.map_nil, List.length_cons, List.length_nil, List.length_map, List.length_replicate, List.all_nil, List.all_cons, Option.isSome, Option.bind_some, Option.map_some, Option.getD_some, Option.bind_none, Option.map_none, Nat.reduceAdd, Nat.zero_add, beq_self_eq_true, Bool.and_true, Bool.true_and, Bool.false_eq_true, reduceIte, reduceCtorEq, if_true, if_false, Bool.not_true, Bool.not_false, decide_true, decide_false], by simp -implicitDefEqProofs only [semDef_ap, sSeq_ap, sSet_ap, sRet_ap, sIf_ap, sExpr_ap, sNil_ap, sNever_ap, sAug_ap, sPar_ap, sAsgT_ap, sStore_ap, sAugStore_ap, sFor_ap, sForO_ap, sWhile_ap, turn_ap, gNm_ap, gsNil_ap, gsCons_ap, gTp_ap, eVar_ap, eMove_ap, eC_ap, eBin_ap, eUn_ap, tOf_ap, tvAnd_ap, tvOr_ap, tvNot_ap, eAnd_ap, eOr_ap, eNot_ap, eIf_ap, eChain_ap, aNil_ap, aCons_ap, aStar_ap, eTup_ap, eLst_ap, eCall_ap, eCallL_ap, lNil_ap, lSh_ap, lLe_ap, lstAt_ap, eOwn2_ap, eSl_ap, pNo_ap, pSome_ap, eLstRg1_ap, eTupRg1_ap, eApp_ap, eExtend_ap, iOf_ap, iEnum_ap, iZip2_ap, iRng1_ap, eLc_ap, keep_nil, keep_zero, opI, opIc, opB, opAdd, opLen, opNeg, opMax, opMin, opAbs, opInt, opIx, opIsNotN, opIsN, isNon, opTuple, opList, opRev, opSl, opSlL, isi_int, isi_boolint, isi_tuple, items?, opEq_int, opNe_int, setAll, forgetAll, wipeE, backE, lentAt, fill, List.cons_append, List.nil_append, List.append_nil, List.replicate_succ, List.replicate_zero, List.getElem?_cons_zero, List.getElem?_cons_succ, List.set_cons_zero, List.set_cons_succ, List.map_cons, List.map_nil, List.length_cons, List.length_nil, List.length_map, List.length_replicate, List.all_nil, List.all_cons, Option.isSome, Option.bind_some, Option.map_some, Option.getD_some, Option.bind_none, Option.map_none, Nat.reduceAdd, Nat.zero_add, beq_self_eq_true, Bool.and_true, Bool.true_and, Bool.false_eq_true, reduceIte, reduceCtorEq, if_true, if_false, Bool.not_true, Bool.not_false, decide_true, decide_false]⟩, fun _ => by simp -implicitDefEqProofs only [semDef_ap, sSeq_ap, sSet_ap, sRet_ap, sIf_ap, sExpr_ap, sNil_ap, sNever_ap, sAug_ap, sPar_ap, sAsgT_ap, sStore_ap, sAugStore_ap, sFor_ap, sForO_ap, sWhile_ap, turn_ap, gNm_ap, gsNil_ap, gsCons_ap, gTp_ap, eVar_ap, eMove_ap, eC_ap, eBin_ap, eUn_ap, tOf_ap, tvAnd_ap, tvOr_ap, tvNot_ap, eAnd_ap, eOr_ap, eNot_ap, eIf_ap, eChain_ap, aNil_ap, aCons_ap, aStar_ap, eTup_ap, eLst_ap, eCall_ap, eCallL_ap, lNil_ap, lSh_ap, lLe_ap, lstAt_ap, eOwn2_ap, eSl_ap, pNo_ap, pSome_ap, eLstRg1_ap, eTupRg1_ap, eApp_ap, eExtend_ap, iOf_ap, iEnum_ap, iZip2_ap, iRng1_ap, eLc_ap, keep_nil, keep_zero, opI, opIc, opB, opAdd, opLen, opNeg, opMax, opMin, opAbs, opInt, opIx, opIsNotN, opIsN, isNon, opTuple, opList, opRev, opSl, opSlL, isi_int, isi_boolint, isi_tuple, items?, opEq_int, opNe_int, setAll, forgetAll, wipeE, backE, lentAt, fill, List.cons_append, List.nil_append, List.append_nil, List.replicate_succ, List.replicate_zero, List.getElem?_cons_zero, List.getElem?_cons_succ, List.set_cons_zero, List.set_cons_succ, List.map_cons, List.map_nil, List.length_cons, List.length_nil, List.length_map, List.length_replicate, List.all_nil, List.all_cons, Option.isSome, Option.bind_some, Option.map_some, Option.getD_some, Option.bind_none, Option.map_none, Nat.reduceAdd, Nat.zero_add, beq_self_eq_true, Bool.and_true, Bool.true_and, Bool.false_eq_true, reduceIte, reduceCtorEq, if_true, if_false, Bool.not_true, Bool.not_false, decide_true, decide_false]⟩
      simp -implicitDefEqProofs only [semDef_ap, sSeq_ap, sSet_ap, sRet_ap, sIf_ap, sExpr_ap, sNil_ap, sNever_ap, sAug_ap, sPar_ap, sAsgT_ap, sStore_ap, sAugStore_ap, sFor_ap, sForO_ap, sWhile_ap, turn_ap, gNm_ap, gsNil_ap, gsCons_ap, gTp_ap, eVar_ap, eMove_ap, eC_ap, eBin_ap, eUn_ap, tOf_ap, tvAnd_ap, tvOr_ap, tvNot_ap, eAnd_ap, eOr_ap, eNot_ap, eIf_ap, eChain_ap, aNil_ap, aCons_ap, aStar_ap, eTup_ap, eLst_ap, eCall_ap, eCallL_ap, lNil_ap, lSh_ap, lLe_ap, lstAt_ap, eOwn2_ap, eSl_ap, pNo_ap, pSome_ap, eLstRg1_ap, eTupRg1_ap, eApp_ap, eExtend_ap, iOf_ap, iEnum_ap, iZip2_ap, iRng1_ap, eLc_ap, keep_nil, keep_zero, opI, opIc, opB, opAdd, opLen, opNeg, opMax, opMin, opAbs, opInt, opIx, opIsNotN, opIsN, isNon, opTuple, opList, opRev, opSl, opSlL, isi_int, isi_boolint, isi_tuple, items?, opEq_int, opNe_int, setAll, forgetAll, wipeE, backE, lentAt, fill, List.cons_append, List.nil_append, List.append_nil, List.replicate_succ, List.replicate_zero, List.getElem?_cons_zero, List.getElem?_cons_succ, List.set_cons_zero, List.set_cons_succ, List.map_cons, List.map_nil, List.length_cons, List.length_nil, List.length_map, List.length_replicate, List.all_nil, List.all_cons, Option.isSome, Option.bind_some, Option.map_some, Option.getD_some, Option.bind_none, Option.map_none, Nat.reduceAdd, Nat.zero_add, beq_self_eq_true, Bool.and_true, Bool.true_and, Bool.false_eq_true, reduceIte, reduceCtorEq, if_true, if_false, Bool.not_true, Bool.not_false, decide_true, decide_false, s_mixed_column p q.1 fs hp hp2 hf (h2 _ hx), hix]
  have em : ((cs.zipIdx.filter fun q => decide (dot p fs q.1 = worth p row q.2)).map fun q => PV.int ((q.2 : Nat) : Int)) = (agree p cs fs row).map .int := by
    unfold agree
    rw [List.map_map]
    rfl
  simp -implicitDefEqProofs only [m_agreeing_in, b_agreeing_in, semDef_ap, sSeq_ap, sSet_ap, sRet_ap, sIf_ap, sExpr_ap, sNil_ap, sNever_ap, sAug_ap, sPar_ap, sAsgT_ap, sStore_ap, sAugStore_ap, sFor_ap, sForO_ap, sWhile_ap, turn_ap, gNm_ap, gsNil_ap, gsCons_ap, gTp_ap, eVar_ap, eMove_ap, eC_ap, eBin_ap, eUn_ap, tOf_ap, tvAnd_ap, tvOr_ap, tvNot_ap, eAnd_ap, eOr_ap, eNot_ap, eIf_ap, eChain_ap, aNil_ap, aCons_ap, aStar_ap, eTup_ap, eLst_ap, eCall_ap, eCallL_ap, lNil_ap, lSh_ap, lLe_ap, lstAt_ap, eOwn2_ap, eSl_ap, pNo_ap, pSome_ap, eLstRg1_ap, eTupRg1_ap, eApp_ap, eExtend_ap, iOf_ap, iEnum_ap, iZip2_ap, iRng1_ap, eLc_ap, keep_nil, keep_zero, opI, opIc, opB, opAdd, opLen, opNeg, opMax, opMin, opAbs, opInt, opIx, opIsNotN, opIsN, isNon, opTuple, opList, opRev, opSl, opSlL, isi_int, isi_boolint, isi_tuple, items?, opEq_int, opNe_int, setAll, forgetAll, wipeE, backE, lentAt, fill, List.cons_append, List.nil_append, List.append_nil, List.replicate_succ, List.replicate_zero, List.getElem?_cons_zero, List.getElem?_cons_succ, List.set_cons_zero, List.set_cons_succ, List.map_cons, List.map_nil, List.length_cons, List.length_nil, List.length_map, List.length_replicate, List.all_nil, List.all_cons, Option.isSome, Option.bind_some, Option.map_some, Option.getD_some, Option.bind_none, Option.map_none, Nat.reduceAdd, Nat.zero_add, beq_self_eq_true, Bool.and_true, Bool.true_and, Bool.false_eq_true, reduceIte, reduceCtorEq, if_true, if_false, Bool.not_true, Bool.not_false, decide_true, decide_false, s_coded_row_in p row cs.length hp (by omega), enumP_map, List.length_zipIdx, fits_of (show cs.length ≤ 16777216 by omega), lc, em]
theorem s_are_told_columns (p : Int) (m : Nat) (cs : List (List Int)) (h : Rows p m cs) (h1 : 1 ≤ cs.length) (h2 : cs.length ≤ 64) (h3 : (cs.length : Int) ≤ p) (m1 : 1 ≤ m) (m2 : m ≤ 64) : m_are_told_columns [some (.int p), some (tT cs)] = some (.bl true, [none, none]) := by
  have c1 : decide ((1 : Int) ≤ (cs.length : Int)) = true := decide_eq_true (by omega)
  have c2 : decide ((cs.length : Int) ≤ (if (64 : Int) < p then 64 else p)) = true := decide_eq_true (by split <;> omega)
  have c3 : decide ((1 : Int) ≤ (m : Int)) = true := decide_eq_true (by omega)
  have c4 : decide ((m : Int) ≤ 64) = true := decide_eq_true (by omega)
  have lc1 : lcL (gNm 2) tYes' (eAnd (eCall 2 m_are_numbers (aCons (eVar 0) (aCons (eVar 2) aNil))) (eChain opLe opLe (eC (.int 1)) (eUn opLen (eVar 2)) (eC k_MOST_CODED_ROWS))) [2] (cs.map tI) [some (.int p), some (tT cs), none] = some (cs.map fun _ => .bl true, [some (.int p), some (tT cs), none]) :=
    lcL_map fun r hr => ⟨[some (.int p), some (tT cs), some (tI r)], [some (.int p), some (tT cs), some (tI r)], rfl, by
      have hl := h.len r hr
      simp -implicitDefEqProofs only [semDef_ap, sSeq_ap, sSet_ap, sRet_ap, sIf_ap, sExpr_ap, sNil_ap, sNever_ap, sAug_ap, sPar_ap, sAsgT_ap, sStore_ap, sAugStore_ap, sFor_ap, sForO_ap, sWhile_ap, turn_ap, gNm_ap, gsNil_ap, gsCons_ap, gTp_ap, eVar_ap, eMove_ap, eC_ap, eBin_ap, eUn_ap, tOf_ap, tvAnd_ap, tvOr_ap, tvNot_ap, eAnd_ap, eOr_ap, eNot_ap, eIf_ap, eChain_ap, aNil_ap, aCons_ap, aStar_ap, eTup_ap, eLst_ap, eCall_ap, eCallL_ap, lNil_ap, lSh_ap, lLe_ap, lstAt_ap, eOwn2_ap, eSl_ap, pNo_ap, pSome_ap, eLstRg1_ap, eTupRg1_ap, eApp_ap, eExtend_ap, iOf_ap, iEnum_ap, iZip2_ap, iRng1_ap, eLc_ap, keep_nil, keep_zero, opI, opIc, opB, opAdd, opLen, opNeg, opMax, opMin, opAbs, opInt, opIx, opIsNotN, opIsN, isNon, opTuple, opList, opRev, opSl, opSlL, isi_int, isi_boolint, isi_tuple, items?, opEq_int, opNe_int, setAll, forgetAll, wipeE, backE, lentAt, fill, List.cons_append, List.nil_append, List.append_nil, List.replicate_succ, List.replicate_zero, List.getElem?_cons_zero, List.getElem?_cons_succ, List.set_cons_zero, List.set_cons_succ, List.map_cons, List.map_nil, List.length_cons, List.length_nil, List.length_map, List.length_replicate, List.all_nil, List.all_cons, Option.isSome, Option.bind_some, Option.map_some, Option.getD_some, Option.bind_none, Option.map_none, Nat.reduceAdd, Nat.zero_add, beq_self_eq_true, Bool.and_true, Bool.true_and, Bool.false_eq_true, reduceIte, reduceCtorEq, if_true, if_false, Bool.not_true, Bool.not_false, decide_true, decide_false, s_are_numbers p r (by omega), decide_eq_true (h.nums r hr), hl, c3, c4], rfl⟩
  have hi : L2.atI (cs.map tI) 0 = some (tI cs[0]) := by
    rw [atI_zero (by rw [List.length_map]; exact h1)]
    simp
  have l0 : cs[0].length = m := h.len _ (List.getElem_mem _)
  have lc2 : lcL (gNm 2) tYes' (eBin opEq (eUn opLen (eVar 2)) (eUn opLen (eBin opIx (eVar 1) (eC (.int 0))))) [2] (cs.map tI) [some (.int p), some (tT cs), none] = some (cs.map fun _ => .bl true, [some (.int p), some (tT cs), none]) :=
    lcL_map fun r hr => ⟨[some (.int p), some (tT cs), some (tI r)], [some (.int p), some (tT cs), some (tI r)], rfl, by simp -implicitDefEqProofs only [semDef_ap, sSeq_ap, sSet_ap, sRet_ap, sIf_ap, sExpr_ap, sNil_ap, sNever_ap, sAug_ap, sPar_ap, sAsgT_ap, sStore_ap, sAugStore_ap, sFor_ap, sForO_ap, sWhile_ap, turn_ap, gNm_ap, gsNil_ap, gsCons_ap, gTp_ap, eVar_ap, eMove_ap, eC_ap, eBin_ap, eUn_ap, tOf_ap, tvAnd_ap, tvOr_ap, tvNot_ap, eAnd_ap, eOr_ap, eNot_ap, eIf_ap, eChain_ap, aNil_ap, aCons_ap, aStar_ap, eTup_ap, eLst_ap, eCall_ap, eCallL_ap, lNil_ap, lSh_ap, lLe_ap, lstAt_ap, eOwn2_ap, eSl_ap, pNo_ap, pSome_ap, eLstRg1_ap, eTupRg1_ap, eApp_ap, eExtend_ap, iOf_ap, iEnum_ap, iZip2_ap, iRng1_ap, eLc_ap, keep_nil, keep_zero, opI, opIc, opB, opAdd, opLen, opNeg, opMax, opMin, opAbs, opInt, opIx, opIsNotN, opIsN, isNon, opTuple, opList, opRev, opSl, opSlL, isi_int, isi_boolint, isi_tuple, items?, opEq_int, opNe_int, setAll, forgetAll, wipeE, backE, lentAt, fill, List.cons_append, List.nil_append, List.append_nil, List.replicate_succ, List.replicate_zero, List.getElem?_cons_zero, List.getElem?_cons_succ, List.set_cons_zero, List.set_cons_succ, List.map_cons, List.map_nil, List.length_cons, List.length_nil, List.length_map, List.length_replicate, List.all_nil, List.all_cons, Option.isSome, Option.bind_some, Option.map_some, Option.getD_some, Option.bind_none, Option.map_none, Nat.reduceAdd, Nat.zero_add, beq_self_eq_true, Bool.and_true, Bool.true_and, Bool.false_eq_true, reduceIte, reduceCtorEq, if_true, if_false, Bool.not_true, Bool.not_false, decide_true, decide_false, hi, h.len r hr, l0, decide_true], rfl⟩
  simp -implicitDefEqProofs only [m_are_told_columns, b_are_told_columns, semDef_ap, sSeq_ap, sSet_ap, sRet_ap, sIf_ap, sExpr_ap, sNil_ap, sNever_ap, sAug_ap, sPar_ap, sAsgT_ap, sStore_ap, sAugStore_ap, sFor_ap, sForO_ap, sWhile_ap, turn_ap, gNm_ap, gsNil_ap, gsCons_ap, gTp_ap, eVar_ap, eMove_ap, eC_ap, eBin_ap, eUn_ap, tOf_ap, tvAnd_ap, tvOr_ap, tvNot_ap, eAnd_ap, eOr_ap, eNot_ap, eIf_ap, eChain_ap, aNil_ap, aCons_ap, aStar_ap, eTup_ap, eLst_ap, eCall_ap, eCallL_ap, lNil_ap, lSh_ap, lLe_ap, lstAt_ap, eOwn2_ap, eSl_ap, pNo_ap, pSome_ap, eLstRg1_ap, eTupRg1_ap, eApp_ap, eExtend_ap, iOf_ap, iEnum_ap, iZip2_ap, iRng1_ap, eLc_ap, keep_nil, keep_zero, opI, opIc, opB, opAdd, opLen, opNeg, opMax, opMin, opAbs, opInt, opIx, opIsNotN, opIsN, isNon, opTuple, opList, opRev, opSl, opSlL, isi_int, isi_boolint, isi_tuple, items?, opEq_int, opNe_int, setAll, forgetAll, wipeE, backE, lentAt, fill, List.cons_append, List.nil_append, List.append_nil, List.replicate_succ, List.replicate_zero, List.getElem?_cons_zero, List.getElem?_cons_succ, List.set_cons_zero, List.set_cons_succ, List.map_cons, List.map_nil, List.length_cons, List.length_nil, List.length_map, List.length_replicate, List.all_nil, List.all_cons, Option.isSome, Option.bind_some, Option.map_some, Option.getD_some, Option.bind_none, Option.map_none, Nat.reduceAdd, Nat.zero_add, beq_self_eq_true, Bool.and_true, Bool.true_and, Bool.false_eq_true, reduceIte, reduceCtorEq, if_true, if_false, Bool.not_true, Bool.not_false, decide_true, decide_false, c1, c2, lc1, lc2, fits_of (show cs.length ≤ 16777216 by omega), opAll_map, all_true]
theorem s_agreeing_places (p : Int) (m : Nat) (cs : List (List Int)) (fs row : List Int) (hp : p ∈ known) (h : Rows p m cs) (hf : Nums p fs) (hr : Nums p row) (h1 : 1 ≤ cs.length) (h2 : cs.length ≤ 64) (h3 : (cs.length : Int) ≤ p) (m1 : 1 ≤ m) (m2 : m ≤ 64) (hl : fs.length = m) (r1 : 1 ≤ row.length) (r2 : row.length ≤ 16) (r3 : row.length ≤ cs.length) :
    m_agreeing_places [some (.int p), some (tT cs), some (tI fs), some (tI row)] = some (tI (agree p cs fs row), [none, none, none, none]) := by
  have hb := known_b hp
  have hi : L2.atI (cs.map tI) 0 = some (tI cs[0]) := by
    rw [atI_zero (by rw [List.length_map]; exact h1)]
    simp
  have l0 : cs[0].length = m := h.len _ (List.getElem_mem _)
  have c1 : decide ((cs.length : Int) < (row.length : Int)) = false := decide_eq_false (by omega)
  simp -implicitDefEqProofs only [m_agreeing_places, b_agreeing_places, semDef_ap, sSeq_ap, sSet_ap, sRet_ap, sIf_ap, sExpr_ap, sNil_ap, sNever_ap, sAug_ap, sPar_ap, sAsgT_ap, sStore_ap, sAugStore_ap, sFor_ap, sForO_ap, sWhile_ap, turn_ap, gNm_ap, gsNil_ap, gsCons_ap, gTp_ap, eVar_ap, eMove_ap, eC_ap, eBin_ap, eUn_ap, tOf_ap, tvAnd_ap, tvOr_ap, tvNot_ap, eAnd_ap, eOr_ap, eNot_ap, eIf_ap, eChain_ap, aNil_ap, aCons_ap, aStar_ap, eTup_ap, eLst_ap, eCall_ap, eCallL_ap, lNil_ap, lSh_ap, lLe_ap, lstAt_ap, eOwn2_ap, eSl_ap, pNo_ap, pSome_ap, eLstRg1_ap, eTupRg1_ap, eApp_ap, eExtend_ap, iOf_ap, iEnum_ap, iZip2_ap, iRng1_ap, eLc_ap, keep_nil, keep_zero, opI, opIc, opB, opAdd, opLen, opNeg, opMax, opMin, opAbs, opInt, opIx, opIsNotN, opIsN, isNon, opTuple, opList, opRev, opSl, opSlL, isi_int, isi_boolint, isi_tuple, items?, opEq_int, opNe_int, setAll, forgetAll, wipeE, backE, lentAt, fill, List.cons_append, List.nil_append, List.append_nil, List.replicate_succ, List.replicate_zero, List.getElem?_cons_zero, List.getElem?_cons_succ, List.set_cons_zero, List.set_cons_succ, List.map_cons, List.map_nil, List.length_cons, List.length_nil, List.length_map, List.length_replicate, List.all_nil, List.all_cons, Option.isSome, Option.bind_some, Option.map_some, Option.getD_some, Option.bind_none, Option.map_none, Nat.reduceAdd, Nat.zero_add, beq_self_eq_true, Bool.and_true, Bool.true_and, Bool.false_eq_true, reduceIte, reduceCtorEq, if_true, if_false, Bool.not_true, Bool.not_false, decide_true, decide_false, s_require_prime p hp, s_are_told_columns p m cs h h1 h2 h3 m1 m2, hi, l0, s_require_factors p fs m hf hl (by omega), s_is_row_in p row r1 r2 hr, c1,
    s_agreeing_in p cs fs row (by omega) (by omega) hf h2 fun c hc => by rw [h.len c hc]; omega]
end Hd

namespace Hd
open PL PM
/-! ### the greatest common divisor -/
theorem gcd_step (a b : Nat) : Nat.gcd b (a % b) = Nat.gcd a b := by rw [Nat.gcd_comm b, ← Nat.gcd_rec, Nat.gcd_comm]
theorem s_share (top bottom : Nat) (ht : top < 900000) (hb : 0 < bottom) (hb2 : bottom < 1000000000) : m_share_in_lowest [some (.int top), some (.int bottom)] = some (.tup [.int ((top / Nat.gcd bottom top : Nat) : Int), .int ((bottom / Nat.gcd bottom top : Nat) : Int)], [none, none]) := by
  have wl : ∀ (fuel rest shared : Nat), rest < fuel → whileL (tOf (eBin opGt (eVar 3) (eC (.int 0)))) (sPar [2, 3] (aCons (eVar 3) (aCons (eBin opMod (eVar 2) (eVar 3)) aNil))) fuel [some (.int top), some (.int bottom), some (.int shared), some (.int rest)]
      = some (.nx, [some (.int top), some (.int bottom), some (.int (Nat.gcd shared rest : Nat)), some (.int (0 : Nat))]) := by
    intro fuel
    induction fuel with
    | zero => intro rest _ h; omega
    | succ fuel ih =>
      intro rest shared h
      by_cases hr : rest = 0
      · subst hr
        rw [whileL_f (ρ1 := [some (.int top), some (.int bottom), some (.int shared), some (.int (0 : Nat))])]
        · rw [Nat.gcd_zero_right]
        · simp -implicitDefEqProofs only [semDef_ap, sSeq_ap, sSet_ap, sRet_ap, sIf_ap, sExpr_ap, sNil_ap, sNever_ap, sAug_ap, sPar_ap, sAsgT_ap, sStore_ap, sAugStore_ap, sFor_ap, sForO_ap, sWhile_ap, turn_ap, gNm_ap, gsNil_ap, gsCons_ap, gTp_ap, eVar_ap, eMove_ap, eC_ap, eBin_ap, eUn_ap, tOf_ap, tvAnd_ap, tvOr_ap, tvNot_ap, eAnd_ap, eOr_ap, eNot_ap, eIf_ap, eChain_ap, aNil_ap, aCons_ap, aStar_ap, eTup_ap, eLst_ap, eCall_ap, eCallL_ap, lNil_ap, lSh_ap, lLe_ap, lstAt_ap, eOwn2_ap, eSl_ap, pNo_ap, pSome_ap, eLstRg1_ap, eTupRg1_ap, eApp_ap, eExtend_ap, iOf_ap, iEnum_ap, iZip2_ap, iRng1_ap, eLc_ap, keep_nil, keep_zero, opI, opIc, opB, opAdd, opLen, opNeg, opMax, opMin, opAbs, opInt, opIx, opIsNotN, opIsN, isNon, opTuple, opList, opRev, opSl, opSlL, isi_int, isi_boolint, isi_tuple, items?, opEq_int, opNe_int, setAll, forgetAll, wipeE, backE, lentAt, fill, List.cons_append, List.nil_append, List.append_nil, List.replicate_succ, List.replicate_zero, List.getElem?_cons_zero, List.getElem?_cons_succ, List.set_cons_zero, List.set_cons_succ, List.map_cons, List.map_nil, List.length_cons, List.length_nil, List.length_map, List.length_replicate, List.all_nil, List.all_cons, Option.isSome, Option.bind_some, Option.map_some, Option.getD_some, Option.bind_none, Option.map_none, Nat.reduceAdd, Nat.zero_add, beq_self_eq_true, Bool.and_true, Bool.true_and, Bool.false_eq_true, reduceIte, reduceCtorEq, if_true, if_false, Bool.not_true, Bool.not_false, decide_true, decide_false, show decide ((0 : Int) < ((0 : Nat) : Int)) = false from rfl]
      · have hg : decide ((0 : Int) < (rest : Int)) = true := decide_eq_true (by omega)
        have hlt : shared % rest < rest := Nat.mod_lt _ (by omega)
        have e : (shared : Int) % (rest : Int) = ((shared % rest : Nat) : Int) := by omega
        rw [whileL_t (ρ1 := [some (.int top), some (.int bottom), some (.int shared), some (.int rest)]) (ρ2 := [some (.int top), some (.int bottom), some (.int rest), some (.int (shared % rest : Nat))])]
        · rw [ih (shared % rest) rest (by omega), gcd_step]
        · simp -implicitDefEqProofs only [semDef_ap, sSeq_ap, sSet_ap, sRet_ap, sIf_ap, sExpr_ap, sNil_ap, sNever_ap, sAug_ap, sPar_ap, sAsgT_ap, sStore_ap, sAugStore_ap, sFor_ap, sForO_ap, sWhile_ap, turn_ap, gNm_ap, gsNil_ap, gsCons_ap, gTp_ap, eVar_ap, eMove_ap, eC_ap, eBin_ap, eUn_ap, tOf_ap, tvAnd_ap, tvOr_ap, tvNot_ap, eAnd_ap, eOr_ap, eNot_ap, eIf_ap, eChain_ap, aNil_ap, aCons_ap, aStar_ap, eTup_ap, eLst_ap, eCall_ap, eCallL_ap, lNil_ap, lSh_ap, lLe_ap, lstAt_ap, eOwn2_ap, eSl_ap, pNo_ap, pSome_ap, eLstRg1_ap, eTupRg1_ap, eApp_ap, eExtend_ap, iOf_ap, iEnum_ap, iZip2_ap, iRng1_ap, eLc_ap, keep_nil, keep_zero, opI, opIc, opB, opAdd, opLen, opNeg, opMax, opMin, opAbs, opInt, opIx, opIsNotN, opIsN, isNon, opTuple, opList, opRev, opSl, opSlL, isi_int, isi_boolint, isi_tuple, items?, opEq_int, opNe_int, setAll, forgetAll, wipeE, backE, lentAt, fill, List.cons_append, List.nil_append, List.append_nil, List.replicate_succ, List.replicate_zero, List.getElem?_cons_zero, List.getElem?_cons_succ, List.set_cons_zero, List.set_cons_succ, List.map_cons, List.map_nil, List.length_cons, List.length_nil, List.length_map, List.length_replicate, List.all_nil, List.all_cons, Option.isSome, Option.bind_some, Option.map_some, Option.getD_some, Option.bind_none, Option.map_none, Nat.reduceAdd, Nat.zero_add, beq_self_eq_true, Bool.and_true, Bool.true_and, Bool.false_eq_true, reduceIte, reduceCtorEq, if_true, if_false, Bool.not_true, Bool.not_false, decide_true, decide_false, hg]
        · simp -implicitDefEqProofs only [semDef_ap, sSeq_ap, sSet_ap, sRet_ap, sIf_ap, sExpr_ap, sNil_ap, sNever_ap, sAug_ap, sPar_ap, sAsgT_ap, sStore_ap, sAugStore_ap, sFor_ap, sForO_ap, sWhile_ap, turn_ap, gNm_ap, gsNil_ap, gsCons_ap, gTp_ap, eVar_ap, eMove_ap, eC_ap, eBin_ap, eUn_ap, tOf_ap, tvAnd_ap, tvOr_ap, tvNot_ap, eAnd_ap, eOr_ap, eNot_ap, eIf_ap, eChain_ap, aNil_ap, aCons_ap, aStar_ap, eTup_ap, eLst_ap, eCall_ap, eCallL_ap, lNil_ap, lSh_ap, lLe_ap, lstAt_ap, eOwn2_ap, eSl_ap, pNo_ap, pSome_ap, eLstRg1_ap, eTupRg1_ap, eApp_ap, eExtend_ap, iOf_ap, iEnum_ap, iZip2_ap, iRng1_ap, eLc_ap, keep_nil, keep_zero, opI, opIc, opB, opAdd, opLen, opNeg, opMax, opMin, opAbs, opInt, opIx, opIsNotN, opIsN, isNon, opTuple, opList, opRev, opSl, opSlL, isi_int, isi_boolint, isi_tuple, items?, opEq_int, opNe_int, setAll, forgetAll, wipeE, backE, lentAt, fill, List.cons_append, List.nil_append, List.append_nil, List.replicate_succ, List.replicate_zero, List.getElem?_cons_zero, List.getElem?_cons_succ, List.set_cons_zero, List.set_cons_succ, List.map_cons, List.map_nil, List.length_cons, List.length_nil, List.length_map, List.length_replicate, List.all_nil, List.all_cons, Option.isSome, Option.bind_some, Option.map_some, Option.getD_some, Option.bind_none, Option.map_none, Nat.reduceAdd, Nat.zero_add, beq_self_eq_true, Bool.and_true, Bool.true_and, Bool.false_eq_true, reduceIte, reduceCtorEq, if_true, if_false, Bool.not_true, Bool.not_false, decide_true, decide_false, hg, e]
  have hg : 0 < Nat.gcd bottom top := Nat.gcd_pos_of_pos_left _ hb
  have hg2 : Nat.gcd bottom top ≤ bottom := Nat.gcd_le_left _ hb
  have dv : divOk (Nat.gcd bottom top : Int) = true := divOk_of (by omega) (by omega)
  have e1 : (top : Int) / (Nat.gcd bottom top : Nat) = ((top / Nat.gcd bottom top : Nat) : Int) := (Int.natCast_ediv _ _).symm
  have e2 : (bottom : Int) / (Nat.gcd bottom top : Nat) = ((bottom / Nat.gcd bottom top : Nat) : Int) := (Int.natCast_ediv _ _).symm
  have f2 : fits 2 = true := by decide
  simp -implicitDefEqProofs only [m_share_in_lowest, b_share_in_lowest, semDef_ap, sSeq_ap, sSet_ap, sRet_ap, sIf_ap, sExpr_ap, sNil_ap, sNever_ap, sAug_ap, sPar_ap, sAsgT_ap, sStore_ap, sAugStore_ap, sFor_ap, sForO_ap, sWhile_ap, turn_ap, gNm_ap, gsNil_ap, gsCons_ap, gTp_ap, eVar_ap, eMove_ap, eC_ap, eBin_ap, eUn_ap, tOf_ap, tvAnd_ap, tvOr_ap, tvNot_ap, eAnd_ap, eOr_ap, eNot_ap, eIf_ap, eChain_ap, aNil_ap, aCons_ap, aStar_ap, eTup_ap, eLst_ap, eCall_ap, eCallL_ap, lNil_ap, lSh_ap, lLe_ap, lstAt_ap, eOwn2_ap, eSl_ap, pNo_ap, pSome_ap, eLstRg1_ap, eTupRg1_ap, eApp_ap, eExtend_ap, iOf_ap, iEnum_ap, iZip2_ap, iRng1_ap, eLc_ap, keep_nil, keep_zero, opI, opIc, opB, opAdd, opLen, opNeg, opMax, opMin, opAbs, opInt, opIx, opIsNotN, opIsN, isNon, opTuple, opList, opRev, opSl, opSlL, isi_int, isi_boolint, isi_tuple, items?, opEq_int, opNe_int, setAll, forgetAll, wipeE, backE, lentAt, fill, List.cons_append, List.nil_append, List.append_nil, List.replicate_succ, List.replicate_zero, List.getElem?_cons_zero, List.getElem?_cons_succ, List.set_cons_zero, List.set_cons_succ, List.map_cons, List.map_nil, List.length_cons, List.length_nil, List.length_map, List.length_replicate, List.all_nil, List.all_cons, Option.isSome, Option.bind_some, Option.map_some, Option.getD_some, Option.bind_none, Option.map_none, Nat.reduceAdd, Nat.zero_add, beq_self_eq_true, Bool.and_true, Bool.true_and, Bool.false_eq_true, reduceIte, reduceCtorEq, if_true, if_false, Bool.not_true, Bool.not_false, decide_true, decide_false, wl 1000000 top bottom (by omega), dv, e1, e2, f2]
theorem s_divisor (a b : Nat) (hb : b < 900000) : m__law_divisor [some (.int a), some (.int b)] = some (.int (Nat.gcd a b : Nat), [none, none]) := by
  have wl : ∀ (fuel rest shared : Nat), rest < fuel → whileL (tOf (eBin opGt (eVar 1) (eC (.int 0)))) (sPar [0, 1] (aCons (eVar 1) (aCons (eBin opMod (eUn opInt (eVar 0)) (eVar 1)) aNil))) fuel [some (.int shared), some (.int rest)]
      = some (.nx, [some (.int (Nat.gcd shared rest : Nat)), some (.int (0 : Nat))]) := by
    intro fuel
    induction fuel with
    | zero => intro rest _ h; omega
    | succ fuel ih =>
      intro rest shared h
      by_cases hr : rest = 0
      · subst hr
        rw [whileL_f (ρ1 := [some (.int shared), some (.int (0 : Nat))])]
        · rw [Nat.gcd_zero_right]
        · simp -implicitDefEqProofs only [semDef_ap, sSeq_ap, sSet_ap, sRet_ap, sIf_ap, sExpr_ap, sNil_ap, sNever_ap, sAug_ap, sPar_ap, sAsgT_ap, sStore_ap, sAugStore_ap, sFor_ap, sForO_ap, sWhile_ap, turn_ap, gNm_ap, gsNil_ap, gsCons_ap, gTp_ap, eVar_ap, eMove_ap, eC_ap, eBin_ap, eUn_ap, tOf_ap, tvAnd_ap, tvOr_ap, tvNot_ap, eAnd_ap, eOr_ap, eNot_ap, eIf_ap, eChain_ap, aNil_ap, aCons_ap, aStar_ap, eTup_ap, eLst_ap, eCall_ap, eCallL_ap, lNil_ap, lSh_ap, lLe_ap, lstAt_ap, eOwn2_ap, eSl_ap, pNo_ap, pSome_ap, eLstRg1_ap, eTupRg1_ap, eApp_ap, eExtend_ap, iOf_ap, iEnum_ap, iZip2_ap, iRng1_ap, eLc_ap, keep_nil, keep_zero, opI, opIc, opB, opAdd, opLen, opNeg, opMax, opMin, opAbs, opInt, opIx, opIsNotN, opIsN, isNon, opTuple, opList, opRev, opSl, opSlL, isi_int, isi_boolint, isi_tuple, items?, opEq_int, opNe_int, setAll, forgetAll, wipeE, backE, lentAt, fill, List.cons_append, List.nil_append, List.append_nil, List.replicate_succ, List.replicate_zero, List.getElem?_cons_zero, List.getElem?_cons_succ, List.set_cons_zero, List.set_cons_succ, List.map_cons, List.map_nil, List.length_cons, List.length_nil, List.length_map, List.length_replicate, List.all_nil, List.all_cons, Option.isSome, Option.bind_some, Option.map_some, Option.getD_some, Option.bind_none, Option.map_none, Nat.reduceAdd, Nat.zero_add, beq_self_eq_true, Bool.and_true, Bool.true_and, Bool.false_eq_true, reduceIte, reduceCtorEq, if_true, if_false, Bool.not_true, Bool.not_false, decide_true, decide_false, show decide ((0 : Int) < ((0 : Nat) : Int)) = false from rfl]
      · have hg : decide ((0 : Int) < (rest : Int)) = true := decide_eq_true (by omega)
        have hlt : shared % rest < rest := Nat.mod_lt _ (by omega)
        have e : (shared : Int) % (rest : Int) = ((shared % rest : Nat) : Int) := by omega
        rw [whileL_t (ρ1 := [some (.int shared), some (.int rest)]) (ρ2 := [some (.int rest), some (.int (shared % rest : Nat))])]
        · rw [ih (shared % rest) rest (by omega), gcd_step]
        · simp -implicitDefEqProofs only [semDef_ap, sSeq_ap, sSet_ap, sRet_ap, sIf_ap, sExpr_ap, sNil_ap, sNever_ap, sAug_ap, sPar_ap, sAsgT_ap, sStore_ap, sAugStore_ap, sFor_ap, sForO_ap, sWhile_ap, turn_ap, gNm_ap, gsNil_ap, gsCons_ap, gTp_ap, eVar_ap, eMove_ap, eC_ap, eBin_ap, eUn_ap, tOf_ap, tvAnd_ap, tvOr_ap, tvNot_ap, eAnd_ap, eOr_ap, eNot_ap, eIf_ap, eChain_ap, aNil_ap, aCons_ap, aStar_ap, eTup_ap, eLst_ap, eCall_ap, eCallL_ap, lNil_ap, lSh_ap, lLe_ap, lstAt_ap, eOwn2_ap, eSl_ap, pNo_ap, pSome_ap, eLstRg1_ap, eTupRg1_ap, eApp_ap, eExtend_ap, iOf_ap, iEnum_ap, iZip2_ap, iRng1_ap, eLc_ap, keep_nil, keep_zero, opI, opIc, opB, opAdd, opLen, opNeg, opMax, opMin, opAbs, opInt, opIx, opIsNotN, opIsN, isNon, opTuple, opList, opRev, opSl, opSlL, isi_int, isi_boolint, isi_tuple, items?, opEq_int, opNe_int, setAll, forgetAll, wipeE, backE, lentAt, fill, List.cons_append, List.nil_append, List.append_nil, List.replicate_succ, List.replicate_zero, List.getElem?_cons_zero, List.getElem?_cons_succ, List.set_cons_zero, List.set_cons_succ, List.map_cons, List.map_nil, List.length_cons, List.length_nil, List.length_map, List.length_replicate, List.all_nil, List.all_cons, Option.isSome, Option.bind_some, Option.map_some, Option.getD_some, Option.bind_none, Option.map_none, Nat.reduceAdd, Nat.zero_add, beq_self_eq_true, Bool.and_true, Bool.true_and, Bool.false_eq_true, reduceIte, reduceCtorEq, if_true, if_false, Bool.not_true, Bool.not_false, decide_true, decide_false, hg]
        · simp -implicitDefEqProofs only [semDef_ap, sSeq_ap, sSet_ap, sRet_ap, sIf_ap, sExpr_ap, sNil_ap, sNever_ap, sAug_ap, sPar_ap, sAsgT_ap, sStore_ap, sAugStore_ap, sFor_ap, sForO_ap, sWhile_ap, turn_ap, gNm_ap, gsNil_ap, gsCons_ap, gTp_ap, eVar_ap, eMove_ap, eC_ap, eBin_ap, eUn_ap, tOf_ap, tvAnd_ap, tvOr_ap, tvNot_ap, eAnd_ap, eOr_ap, eNot_ap, eIf_ap, eChain_ap, aNil_ap, aCons_ap, aStar_ap, eTup_ap, eLst_ap, eCall_ap, eCallL_ap, lNil_ap, lSh_ap, lLe_ap, lstAt_ap, eOwn2_ap, eSl_ap, pNo_ap, pSome_ap, eLstRg1_ap, eTupRg1_ap, eApp_ap, eExtend_ap, iOf_ap, iEnum_ap, iZip2_ap, iRng1_ap, eLc_ap, keep_nil, keep_zero, opI, opIc, opB, opAdd, opLen, opNeg, opMax, opMin, opAbs, opInt, opIx, opIsNotN, opIsN, isNon, opTuple, opList, opRev, opSl, opSlL, isi_int, isi_boolint, isi_tuple, items?, opEq_int, opNe_int, setAll, forgetAll, wipeE, backE, lentAt, fill, List.cons_append, List.nil_append, List.append_nil, List.replicate_succ, List.replicate_zero, List.getElem?_cons_zero, List.getElem?_cons_succ, List.set_cons_zero, List.set_cons_succ, List.map_cons, List.map_nil, List.length_cons, List.length_nil, List.length_map, List.length_replicate, List.all_nil, List.all_cons, Option.isSome, Option.bind_some, Option.map_some, Option.getD_some, Option.bind_none, Option.map_none, Nat.reduceAdd, Nat.zero_add, beq_self_eq_true, Bool.and_true, Bool.true_and, Bool.false_eq_true, reduceIte, reduceCtorEq, if_true, if_false, Bool.not_true, Bool.not_false, decide_true, decide_false, hg, e]
  simp -implicitDefEqProofs only [m__law_divisor, b__law_divisor, semDef_ap, sSeq_ap, sSet_ap, sRet_ap, sIf_ap, sExpr_ap, sNil_ap, sNever_ap, sAug_ap, sPar_ap, sAsgT_ap, sStore_ap, sAugStore_ap, sFor_ap, sForO_ap, sWhile_ap, turn_ap, gNm_ap, gsNil_ap, gsCons_ap, gTp_ap, eVar_ap, eMove_ap, eC_ap, eBin_ap, eUn_ap, tOf_ap, tvAnd_ap, tvOr_ap, tvNot_ap, eAnd_ap, eOr_ap, eNot_ap, eIf_ap, eChain_ap, aNil_ap, aCons_ap, aStar_ap, eTup_ap, eLst_ap, eCall_ap, eCallL_ap, lNil_ap, lSh_ap, lLe_ap, lstAt_ap, eOwn2_ap, eSl_ap, pNo_ap, pSome_ap, eLstRg1_ap, eTupRg1_ap, eApp_ap, eExtend_ap, iOf_ap, iEnum_ap, iZip2_ap, iRng1_ap, eLc_ap, keep_nil, keep_zero, opI, opIc, opB, opAdd, opLen, opNeg, opMax, opMin, opAbs, opInt, opIx, opIsNotN, opIsN, isNon, opTuple, opList, opRev, opSl, opSlL, isi_int, isi_boolint, isi_tuple, items?, opEq_int, opNe_int, setAll, forgetAll, wipeE, backE, lentAt, fill, List.cons_append, List.nil_append, List.append_nil, List.replicate_succ, List.replicate_zero, List.getElem?_cons_zero, List.getElem?_cons_succ, List.set_cons_zero, List.set_cons_succ, List.map_cons, List.map_nil, List.length_cons, List.length_nil, List.length_map, List.length_replicate, List.all_nil, List.all_cons, Option.isSome, Option.bind_some, Option.map_some, Option.getD_some, Option.bind_none, Option.map_none, Nat.reduceAdd, Nat.zero_add, beq_self_eq_true, Bool.and_true, Bool.true_and, Bool.false_eq_true, reduceIte, reduceCtorEq, if_true, if_false, Bool.not_true, Bool.not_false, decide_true, decide_false, wl 1000000 b a (by omega)]
theorem s_lucky_share (a asked far : Nat) (h1 : a ≤ far) (h2 : 1 ≤ far) (h3 : far ≤ 15) (h4 : 1 ≤ asked) (h5 : asked ≤ 4) : m_lucky_share [some (.int a), some (.int asked), some (.int far)] = some (.tup [.int ((a ^ asked / Nat.gcd (far ^ asked) (a ^ asked) : Nat) : Int), .int ((far ^ asked / Nat.gcd (far ^ asked) (a ^ asked) : Nat) : Int)], [none, none, none]) := by
  have e1 := s_require_number a 0 64 (by omega) (by omega) (by omega) (by omega)
  have e2 := s_require_number asked 1 8 (by omega) (by omega) (by omega) (by omega)
  have e3 := s_is_within far (if (a : Int) > 1 then (a : Int) else 1) 64
  have e4 : decide ((if (a : Int) > 1 then (a : Int) else 1) ≤ (far : Int) ∧ (far : Int) ≤ 64) = true := decide_eq_true (by split <;> omega)
  have e5 := s_raised_in a asked (by omega) (by omega) (by omega)
  have e6 := s_raised_in far asked (by omega) (by omega) (by omega)
  have b1 : ∀ x : Nat, x ≤ 15 → x ^ asked ≤ 50625 := fun x hx => by
    have q1 : x ^ asked ≤ 15 ^ asked := Nat.pow_le_pow_left hx _
    have q2 : 15 ^ asked ≤ 15 ^ 4 := Nat.pow_le_pow_right (by decide) h5
    have q3 : (15 : Nat) ^ 4 = 50625 := by decide
    omega
  have c1 : ((a : Int) ^ asked) = ((a ^ asked : Nat) : Int) := (Int.natCast_pow _ _).symm
  have c2 : ((far : Int) ^ asked) = ((far ^ asked : Nat) : Int) := (Int.natCast_pow _ _).symm
  rw [c1] at e5
  rw [c2] at e6
  have e7 := s_share (a ^ asked) (far ^ asked) (by have := b1 a (by omega); omega) (Nat.pow_pos (by omega)) (by have := b1 far (by omega); omega)
  simp -implicitDefEqProofs only [m_lucky_share, b_lucky_share, semDef_ap, sSeq_ap, sSet_ap, sRet_ap, sIf_ap, sExpr_ap, sNil_ap, sNever_ap, sAug_ap, sPar_ap, sAsgT_ap, sStore_ap, sAugStore_ap, sFor_ap, sForO_ap, sWhile_ap, turn_ap, gNm_ap, gsNil_ap, gsCons_ap, gTp_ap, eVar_ap, eMove_ap, eC_ap, eBin_ap, eUn_ap, tOf_ap, tvAnd_ap, tvOr_ap, tvNot_ap, eAnd_ap, eOr_ap, eNot_ap, eIf_ap, eChain_ap, aNil_ap, aCons_ap, aStar_ap, eTup_ap, eLst_ap, eCall_ap, eCallL_ap, lNil_ap, lSh_ap, lLe_ap, lstAt_ap, eOwn2_ap, eSl_ap, pNo_ap, pSome_ap, eLstRg1_ap, eTupRg1_ap, eApp_ap, eExtend_ap, iOf_ap, iEnum_ap, iZip2_ap, iRng1_ap, eLc_ap, keep_nil, keep_zero, opI, opIc, opB, opAdd, opLen, opNeg, opMax, opMin, opAbs, opInt, opIx, opIsNotN, opIsN, isNon, opTuple, opList, opRev, opSl, opSlL, isi_int, isi_boolint, isi_tuple, items?, opEq_int, opNe_int, setAll, forgetAll, wipeE, backE, lentAt, fill, List.cons_append, List.nil_append, List.append_nil, List.replicate_succ, List.replicate_zero, List.getElem?_cons_zero, List.getElem?_cons_succ, List.set_cons_zero, List.set_cons_succ, List.map_cons, List.map_nil, List.length_cons, List.length_nil, List.length_map, List.length_replicate, List.all_nil, List.all_cons, Option.isSome, Option.bind_some, Option.map_some, Option.getD_some, Option.bind_none, Option.map_none, Nat.reduceAdd, Nat.zero_add, beq_self_eq_true, Bool.and_true, Bool.true_and, Bool.false_eq_true, reduceIte, reduceCtorEq, if_true, if_false, Bool.not_true, Bool.not_false, decide_true, decide_false, e1, e2, e3, e4, e5, e6, e7]
/-! ### places that agree -/
theorem dot_sum (p x : Int) (hp : 0 < p) : ∀ (rows : List (List Int)) (fs : List Int), Cg p (((fs.zip (rows.map fun r => worth p r x)).map fun q => q.1 * q.2).sum) (sumAt x (rows.zip fs))
  | [], fs => by
    simp [sumAt]
    exact Cg.refl _ _
  | r :: rows, [] => by
    simp [sumAt]
    exact Cg.refl _ _
  | r :: rows, c :: fs => by
    have ih := dot_sum p x hp rows fs
    rw [List.map_cons, List.zip_cons_cons, List.map_cons, List.sum_cons]
    show Cg p _ (c * ev r x + sumAt x (rows.zip fs))
    refine Cg.add (Cg.mul (Cg.refl p c) ?_) ih
    rw [worth_ev p hp]
    exact Cg.mod _ _
theorem dot_mix {p : Int} (hp : 0 < p) {w : Nat} {rows : List (List Int)} {fs : List Int} (h : Rows p w rows) (x : Int) : dot p fs (rows.map fun r => worth p r x) = worth p (mixf p (rows.zip fs) (List.replicate w 0)) x := by
  unfold dot
  rw [worth_ev p hp]
  refine Cg.iff.mp ((dot_sum p x hp rows fs).trans ?_)
  have := ev_mixf (p := p) (w := w) x (rows.zip fs) (List.replicate w 0) (fun q hq => h.len _ (List.of_mem_zip hq).1) (by simp)
  rw [ev_nil_zeros, Int.zero_add] at this
  exact this.symm
theorem cols_length (p : Int) (rows : List (List Int)) (n : Nat) : (cols p rows n).length = n := by simp [cols]
theorem cols_rows {p : Int} (hp : 0 < p) (rows : List (List Int)) (n : Nat) : Rows p rows.length (cols p rows n) := by
  refine ⟨fun r hr x hx => ?_, fun r hr => ?_⟩
  · obtain ⟨y, _, rfl⟩ := List.mem_map.mp hr
    obtain ⟨z, _, rfl⟩ := List.mem_map.mp hx
    exact worth_nums hp z y
  · obtain ⟨y, _, rfl⟩ := List.mem_map.mp hr
    simp
theorem cols_get {p : Int} {rows : List (List Int)} {n : Nat} {q : List Int × Nat} (h : q ∈ (cols p rows n).zipIdx) : q.1 = rows.map (fun r => worth p r q.2) ∧ q.2 < n := by
  have hm := List.mem_zipIdx h
  rw [cols_length] at hm
  refine ⟨?_, by omega⟩
  rw [hm.2.2]
  simp [cols]
theorem zipIdx_snd {α : Type} : ∀ (l : List α) (n : Nat), (l.zipIdx n).map (fun q => ((q.2 : Nat) : Int)) = (List.range' n l.length).map fun i => ((i : Nat) : Int)
  | [], _ => rfl
  | x :: r, n => by
    rw [List.zipIdx_cons, List.map_cons, List.length_cons, List.range'_succ, List.map_cons, zipIdx_snd r (n + 1)]
theorem agree_all {p : Int} (hp : 0 < p) {w : Nat} {rows : List (List Int)} {fs : List Int} (h : Rows p w rows) (n : Nat) : agree p (cols p rows n) fs (mixf p (rows.zip fs) (List.replicate w 0)) = (List.range n).map fun (i : Nat) => (i : Int) := by
  unfold agree
  rw [List.filter_eq_self.mpr fun q hq => decide_eq_true (by
    obtain ⟨q1, _⟩ := cols_get hq
    rw [q1]
    exact dot_mix hp h _)]
  rw [zipIdx_snd, cols_length, List.range_eq_range']
theorem zipIdx_lt {α : Type} : ∀ (l : List α) (n : Nat), (l.zipIdx n).Pairwise (fun a b => a.2 < b.2)
  | [], _ => List.Pairwise.nil
  | x :: r, n => by
    rw [List.zipIdx_cons]
    refine List.pairwise_cons.mpr ⟨fun b hb => ?_, zipIdx_lt r (n + 1)⟩
    have := List.mem_zipIdx hb
    show n < b.2
    omega
/-- another row agrees at fewer places than it has numbers -/
theorem agree_few {p : Nat} (hP : Pr p) {w : Nat} {rows : List (List Int)} {fs row : List Int} (h : Rows p w rows) (n : Nat) (hn : n ≤ p) (hw : 1 ≤ w) (hr : Nums p row) (hl : row.length = w) (hne : row ≠ mixf p (rows.zip fs) (List.replicate w 0)) : (agree p (cols p rows n) fs row).length ≤ w - 1 := by
  have hp : (0 : Int) < p := by have := hP.1; omega
  refine Nat.le_of_not_lt fun hlt => hne ?_
  have hml := mixf_length (p := p) (w := w) (rows.zip fs) (List.replicate w 0) (fun q hq => h.len _ (List.of_mem_zip hq).1) (by simp)
  have hmn : Nums p (mixf p (rows.zip fs) (List.replicate w 0)) := mixf_nums hp _ _ fun x hx => by rw [(List.mem_replicate.mp hx).2]; omega
  refine code_inj hP (by rw [hl, hml]) hr hmn (((cols p rows n).zipIdx.filter fun q => decide (dot p fs q.1 = worth p row q.2)).map (·.2)) ?_ (fun x hx => ?_) ?_ fun x hx => ?_
  · rw [List.pairwise_map]
    exact (zipIdx_lt _ _).filter _
  · obtain ⟨q, hq, rfl⟩ := List.mem_map.mp hx
    have := (cols_get (List.mem_filter.mp hq).1).2
    omega
  · unfold agree at hlt
    rw [List.length_map] at hlt ⊢
    omega
  · obtain ⟨q, hq, rfl⟩ := List.mem_map.mp hx
    obtain ⟨hq1, hq2⟩ := List.mem_filter.mp hq
    obtain ⟨g1, _⟩ := cols_get hq1
    have e1 := of_decide_eq_true hq2
    rw [g1, dot_mix hp h, worth_ev p hp, worth_ev p hp] at e1
    exact (Cg.iff.mpr e1).symm
theorem agree_length {p : Int} (cs : List (List Int)) (fs row : List Int) : (agree p cs fs row).length ≤ cs.length := by
  unfold agree
  rw [List.length_map]
  have := List.length_filter_le (fun q : List Int × Nat => decide (dot p fs q.1 = worth p row q.2)) cs.zipIdx
  rw [List.length_zipIdx] at this
  exact this
end Hd

namespace Hd
open PL PM
/-- a comprehension that changes the environment, its items encoded -/
theorem lcL_gen {β : Type} (enc : β → PV) {eg : EvG} {ev : EvE} {vs : List Nat} (I : Env → Prop) (P : β → Prop) {xs : List PV} {ρ : Env} (h : ∀ x ρ, x ∈ xs → I ρ → ∃ ρ1 y ρ2, eg x ρ = some ρ1 ∧ ev ρ1 = some (enc y, ρ2) ∧ P y ∧ I (wipeE vs ρ2)) (h0 : I ρ) :
    ∃ (ys : List β) (ρ' : Env), lcL eg tYes' ev vs xs ρ = some (ys.map enc, ρ') ∧ I ρ' ∧ ys.length = xs.length ∧ ∀ y ∈ ys, P y := by
  obtain ⟨ys, ρ', e, i, l, p⟩ := lcL_inv (eg := eg) (ev := ev) (vs := vs) I (fun z => ∃ y, z = enc y ∧ P y) (xs := xs) (ρ := ρ) (fun x ρ hx hi => by
    obtain ⟨ρ1, y, ρ2, e1, e2, p, i⟩ := h x ρ hx hi
    exact ⟨ρ1, enc y, ρ2, e1, e2, ⟨y, rfl, p⟩, i⟩) h0
  obtain ⟨zs, rfl, hz⟩ : ∃ zs : List β, ys = zs.map enc ∧ ∀ y ∈ zs, P y := by
    clear e l
    induction ys with
    | nil => exact ⟨[], rfl, fun y h => absurd h (by simp)⟩
    | cons y ys ih =>
      obtain ⟨z, rfl, pz⟩ := p y List.mem_cons_self
      obtain ⟨zs, rfl, hz⟩ := ih fun y hy => p y (List.mem_cons_of_mem _ hy)
      refine ⟨z :: zs, rfl, fun y hy => ?_⟩
      rcases List.mem_cons.mp hy with q | q
      · rw [q]; exact pz
      · exact hz y q
  exact ⟨zs, ρ', e, i, by simpa using l, hz⟩
theorem m_rows (d : Int × Int × Int) (p : Int) (w many far : Nat) (hp : 0 < p) (hp2 : p < 1000000) (hw : w ≤ 1000) : ∃ (rows : List (List Int)) (d' : Int × Int × Int), lcL (gNm 11) tYes' (eCallL 3 0 0 m__law_row (lLe 0 (lSh (eVar 1) (lSh (eVar 2) lNil)))) [11] ((List.range many).map fun (i : Nat) => PV.int (i : Int)) [some (D d), some (.int p), some (.int w), some (.int many), some (.int far), none, none, none, none, none, none, none, none, none, none, none, none, none, none, none, none, none, none, none, none, none] = some (rows.map tI, [some (D d'), some (.int p), some (.int w), some (.int many), some (.int far), none, none, none, none, none, none, none, none, none, none, none, none, none, none, none, none, none, none, none, none, none]) ∧ rows.length = many ∧ Rows p w rows := by
  obtain ⟨ys, ρ', e, ⟨d', rfl⟩, l, q⟩ := lcL_gen tI (eg := gNm 11) (ev := (eCallL 3 0 0 m__law_row (lLe 0 (lSh (eVar 1) (lSh (eVar 2) lNil))))) (vs := [11]) (fun ρ => ∃ d : Int × Int × Int, ρ = [some (D d), some (.int p), some (.int w), some (.int many), some (.int far), none, none, none, none, none, none, none, none, none, none, none, none, none, none, none, none, none, none, none, none, none]) (fun y => y.length = w ∧ Nums p y) (xs := (List.range many).map fun (i : Nat) => PV.int (i : Int)) (ρ := [some (D d), some (.int p), some (.int w), some (.int many), some (.int far), none, none, none, none, none, none, none, none, none, none, none, none, none, none, none, none, none, none, none, none, none]) (fun x ρ hx ⟨d, hd⟩ => by
    subst hd
    obtain ⟨row, d', e, l, n⟩ := s_row d p w hp hp2 hw
    refine ⟨[some (D d), some (.int p), some (.int w), some (.int many), some (.int far), none, none, none, none, none, none, some x, none, none, none, none, none, none, none, none, none, none, none, none, none, none], row, [some (D d'), some (.int p), some (.int w), some (.int many), some (.int far), none, none, none, none, none, none, some x, none, none, none, none, none, none, none, none, none, none, none, none, none, none], by simp -implicitDefEqProofs only [semDef_ap, sSeq_ap, sSet_ap, sRet_ap, sIf_ap, sExpr_ap, sNil_ap, sNever_ap, sAug_ap, sPar_ap, sAsgT_ap, sStore_ap, sAugStore_ap, sFor_ap, sForO_ap, sWhile_ap, turn_ap, gNm_ap, gsNil_ap, gsCons_ap, gTp_ap, eVar_ap, eMove_ap, eC_ap, eBin_ap, eUn_ap, tOf_ap, tvAnd_ap, tvOr_ap, tvNot_ap, eAnd_ap, eOr_ap, eNot_ap, eIf_ap, eChain_ap, aNil_ap, aCons_ap, aStar_ap, eTup_ap, eLst_ap, eCall_ap, eCallL_ap, lNil_ap, lSh_ap, lLe_ap, lstAt_ap, eOwn2_ap, eSl_ap, pNo_ap, pSome_ap, eLstRg1_ap, eTupRg1_ap, eApp_ap, eExtend_ap, iOf_ap, iEnum_ap, iZip2_ap, iRng1_ap, eLc_ap, keep_nil, keep_zero, opI, opIc, opB, opAdd, opLen, opNeg, opMax, opMin, opAbs, opInt, opIx, opIsNotN, opIsN, isNon, opTuple, opList, opRev, opSl, opSlL, isi_int, isi_boolint, isi_tuple, items?, opEq_int, opNe_int, setAll, forgetAll, wipeE, backE, lentAt, fill, List.cons_append, List.nil_append, List.append_nil, List.replicate_succ, List.replicate_zero, List.getElem?_cons_zero, List.getElem?_cons_succ, List.set_cons_zero, List.set_cons_succ, List.map_cons, List.map_nil, List.length_cons, List.length_nil, List.length_map, List.length_replicate, List.all_nil, List.all_cons, Option.isSome, Option.bind_some, Option.map_some, Option.getD_some, Option.bind_none, Option.map_none, Nat.reduceAdd, Nat.zero_add, beq_self_eq_true, Bool.and_true, Bool.true_and, Bool.false_eq_true, reduceIte, reduceCtorEq, if_true, if_false, Bool.not_true, Bool.not_false, decide_true, decide_false], ?_, ⟨l, n⟩, d', by simp -implicitDefEqProofs only [semDef_ap, sSeq_ap, sSet_ap, sRet_ap, sIf_ap, sExpr_ap, sNil_ap, sNever_ap, sAug_ap, sPar_ap, sAsgT_ap, sStore_ap, sAugStore_ap, sFor_ap, sForO_ap, sWhile_ap, turn_ap, gNm_ap, gsNil_ap, gsCons_ap, gTp_ap, eVar_ap, eMove_ap, eC_ap, eBin_ap, eUn_ap, tOf_ap, tvAnd_ap, tvOr_ap, tvNot_ap, eAnd_ap, eOr_ap, eNot_ap, eIf_ap, eChain_ap, aNil_ap, aCons_ap, aStar_ap, eTup_ap, eLst_ap, eCall_ap, eCallL_ap, lNil_ap, lSh_ap, lLe_ap, lstAt_ap, eOwn2_ap, eSl_ap, pNo_ap, pSome_ap, eLstRg1_ap, eTupRg1_ap, eApp_ap, eExtend_ap, iOf_ap, iEnum_ap, iZip2_ap, iRng1_ap, eLc_ap, keep_nil, keep_zero, opI, opIc, opB, opAdd, opLen, opNeg, opMax, opMin, opAbs, opInt, opIx, opIsNotN, opIsN, isNon, opTuple, opList, opRev, opSl, opSlL, isi_int, isi_boolint, isi_tuple, items?, opEq_int, opNe_int, setAll, forgetAll, wipeE, backE, lentAt, fill, List.cons_append, List.nil_append, List.append_nil, List.replicate_succ, List.replicate_zero, List.getElem?_cons_zero, List.getElem?_cons_succ, List.set_cons_zero, List.set_cons_succ, List.map_cons, List.map_nil, List.length_cons, List.length_nil, List.length_map, List.length_replicate, List.all_nil, List.all_cons, Option.isSome, Option.bind_some, Option.map_some, Option.getD_some, Option.bind_none, Option.map_none, Nat.reduceAdd, Nat.zero_add, beq_self_eq_true, Bool.and_true, Bool.true_and, Bool.false_eq_true, reduceIte, reduceCtorEq, if_true, if_false, Bool.not_true, Bool.not_false, decide_true, decide_false]⟩
    simp -implicitDefEqProofs only [semDef_ap, sSeq_ap, sSet_ap, sRet_ap, sIf_ap, sExpr_ap, sNil_ap, sNever_ap, sAug_ap, sPar_ap, sAsgT_ap, sStore_ap, sAugStore_ap, sFor_ap, sForO_ap, sWhile_ap, turn_ap, gNm_ap, gsNil_ap, gsCons_ap, gTp_ap, eVar_ap, eMove_ap, eC_ap, eBin_ap, eUn_ap, tOf_ap, tvAnd_ap, tvOr_ap, tvNot_ap, eAnd_ap, eOr_ap, eNot_ap, eIf_ap, eChain_ap, aNil_ap, aCons_ap, aStar_ap, eTup_ap, eLst_ap, eCall_ap, eCallL_ap, lNil_ap, lSh_ap, lLe_ap, lstAt_ap, eOwn2_ap, eSl_ap, pNo_ap, pSome_ap, eLstRg1_ap, eTupRg1_ap, eApp_ap, eExtend_ap, iOf_ap, iEnum_ap, iZip2_ap, iRng1_ap, eLc_ap, keep_nil, keep_zero, opI, opIc, opB, opAdd, opLen, opNeg, opMax, opMin, opAbs, opInt, opIx, opIsNotN, opIsN, isNon, opTuple, opList, opRev, opSl, opSlL, isi_int, isi_boolint, isi_tuple, items?, opEq_int, opNe_int, setAll, forgetAll, wipeE, backE, lentAt, fill, List.cons_append, List.nil_append, List.append_nil, List.replicate_succ, List.replicate_zero, List.getElem?_cons_zero, List.getElem?_cons_succ, List.set_cons_zero, List.set_cons_succ, List.map_cons, List.map_nil, List.length_cons, List.length_nil, List.length_map, List.length_replicate, List.all_nil, List.all_cons, Option.isSome, Option.bind_some, Option.map_some, Option.getD_some, Option.bind_none, Option.map_none, Nat.reduceAdd, Nat.zero_add, beq_self_eq_true, Bool.and_true, Bool.true_and, Bool.false_eq_true, reduceIte, reduceCtorEq, if_true, if_false, Bool.not_true, Bool.not_false, decide_true, decide_false, e]) ⟨d, rfl⟩
  rw [List.length_map, List.length_range] at l
  exact ⟨ys, d', e, l, fun r hr => (q r hr).2, fun r hr => (q r hr).1⟩
theorem m_cols (d : Int × Int × Int) (p : Int) (w many far : Nat) (rows : List (List Int)) (fs : List Int) (hp : 0 < p) (hf : far ≤ 1000) (hr : rows.length ≤ 1000) : lcL (gNm 14) tYes' (eUn opTuple (eLc (iOf (eVar 5)) (gNm 23) tYes' (eCall 3 m__law_po_worth (aCons (eVar 1) (aCons (eVar 23) (aCons (eVar 14) aNil)))) [23])) [14] ((List.range far).map fun (i : Nat) => PV.int (i : Int)) [some (D d), some (.int p), some (.int w), some (.int many), some (.int far), some (tT rows), some (tI fs), none, none, none, none, none, none, none, none, none, none, none, none, none, none, none, none, none, none, none] = some ((cols p rows far).map tI, [some (D d), some (.int p), some (.int w), some (.int many), some (.int far), some (tT rows), some (tI fs), none, none, none, none, none, none, none, none, none, none, none, none, none, none, none, none, none, none, none]) := by
  have l1 : ∀ (x : Nat), x < far → lcL (gNm 23) tYes' (eCall 3 m__law_po_worth (aCons (eVar 1) (aCons (eVar 23) (aCons (eVar 14) aNil)))) [23] (rows.map tI) [some (D d), some (.int p), some (.int w), some (.int many), some (.int far), some (tT rows), some (tI fs), none, none, none, none, none, none, none, some (.int x), none, none, none, none, none, none, none, none, none, none, none] = some (rows.map fun r => .int (worth p r x), [some (D d), some (.int p), some (.int w), some (.int many), some (.int far), some (tT rows), some (tI fs), none, none, none, none, none, none, none, some (.int x), none, none, none, none, none, none, none, none, none, none, none]) := fun x hx =>
    lcL_map fun r hr => ⟨[some (D d), some (.int p), some (.int w), some (.int many), some (.int far), some (tT rows), some (tI fs), none, none, none, none, none, none, none, some (.int x), none, none, none, none, none, none, none, none, some (tI r), none, none], [some (D d), some (.int p), some (.int w), some (.int many), some (.int far), some (tT rows), some (tI fs), none, none, none, none, none, none, none, some (.int x), none, none, none, none, none, none, none, none, some (tI r), none, none], by simp -implicitDefEqProofs only [semDef_ap, sSeq_ap, sSet_ap, sRet_ap, sIf_ap, sExpr_ap, sNil_ap, sNever_ap, sAug_ap, sPar_ap, sAsgT_ap, sStore_ap, sAugStore_ap, sFor_ap, sForO_ap, sWhile_ap, turn_ap, gNm_ap, gsNil_ap, gsCons_ap, gTp_ap, eVar_ap, eMove_ap, eC_ap, eBin_ap, eUn_ap, tOf_ap, tvAnd_ap, tvOr_ap, tvNot_ap, eAnd_ap, eOr_ap, eNot_ap, eIf_ap, eChain_ap, aNil_ap, aCons_ap, aStar_ap, eTup_ap, eLst_ap, eCall_ap, eCallL_ap, lNil_ap, lSh_ap, lLe_ap, lstAt_ap, eOwn2_ap, eSl_ap, pNo_ap, pSome_ap, eLstRg1_ap, eTupRg1_ap, eApp_ap, eExtend_ap, iOf_ap, iEnum_ap, iZip2_ap, iRng1_ap, eLc_ap, keep_nil, keep_zero, opI, opIc, opB, opAdd, opLen, opNeg, opMax, opMin, opAbs, opInt, opIx, opIsNotN, opIsN, isNon, opTuple, opList, opRev, opSl, opSlL, isi_int, isi_boolint, isi_tuple, items?, opEq_int, opNe_int, setAll, forgetAll, wipeE, backE, lentAt, fill, List.cons_append, List.nil_append, List.append_nil, List.replicate_succ, List.replicate_zero, List.getElem?_cons_zero, List.getElem?_cons_succ, List.set_cons_zero, List.set_cons_succ, List.map_cons, List.map_nil, List.length_cons, List.length_nil, List.length_map, List.length_replicate, List.all_nil, List.all_cons, Option.isSome, Option.bind_some, Option.map_some, Option.getD_some, Option.bind_none, Option.map_none, Nat.reduceAdd, Nat.zero_add, beq_self_eq_true, Bool.and_true, Bool.true_and, Bool.false_eq_true, reduceIte, reduceCtorEq, if_true, if_false, Bool.not_true, Bool.not_false, decide_true, decide_false], by simp -implicitDefEqProofs only [semDef_ap, sSeq_ap, sSet_ap, sRet_ap, sIf_ap, sExpr_ap, sNil_ap, sNever_ap, sAug_ap, sPar_ap, sAsgT_ap, sStore_ap, sAugStore_ap, sFor_ap, sForO_ap, sWhile_ap, turn_ap, gNm_ap, gsNil_ap, gsCons_ap, gTp_ap, eVar_ap, eMove_ap, eC_ap, eBin_ap, eUn_ap, tOf_ap, tvAnd_ap, tvOr_ap, tvNot_ap, eAnd_ap, eOr_ap, eNot_ap, eIf_ap, eChain_ap, aNil_ap, aCons_ap, aStar_ap, eTup_ap, eLst_ap, eCall_ap, eCallL_ap, lNil_ap, lSh_ap, lLe_ap, lstAt_ap, eOwn2_ap, eSl_ap, pNo_ap, pSome_ap, eLstRg1_ap, eTupRg1_ap, eApp_ap, eExtend_ap, iOf_ap, iEnum_ap, iZip2_ap, iRng1_ap, eLc_ap, keep_nil, keep_zero, opI, opIc, opB, opAdd, opLen, opNeg, opMax, opMin, opAbs, opInt, opIx, opIsNotN, opIsN, isNon, opTuple, opList, opRev, opSl, opSlL, isi_int, isi_boolint, isi_tuple, items?, opEq_int, opNe_int, setAll, forgetAll, wipeE, backE, lentAt, fill, List.cons_append, List.nil_append, List.append_nil, List.replicate_succ, List.replicate_zero, List.getElem?_cons_zero, List.getElem?_cons_succ, List.set_cons_zero, List.set_cons_succ, List.map_cons, List.map_nil, List.length_cons, List.length_nil, List.length_map, List.length_replicate, List.all_nil, List.all_cons, Option.isSome, Option.bind_some, Option.map_some, Option.getD_some, Option.bind_none, Option.map_none, Nat.reduceAdd, Nat.zero_add, beq_self_eq_true, Bool.and_true, Bool.true_and, Bool.false_eq_true, reduceIte, reduceCtorEq, if_true, if_false, Bool.not_true, Bool.not_false, decide_true, decide_false, s_po_worth p r x hp (by omega) (by omega)], by simp -implicitDefEqProofs only [semDef_ap, sSeq_ap, sSet_ap, sRet_ap, sIf_ap, sExpr_ap, sNil_ap, sNever_ap, sAug_ap, sPar_ap, sAsgT_ap, sStore_ap, sAugStore_ap, sFor_ap, sForO_ap, sWhile_ap, turn_ap, gNm_ap, gsNil_ap, gsCons_ap, gTp_ap, eVar_ap, eMove_ap, eC_ap, eBin_ap, eUn_ap, tOf_ap, tvAnd_ap, tvOr_ap, tvNot_ap, eAnd_ap, eOr_ap, eNot_ap, eIf_ap, eChain_ap, aNil_ap, aCons_ap, aStar_ap, eTup_ap, eLst_ap, eCall_ap, eCallL_ap, lNil_ap, lSh_ap, lLe_ap, lstAt_ap, eOwn2_ap, eSl_ap, pNo_ap, pSome_ap, eLstRg1_ap, eTupRg1_ap, eApp_ap, eExtend_ap, iOf_ap, iEnum_ap, iZip2_ap, iRng1_ap, eLc_ap, keep_nil, keep_zero, opI, opIc, opB, opAdd, opLen, opNeg, opMax, opMin, opAbs, opInt, opIx, opIsNotN, opIsN, isNon, opTuple, opList, opRev, opSl, opSlL, isi_int, isi_boolint, isi_tuple, items?, opEq_int, opNe_int, setAll, forgetAll, wipeE, backE, lentAt, fill, List.cons_append, List.nil_append, List.append_nil, List.replicate_succ, List.replicate_zero, List.getElem?_cons_zero, List.getElem?_cons_succ, List.set_cons_zero, List.set_cons_succ, List.map_cons, List.map_nil, List.length_cons, List.length_nil, List.length_map, List.length_replicate, List.all_nil, List.all_cons, Option.isSome, Option.bind_some, Option.map_some, Option.getD_some, Option.bind_none, Option.map_none, Nat.reduceAdd, Nat.zero_add, beq_self_eq_true, Bool.and_true, Bool.true_and, Bool.false_eq_true, reduceIte, reduceCtorEq, if_true, if_false, Bool.not_true, Bool.not_false, decide_true, decide_false]⟩
  have em : (cols p rows far).map tI = ((List.range far).map fun (x : Nat) => PV.tup (rows.map fun r => .int (worth p r x))) := by
    unfold cols
    rw [List.map_map]
    refine List.map_congr_left fun x _ => ?_
    show PV.tup ((rows.map fun r => worth p r x).map .int) = _
    rw [List.map_map]
    rfl
  rw [em]
  exact lcL_map fun x hx => ⟨[some (D d), some (.int p), some (.int w), some (.int many), some (.int far), some (tT rows), some (tI fs), none, none, none, none, none, none, none, some (.int x), none, none, none, none, none, none, none, none, none, none, none], [some (D d), some (.int p), some (.int w), some (.int many), some (.int far), some (tT rows), some (tI fs), none, none, none, none, none, none, none, some (.int x), none, none, none, none, none, none, none, none, none, none, none], by simp -implicitDefEqProofs only [semDef_ap, sSeq_ap, sSet_ap, sRet_ap, sIf_ap, sExpr_ap, sNil_ap, sNever_ap, sAug_ap, sPar_ap, sAsgT_ap, sStore_ap, sAugStore_ap, sFor_ap, sForO_ap, sWhile_ap, turn_ap, gNm_ap, gsNil_ap, gsCons_ap, gTp_ap, eVar_ap, eMove_ap, eC_ap, eBin_ap, eUn_ap, tOf_ap, tvAnd_ap, tvOr_ap, tvNot_ap, eAnd_ap, eOr_ap, eNot_ap, eIf_ap, eChain_ap, aNil_ap, aCons_ap, aStar_ap, eTup_ap, eLst_ap, eCall_ap, eCallL_ap, lNil_ap, lSh_ap, lLe_ap, lstAt_ap, eOwn2_ap, eSl_ap, pNo_ap, pSome_ap, eLstRg1_ap, eTupRg1_ap, eApp_ap, eExtend_ap, iOf_ap, iEnum_ap, iZip2_ap, iRng1_ap, eLc_ap, keep_nil, keep_zero, opI, opIc, opB, opAdd, opLen, opNeg, opMax, opMin, opAbs, opInt, opIx, opIsNotN, opIsN, isNon, opTuple, opList, opRev, opSl, opSlL, isi_int, isi_boolint, isi_tuple, items?, opEq_int, opNe_int, setAll, forgetAll, wipeE, backE, lentAt, fill, List.cons_append, List.nil_append, List.append_nil, List.replicate_succ, List.replicate_zero, List.getElem?_cons_zero, List.getElem?_cons_succ, List.set_cons_zero, List.set_cons_succ, List.map_cons, List.map_nil, List.length_cons, List.length_nil, List.length_map, List.length_replicate, List.all_nil, List.all_cons, Option.isSome, Option.bind_some, Option.map_some, Option.getD_some, Option.bind_none, Option.map_none, Nat.reduceAdd, Nat.zero_add, beq_self_eq_true, Bool.and_true, Bool.true_and, Bool.false_eq_true, reduceIte, reduceCtorEq, if_true, if_false, Bool.not_true, Bool.not_false, decide_true, decide_false], by simp -implicitDefEqProofs only [semDef_ap, sSeq_ap, sSet_ap, sRet_ap, sIf_ap, sExpr_ap, sNil_ap, sNever_ap, sAug_ap, sPar_ap, sAsgT_ap, sStore_ap, sAugStore_ap, sFor_ap, sForO_ap, sWhile_ap, turn_ap, gNm_ap, gsNil_ap, gsCons_ap, gTp_ap, eVar_ap, eMove_ap, eC_ap, eBin_ap, eUn_ap, tOf_ap, tvAnd_ap, tvOr_ap, tvNot_ap, eAnd_ap, eOr_ap, eNot_ap, eIf_ap, eChain_ap, aNil_ap, aCons_ap, aStar_ap, eTup_ap, eLst_ap, eCall_ap, eCallL_ap, lNil_ap, lSh_ap, lLe_ap, lstAt_ap, eOwn2_ap, eSl_ap, pNo_ap, pSome_ap, eLstRg1_ap, eTupRg1_ap, eApp_ap, eExtend_ap, iOf_ap, iEnum_ap, iZip2_ap, iRng1_ap, eLc_ap, keep_nil, keep_zero, opI, opIc, opB, opAdd, opLen, opNeg, opMax, opMin, opAbs, opInt, opIx, opIsNotN, opIsN, isNon, opTuple, opList, opRev, opSl, opSlL, isi_int, isi_boolint, isi_tuple, items?, opEq_int, opNe_int, setAll, forgetAll, wipeE, backE, lentAt, fill, List.cons_append, List.nil_append, List.append_nil, List.replicate_succ, List.replicate_zero, List.getElem?_cons_zero, List.getElem?_cons_succ, List.set_cons_zero, List.set_cons_succ, List.map_cons, List.map_nil, List.length_cons, List.length_nil, List.length_map, List.length_replicate, List.all_nil, List.all_cons, Option.isSome, Option.bind_some, Option.map_some, Option.getD_some, Option.bind_none, Option.map_none, Nat.reduceAdd, Nat.zero_add, beq_self_eq_true, Bool.and_true, Bool.true_and, Bool.false_eq_true, reduceIte, reduceCtorEq, if_true, if_false, Bool.not_true, Bool.not_false, decide_true, decide_false, fits_of (show rows.length ≤ 16777216 by omega), l1 x (List.mem_range.mp hx)], by simp -implicitDefEqProofs only [semDef_ap, sSeq_ap, sSet_ap, sRet_ap, sIf_ap, sExpr_ap, sNil_ap, sNever_ap, sAug_ap, sPar_ap, sAsgT_ap, sStore_ap, sAugStore_ap, sFor_ap, sForO_ap, sWhile_ap, turn_ap, gNm_ap, gsNil_ap, gsCons_ap, gTp_ap, eVar_ap, eMove_ap, eC_ap, eBin_ap, eUn_ap, tOf_ap, tvAnd_ap, tvOr_ap, tvNot_ap, eAnd_ap, eOr_ap, eNot_ap, eIf_ap, eChain_ap, aNil_ap, aCons_ap, aStar_ap, eTup_ap, eLst_ap, eCall_ap, eCallL_ap, lNil_ap, lSh_ap, lLe_ap, lstAt_ap, eOwn2_ap, eSl_ap, pNo_ap, pSome_ap, eLstRg1_ap, eTupRg1_ap, eApp_ap, eExtend_ap, iOf_ap, iEnum_ap, iZip2_ap, iRng1_ap, eLc_ap, keep_nil, keep_zero, opI, opIc, opB, opAdd, opLen, opNeg, opMax, opMin, opAbs, opInt, opIx, opIsNotN, opIsN, isNon, opTuple, opList, opRev, opSl, opSlL, isi_int, isi_boolint, isi_tuple, items?, opEq_int, opNe_int, setAll, forgetAll, wipeE, backE, lentAt, fill, List.cons_append, List.nil_append, List.append_nil, List.replicate_succ, List.replicate_zero, List.getElem?_cons_zero, List.getElem?_cons_succ, List.set_cons_zero, List.set_cons_succ, List.map_cons, List.map_nil, List.length_cons, List.length_nil, List.length_map, List.length_replicate, List.all_nil, List.all_cons, Option.isSome, Option.bind_some, Option.map_some, Option.getD_some, Option.bind_none, Option.map_none, Nat.reduceAdd, Nat.zero_add, beq_self_eq_true, Bool.and_true, Bool.true_and, Bool.false_eq_true, reduceIte, reduceCtorEq, if_true, if_false, Bool.not_true, Bool.not_false, decide_true, decide_false]⟩
theorem sumK_zip (k : Nat) : ∀ (rows : List (List Int)) (fs : List Int), ((fs.zip rows).map fun q => q.1 * (q.2[k]?).getD 0).sum = sumK k (rows.zip fs)
  | [], fs => by simp [sumK]
  | r :: rows, [] => by simp [sumK]
  | r :: rows, c :: fs => by
    rw [List.zip_cons_cons, List.map_cons, List.sum_cons, sumK_zip k rows fs]
    rfl
theorem m_due (d : Int × Int × Int) (p : Int) (w many far : Nat) (rows cs : List (List Int)) (fs mx : List Int) (hp : 0 < p) (hp2 : p < 1000000) (hw : w ≤ 1000) (hr : rows.length ≤ 1000) (h : Rows p w rows) (hf : Nums p fs) (hm : mx = mixf p (rows.zip fs) (List.replicate w 0)) :
    lcL (gNm 22) tYes' (eBin opMod (eUn opInt (eUn opSum (eLc (iZip2 (eVar 6) (eVar 5)) (gTp 2 (gsCons (gNm 24) (gsCons (gNm 23) gsNil))) tYes' (eBin opMul (eVar 24) (eBin opIx (eVar 23) (eVar 22))) [24, 23]))) (eVar 1)) [22] ((List.range w).map fun (i : Nat) => PV.int (i : Int)) [some (D d), some (.int p), some (.int w), some (.int many), some (.int far), some (tT rows), some (tI fs), some (lT cs), some (tI mx), none, none, none, none, none, none, none, none, none, none, none, none, none, none, none, none, none] = some (mx.map .int, [some (D d), some (.int p), some (.int w), some (.int many), some (.int far), some (tT rows), some (tI fs), some (lT cs), some (tI mx), none, none, none, none, none, none, none, none, none, none, none, none, none, none, none, none, none]) := by
  have hpd : decide (0 < p) = true := decide_eq_true hp
  have l1 : ∀ (k : Nat), k < w → lcL (gTp 2 (gsCons (gNm 24) (gsCons (gNm 23) gsNil))) tYes' (eBin opMul (eVar 24) (eBin opIx (eVar 23) (eVar 22))) [24, 23] ((fs.zip rows).map fun q => PV.tup [.int q.1, tI q.2]) [some (D d), some (.int p), some (.int w), some (.int many), some (.int far), some (tT rows), some (tI fs), some (lT cs), some (tI mx), none, none, none, none, none, none, none, none, none, none, none, none, none, some (.int k), none, none, none] = some ((fs.zip rows).map fun q => .int (q.1 * (q.2[k]?).getD 0), [some (D d), some (.int p), some (.int w), some (.int many), some (.int far), some (tT rows), some (tI fs), some (lT cs), some (tI mx), none, none, none, none, none, none, none, none, none, none, none, none, none, some (.int k), none, none, none]) := fun k hk =>
    lcL_map fun q hq => ⟨[some (D d), some (.int p), some (.int w), some (.int many), some (.int far), some (tT rows), some (tI fs), some (lT cs), some (tI mx), none, none, none, none, none, none, none, none, none, none, none, none, none, some (.int k), some (tI q.2), some (.int q.1), none], [some (D d), some (.int p), some (.int w), some (.int many), some (.int far), some (tT rows), some (tI fs), some (lT cs), some (tI mx), none, none, none, none, none, none, none, none, none, none, none, none, none, some (.int k), some (tI q.2), some (.int q.1), none], by simp -implicitDefEqProofs only [semDef_ap, sSeq_ap, sSet_ap, sRet_ap, sIf_ap, sExpr_ap, sNil_ap, sNever_ap, sAug_ap, sPar_ap, sAsgT_ap, sStore_ap, sAugStore_ap, sFor_ap, sForO_ap, sWhile_ap, turn_ap, gNm_ap, gsNil_ap, gsCons_ap, gTp_ap, eVar_ap, eMove_ap, eC_ap, eBin_ap, eUn_ap, tOf_ap, tvAnd_ap, tvOr_ap, tvNot_ap, eAnd_ap, eOr_ap, eNot_ap, eIf_ap, eChain_ap, aNil_ap, aCons_ap, aStar_ap, eTup_ap, eLst_ap, eCall_ap, eCallL_ap, lNil_ap, lSh_ap, lLe_ap, lstAt_ap, eOwn2_ap, eSl_ap, pNo_ap, pSome_ap, eLstRg1_ap, eTupRg1_ap, eApp_ap, eExtend_ap, iOf_ap, iEnum_ap, iZip2_ap, iRng1_ap, eLc_ap, keep_nil, keep_zero, opI, opIc, opB, opAdd, opLen, opNeg, opMax, opMin, opAbs, opInt, opIx, opIsNotN, opIsN, isNon, opTuple, opList, opRev, opSl, opSlL, isi_int, isi_boolint, isi_tuple, items?, opEq_int, opNe_int, setAll, forgetAll, wipeE, backE, lentAt, fill, List.cons_append, List.nil_append, List.append_nil, List.replicate_succ, List.replicate_zero, List.getElem?_cons_zero, List.getElem?_cons_succ, List.set_cons_zero, List.set_cons_succ, List.map_cons, List.map_nil, List.length_cons, List.length_nil, List.length_map, List.length_replicate, List.all_nil, List.all_cons, Option.isSome, Option.bind_some, Option.map_some, Option.getD_some, Option.bind_none, Option.map_none, Nat.reduceAdd, Nat.zero_add, beq_self_eq_true, Bool.and_true, Bool.true_and, Bool.false_eq_true, reduceIte, reduceCtorEq, if_true, if_false, Bool.not_true, Bool.not_false, decide_true, decide_false], by
      have h1 := h.len _ (List.of_mem_zip hq).2
      have h2 := hf _ (List.of_mem_zip hq).1
      have hlt : k < q.2.length := by omega
      have hi : L2.atI (q.2.map PV.int) (k : Int) = some (.int ((q.2[k]?).getD 0)) := atI_nat (by rw [List.getElem?_map, List.getElem?_eq_getElem hlt]; rfl)
      simp -implicitDefEqProofs only [semDef_ap, sSeq_ap, sSet_ap, sRet_ap, sIf_ap, sExpr_ap, sNil_ap, sNever_ap, sAug_ap, sPar_ap, sAsgT_ap, sStore_ap, sAugStore_ap, sFor_ap, sForO_ap, sWhile_ap, turn_ap, gNm_ap, gsNil_ap, gsCons_ap, gTp_ap, eVar_ap, eMove_ap, eC_ap, eBin_ap, eUn_ap, tOf_ap, tvAnd_ap, tvOr_ap, tvNot_ap, eAnd_ap, eOr_ap, eNot_ap, eIf_ap, eChain_ap, aNil_ap, aCons_ap, aStar_ap, eTup_ap, eLst_ap, eCall_ap, eCallL_ap, lNil_ap, lSh_ap, lLe_ap, lstAt_ap, eOwn2_ap, eSl_ap, pNo_ap, pSome_ap, eLstRg1_ap, eTupRg1_ap, eApp_ap, eExtend_ap, iOf_ap, iEnum_ap, iZip2_ap, iRng1_ap, eLc_ap, keep_nil, keep_zero, opI, opIc, opB, opAdd, opLen, opNeg, opMax, opMin, opAbs, opInt, opIx, opIsNotN, opIsN, isNon, opTuple, opList, opRev, opSl, opSlL, isi_int, isi_boolint, isi_tuple, items?, opEq_int, opNe_int, setAll, forgetAll, wipeE, backE, lentAt, fill, List.cons_append, List.nil_append, List.append_nil, List.replicate_succ, List.replicate_zero, List.getElem?_cons_zero, List.getElem?_cons_succ, List.set_cons_zero, List.set_cons_succ, List.map_cons, List.map_nil, List.length_cons, List.length_nil, List.length_map, List.length_replicate, List.all_nil, List.all_cons, Option.isSome, Option.bind_some, Option.map_some, Option.getD_some, Option.bind_none, Option.map_none, Nat.reduceAdd, Nat.zero_add, beq_self_eq_true, Bool.and_true, Bool.true_and, Bool.false_eq_true, reduceIte, reduceCtorEq, if_true, if_false, Bool.not_true, Bool.not_false, decide_true, decide_false, hi, mulOk_left (i := q.1) (j := (q.2[k]?).getD 0) (by omega) (by omega)], by simp -implicitDefEqProofs only [semDef_ap, sSeq_ap, sSet_ap, sRet_ap, sIf_ap, sExpr_ap, sNil_ap, sNever_ap, sAug_ap, sPar_ap, sAsgT_ap, sStore_ap, sAugStore_ap, sFor_ap, sForO_ap, sWhile_ap, turn_ap, gNm_ap, gsNil_ap, gsCons_ap, gTp_ap, eVar_ap, eMove_ap, eC_ap, eBin_ap, eUn_ap, tOf_ap, tvAnd_ap, tvOr_ap, tvNot_ap, eAnd_ap, eOr_ap, eNot_ap, eIf_ap, eChain_ap, aNil_ap, aCons_ap, aStar_ap, eTup_ap, eLst_ap, eCall_ap, eCallL_ap, lNil_ap, lSh_ap, lLe_ap, lstAt_ap, eOwn2_ap, eSl_ap, pNo_ap, pSome_ap, eLstRg1_ap, eTupRg1_ap, eApp_ap, eExtend_ap, iOf_ap, iEnum_ap, iZip2_ap, iRng1_ap, eLc_ap, keep_nil, keep_zero, opI, opIc, opB, opAdd, opLen, opNeg, opMax, opMin, opAbs, opInt, opIx, opIsNotN, opIsN, isNon, opTuple, opList, opRev, opSl, opSlL, isi_int, isi_boolint, isi_tuple, items?, opEq_int, opNe_int, setAll, forgetAll, wipeE, backE, lentAt, fill, List.cons_append, List.nil_append, List.append_nil, List.replicate_succ, List.replicate_zero, List.getElem?_cons_zero, List.getElem?_cons_succ, List.set_cons_zero, List.set_cons_succ, List.map_cons, List.map_nil, List.length_cons, List.length_nil, List.length_map, List.length_replicate, List.all_nil, List.all_cons, Option.isSome, Option.bind_some, Option.map_some, Option.getD_some, Option.bind_none, Option.map_none, Nat.reduceAdd, Nat.zero_add, beq_self_eq_true, Bool.and_true, Bool.true_and, Bool.false_eq_true, reduceIte, reduceCtorEq, if_true, if_false, Bool.not_true, Bool.not_false, decide_true, decide_false]⟩
  have em : ∀ k : Nat, ((fs.zip rows).map fun q => PV.int (q.1 * (q.2[k]?).getD 0)) = ((fs.zip rows).map fun q => q.1 * (q.2[k]?).getD 0).map .int := fun k => by rw [List.map_map]; rfl
  have lm : mx = (List.range w).map fun k => sumK k (rows.zip fs) % p := by
    subst hm
    have hml := mixf_length (p := p) (w := w) (rows.zip fs) (List.replicate w 0) (fun q hq => h.len _ (List.of_mem_zip hq).1) (by simp)
    apply List.ext_getElem?
    intro k
    by_cases hk : k < w
    · rw [mixf_get hp k hk (rows.zip fs) (List.replicate w 0) (fun q hq => h.len _ (List.of_mem_zip hq).1) (by simp) fun x hx => by rw [(List.mem_replicate.mp hx).2]; omega]
      rw [List.getElem?_map, List.getElem?_range hk, List.getElem?_replicate, if_pos hk]
      show some ((0 + sumK k (rows.zip fs)) % p) = some (sumK k (rows.zip fs) % p)
      rw [Int.zero_add]
    · rw [List.getElem?_eq_none (by omega), List.getElem?_eq_none (by simp; omega)]
  have em2 : mx.map PV.int = (List.range w).map fun k => PV.int (sumK k (rows.zip fs) % p) := by
    rw [lm, List.map_map]
    rfl
  rw [em2]
  refine lcL_map fun k hk => ⟨[some (D d), some (.int p), some (.int w), some (.int many), some (.int far), some (tT rows), some (tI fs), some (lT cs), some (tI mx), none, none, none, none, none, none, none, none, none, none, none, none, none, some (.int k), none, none, none], [some (D d), some (.int p), some (.int w), some (.int many), some (.int far), some (tT rows), some (tI fs), some (lT cs), some (tI mx), none, none, none, none, none, none, none, none, none, none, none, none, none, some (.int k), none, none, none], by simp -implicitDefEqProofs only [semDef_ap, sSeq_ap, sSet_ap, sRet_ap, sIf_ap, sExpr_ap, sNil_ap, sNever_ap, sAug_ap, sPar_ap, sAsgT_ap, sStore_ap, sAugStore_ap, sFor_ap, sForO_ap, sWhile_ap, turn_ap, gNm_ap, gsNil_ap, gsCons_ap, gTp_ap, eVar_ap, eMove_ap, eC_ap, eBin_ap, eUn_ap, tOf_ap, tvAnd_ap, tvOr_ap, tvNot_ap, eAnd_ap, eOr_ap, eNot_ap, eIf_ap, eChain_ap, aNil_ap, aCons_ap, aStar_ap, eTup_ap, eLst_ap, eCall_ap, eCallL_ap, lNil_ap, lSh_ap, lLe_ap, lstAt_ap, eOwn2_ap, eSl_ap, pNo_ap, pSome_ap, eLstRg1_ap, eTupRg1_ap, eApp_ap, eExtend_ap, iOf_ap, iEnum_ap, iZip2_ap, iRng1_ap, eLc_ap, keep_nil, keep_zero, opI, opIc, opB, opAdd, opLen, opNeg, opMax, opMin, opAbs, opInt, opIx, opIsNotN, opIsN, isNon, opTuple, opList, opRev, opSl, opSlL, isi_int, isi_boolint, isi_tuple, items?, opEq_int, opNe_int, setAll, forgetAll, wipeE, backE, lentAt, fill, List.cons_append, List.nil_append, List.append_nil, List.replicate_succ, List.replicate_zero, List.getElem?_cons_zero, List.getElem?_cons_succ, List.set_cons_zero, List.set_cons_succ, List.map_cons, List.map_nil, List.length_cons, List.length_nil, List.length_map, List.length_replicate, List.all_nil, List.all_cons, Option.isSome, Option.bind_some, Option.map_some, Option.getD_some, Option.bind_none, Option.map_none, Nat.reduceAdd, Nat.zero_add, beq_self_eq_true, Bool.and_true, Bool.true_and, Bool.false_eq_true, reduceIte, reduceCtorEq, if_true, if_false, Bool.not_true, Bool.not_false, decide_true, decide_false], ?_, by simp -implicitDefEqProofs only [semDef_ap, sSeq_ap, sSet_ap, sRet_ap, sIf_ap, sExpr_ap, sNil_ap, sNever_ap, sAug_ap, sPar_ap, sAsgT_ap, sStore_ap, sAugStore_ap, sFor_ap, sForO_ap, sWhile_ap, turn_ap, gNm_ap, gsNil_ap, gsCons_ap, gTp_ap, eVar_ap, eMove_ap, eC_ap, eBin_ap, eUn_ap, tOf_ap, tvAnd_ap, tvOr_ap, tvNot_ap, eAnd_ap, eOr_ap, eNot_ap, eIf_ap, eChain_ap, aNil_ap, aCons_ap, aStar_ap, eTup_ap, eLst_ap, eCall_ap, eCallL_ap, lNil_ap, lSh_ap, lLe_ap, lstAt_ap, eOwn2_ap, eSl_ap, pNo_ap, pSome_ap, eLstRg1_ap, eTupRg1_ap, eApp_ap, eExtend_ap, iOf_ap, iEnum_ap, iZip2_ap, iRng1_ap, eLc_ap, keep_nil, keep_zero, opI, opIc, opB, opAdd, opLen, opNeg, opMax, opMin, opAbs, opInt, opIx, opIsNotN, opIsN, isNon, opTuple, opList, opRev, opSl, opSlL, isi_int, isi_boolint, isi_tuple, items?, opEq_int, opNe_int, setAll, forgetAll, wipeE, backE, lentAt, fill, List.cons_append, List.nil_append, List.append_nil, List.replicate_succ, List.replicate_zero, List.getElem?_cons_zero, List.getElem?_cons_succ, List.set_cons_zero, List.set_cons_succ, List.map_cons, List.map_nil, List.length_cons, List.length_nil, List.length_map, List.length_replicate, List.all_nil, List.all_cons, Option.isSome, Option.bind_some, Option.map_some, Option.getD_some, Option.bind_none, Option.map_none, Nat.reduceAdd, Nat.zero_add, beq_self_eq_true, Bool.and_true, Bool.true_and, Bool.false_eq_true, reduceIte, reduceCtorEq, if_true, if_false, Bool.not_true, Bool.not_false, decide_true, decide_false]⟩
  have hk := List.mem_range.mp hk
  simp -implicitDefEqProofs only [semDef_ap, sSeq_ap, sSet_ap, sRet_ap, sIf_ap, sExpr_ap, sNil_ap, sNever_ap, sAug_ap, sPar_ap, sAsgT_ap, sStore_ap, sAugStore_ap, sFor_ap, sForO_ap, sWhile_ap, turn_ap, gNm_ap, gsNil_ap, gsCons_ap, gTp_ap, eVar_ap, eMove_ap, eC_ap, eBin_ap, eUn_ap, tOf_ap, tvAnd_ap, tvOr_ap, tvNot_ap, eAnd_ap, eOr_ap, eNot_ap, eIf_ap, eChain_ap, aNil_ap, aCons_ap, aStar_ap, eTup_ap, eLst_ap, eCall_ap, eCallL_ap, lNil_ap, lSh_ap, lLe_ap, lstAt_ap, eOwn2_ap, eSl_ap, pNo_ap, pSome_ap, eLstRg1_ap, eTupRg1_ap, eApp_ap, eExtend_ap, iOf_ap, iEnum_ap, iZip2_ap, iRng1_ap, eLc_ap, keep_nil, keep_zero, opI, opIc, opB, opAdd, opLen, opNeg, opMax, opMin, opAbs, opInt, opIx, opIsNotN, opIsN, isNon, opTuple, opList, opRev, opSl, opSlL, isi_int, isi_boolint, isi_tuple, items?, opEq_int, opNe_int, setAll, forgetAll, wipeE, backE, lentAt, fill, List.cons_append, List.nil_append, List.append_nil, List.replicate_succ, List.replicate_zero, List.getElem?_cons_zero, List.getElem?_cons_succ, List.set_cons_zero, List.set_cons_succ, List.map_cons, List.map_nil, List.length_cons, List.length_nil, List.length_map, List.length_replicate, List.all_nil, List.all_cons, Option.isSome, Option.bind_some, Option.map_some, Option.getD_some, Option.bind_none, Option.map_none, Nat.reduceAdd, Nat.zero_add, beq_self_eq_true, Bool.and_true, Bool.true_and, Bool.false_eq_true, reduceIte, reduceCtorEq, if_true, if_false, Bool.not_true, Bool.not_false, decide_true, decide_false, zipP_map, List.length_zip, fits_of (show min fs.length rows.length ≤ 16777216 by omega), l1 k hk, em k, opSum_ints, sumK_zip, hpd]
theorem Rows.set {p : Int} {m : Nat} {cs : List (List Int)} {c : List Int} (h : Rows p m cs) (hc : Nums p c) (hl : c.length = m) (k : Nat) : Rows p m (cs.set k c) := ⟨fun r hr => (List.mem_or_eq_of_mem_set hr).elim (h.nums r) fun e => by rw [e]; exact hc, fun r hr => (List.mem_or_eq_of_mem_set hr).elim (h.len r) fun e => by rw [e]; exact hl⟩
theorem m_two (d : Int × Int × Int) (p : Int) (w many far : Nat) (rows cs : List (List Int)) (fs mx due other : List Int) (hp : 0 < p) (hp2 : p < 1000000) (hm : many ≤ 1000) (hf : 1 ≤ far) (hf2 : far ≤ 1000) (hl : cs.length = far) (h : Rows p many cs) :
    ∃ (cs' : List (List Int)) (d' : Int × Int × Int), forL (turn (gNm 11) (sSeq (sSet 12 (eCallL 2 0 0 m__law_roll (lLe 0 (lSh (eVar 4) lNil))))
    (sStore 7 (eVar 12) (eCallL 3 0 0 m__law_row (lLe 0 (lSh (eVar 1) (lSh (eVar 3) lNil)))))) [11, 12]) ((List.range 2).map fun (i : Nat) => PV.int (i : Int)) [some (D d), some (.int p), some (.int w), some (.int many), some (.int far), some (tT rows), some (tI fs), some (lT cs), some (tI mx), some (lI due), some (tI other), none, none, none, none, none, none, none, none, none, none, none, none, none, none, none] = some (.nx, [some (D d'), some (.int p), some (.int w), some (.int many), some (.int far), some (tT rows), some (tI fs), some (lT cs'), some (tI mx), some (lI due), some (tI other), none, none, none, none, none, none, none, none, none, none, none, none, none, none, none]) ∧ cs'.length = far ∧ Rows p many cs' := by
  obtain ⟨ρ', e, cs', d', rfl, h1, h2⟩ := forL_inv (f := (turn (gNm 11) (sSeq (sSet 12 (eCallL 2 0 0 m__law_roll (lLe 0 (lSh (eVar 4) lNil))))
    (sStore 7 (eVar 12) (eCallL 3 0 0 m__law_row (lLe 0 (lSh (eVar 1) (lSh (eVar 3) lNil)))))) [11, 12])) (xs := (List.range 2).map fun (i : Nat) => PV.int (i : Int)) (ρ := [some (D d), some (.int p), some (.int w), some (.int many), some (.int far), some (tT rows), some (tI fs), some (lT cs), some (tI mx), some (lI due), some (tI other), none, none, none, none, none, none, none, none, none, none, none, none, none, none, none]) (fun _ ρ => ∃ (cs : List (List Int)) (d : Int × Int × Int), ρ = [some (D d), some (.int p), some (.int w), some (.int many), some (.int far), some (tT rows), some (tI fs), some (lT cs), some (tI mx), some (lI due), some (tI other), none, none, none, none, none, none, none, none, none, none, none, none, none, none, none] ∧ cs.length = far ∧ Rows p many cs) (fun i x ρ hx hI => by
    obtain ⟨cs, d, rfl, h1, h2⟩ := hI
    obtain ⟨r, d1, e1, r0, r1⟩ := s_roll d far (by omega) (by omega)
    obtain ⟨c, d2, e2, l2, n2⟩ := s_row d1 p many hp hp2 hm
    have hix : L2.ixN far r = some r.toNat := ixN_of r0 r1
    refine ⟨[some (D d2), some (.int p), some (.int w), some (.int many), some (.int far), some (tT rows), some (tI fs), some (lT (cs.set r.toNat c)), some (tI mx), some (lI due), some (tI other), none, none, none, none, none, none, none, none, none, none, none, none, none, none, none], ?_, cs.set r.toNat c, d2, rfl, by rw [List.length_set]; exact h1, h2.set n2 l2 _⟩
    simp -implicitDefEqProofs only [semDef_ap, sSeq_ap, sSet_ap, sRet_ap, sIf_ap, sExpr_ap, sNil_ap, sNever_ap, sAug_ap, sPar_ap, sAsgT_ap, sStore_ap, sAugStore_ap, sFor_ap, sForO_ap, sWhile_ap, turn_ap, gNm_ap, gsNil_ap, gsCons_ap, gTp_ap, eVar_ap, eMove_ap, eC_ap, eBin_ap, eUn_ap, tOf_ap, tvAnd_ap, tvOr_ap, tvNot_ap, eAnd_ap, eOr_ap, eNot_ap, eIf_ap, eChain_ap, aNil_ap, aCons_ap, aStar_ap, eTup_ap, eLst_ap, eCall_ap, eCallL_ap, lNil_ap, lSh_ap, lLe_ap, lstAt_ap, eOwn2_ap, eSl_ap, pNo_ap, pSome_ap, eLstRg1_ap, eTupRg1_ap, eApp_ap, eExtend_ap, iOf_ap, iEnum_ap, iZip2_ap, iRng1_ap, eLc_ap, keep_nil, keep_zero, opI, opIc, opB, opAdd, opLen, opNeg, opMax, opMin, opAbs, opInt, opIx, opIsNotN, opIsN, isNon, opTuple, opList, opRev, opSl, opSlL, isi_int, isi_boolint, isi_tuple, items?, opEq_int, opNe_int, setAll, forgetAll, wipeE, backE, lentAt, fill, List.cons_append, List.nil_append, List.append_nil, List.replicate_succ, List.replicate_zero, List.getElem?_cons_zero, List.getElem?_cons_succ, List.set_cons_zero, List.set_cons_succ, List.map_cons, List.map_nil, List.length_cons, List.length_nil, List.length_map, List.length_replicate, List.all_nil, List.all_cons, Option.isSome, Option.bind_some, Option.map_some, Option.getD_some, Option.bind_none, Option.map_none, Nat.reduceAdd, Nat.zero_add, beq_self_eq_true, Bool.and_true, Bool.true_and, Bool.false_eq_true, reduceIte, reduceCtorEq, if_true, if_false, Bool.not_true, Bool.not_false, decide_true, decide_false, e1, e2, h1, hix, ← List.map_set]) ⟨cs, d, rfl, hl, h⟩
  exact ⟨cs', d', e, h1, h2⟩
theorem m_told (d : Int × Int × Int) (p : Int) (w many far : Nat) (rows : List (List Int)) (fs mx due other : List Int) (hp : 0 < p) (hp2 : p < 1000000) (hf : Nums p fs) (hf1 : fs.length ≤ 1000) : ∀ (cs : List (List Int)) (n : Nat) (told : List Int), n + cs.length ≤ 1000 → told.length ≤ n → 
    forL (turn (gTp 2 (gsCons (gNm 14) (gsCons (gNm 15) gsNil))) (sSeq (sSet 16 (eBin opMod (eUn opInt (eUn opSum (eLc (iZip2 (eVar 6) (eVar 15)) (gTp 2 (gsCons (gNm 24) (gsCons (gNm 25) gsNil))) tYes' (eBin opMul (eVar 24) (eVar 25)) [24, 25]))) (eVar 1)))
    (sSet 13 (eBin opAdd (eVar 13) (eBin opRep (eLst (aCons (eVar 14) aNil)) (eUn opInt (eBin opEq (eVar 16) (eCall 3 m__law_po_worth (aCons (eVar 1) (aCons (eVar 10) (aCons (eVar 14) aNil)))))))))) [14, 15, 16]) (enumP n (cs.map tI)) [some (D d), some (.int p), some (.int w), some (.int many), some (.int far), some (tT rows), some (tI fs), none, some (tI mx), some (lI due), some (tI other), none, none, some (lI told), none, none, none, none, none, none, none, none, none, none, none, none] = some (.nx, [some (D d), some (.int p), some (.int w), some (.int many), some (.int far), some (tT rows), some (tI fs), none, some (tI mx), some (lI due), some (tI other), none, none, some (lI (told ++ ((cs.zipIdx n).filter fun q => decide (dot p fs q.1 = worth p other q.2)).map fun q => ((q.2 : Nat) : Int))), none, none, none, none, none, none, none, none, none, none, none, none]) := by
  have hpd : decide (0 < p) = true := decide_eq_true hp
  intro cs
  induction cs with
  | nil =>
    intro n told _ _
    simp only [List.zipIdx_nil, List.filter_nil, List.map_nil, List.append_nil, enumP, forL]
  | cons c cs ih =>
    intro n told hn hl
    simp only [List.length_cons] at hn
    have lc : lcL (gTp 2 (gsCons (gNm 24) (gsCons (gNm 25) gsNil))) tYes' (eBin opMul (eVar 24) (eVar 25)) [24, 25] ((fs.zip c).map fun q : Int × Int => PV.tup [.int q.1, .int q.2]) [some (D d), some (.int p), some (.int w), some (.int many), some (.int far), some (tT rows), some (tI fs), none, some (tI mx), some (lI due), some (tI other), none, none, some (lI told), some (.int n), some (tI c), none, none, none, none, none, none, none, none, none, none] = some ((fs.zip c).map fun q : Int × Int => .int (q.1 * q.2), [some (D d), some (.int p), some (.int w), some (.int many), some (.int far), some (tT rows), some (tI fs), none, some (tI mx), some (lI due), some (tI other), none, none, some (lI told), some (.int n), some (tI c), none, none, none, none, none, none, none, none, none, none]) :=
      lcL_map fun q hq => ⟨[some (D d), some (.int p), some (.int w), some (.int many), some (.int far), some (tT rows), some (tI fs), none, some (tI mx), some (lI due), some (tI other), none, none, some (lI told), some (.int n), some (tI c), none, none, none, none, none, none, none, none, some (.int q.1), some (.int q.2)], [some (D d), some (.int p), some (.int w), some (.int many), some (.int far), some (tT rows), some (tI fs), none, some (tI mx), some (lI due), some (tI other), none, none, some (lI told), some (.int n), some (tI c), none, none, none, none, none, none, none, none, some (.int q.1), some (.int q.2)], by simp -implicitDefEqProofs only [semDef_ap, sSeq_ap, sSet_ap, sRet_ap, sIf_ap, sExpr_ap, sNil_ap, sNever_ap, sAug_ap, sPar_ap, sAsgT_ap, sStore_ap, sAugStore_ap, sFor_ap, sForO_ap, sWhile_ap, turn_ap, gNm_ap, gsNil_ap, gsCons_ap, gTp_ap, eVar_ap, eMove_ap, eC_ap, eBin_ap, eUn_ap, tOf_ap, tvAnd_ap, tvOr_ap, tvNot_ap, eAnd_ap, eOr_ap, eNot_ap, eIf_ap, eChain_ap, aNil_ap, aCons_ap, aStar_ap, eTup_ap, eLst_ap, eCall_ap, eCallL_ap, lNil_ap, lSh_ap, lLe_ap, lstAt_ap, eOwn2_ap, eSl_ap, pNo_ap, pSome_ap, eLstRg1_ap, eTupRg1_ap, eApp_ap, eExtend_ap, iOf_ap, iEnum_ap, iZip2_ap, iRng1_ap, eLc_ap, keep_nil, keep_zero, opI, opIc, opB, opAdd, opLen, opNeg, opMax, opMin, opAbs, opInt, opIx, opIsNotN, opIsN, isNon, opTuple, opList, opRev, opSl, opSlL, isi_int, isi_boolint, isi_tuple, items?, opEq_int, opNe_int, setAll, forgetAll, wipeE, backE, lentAt, fill, List.cons_append, List.nil_append, List.append_nil, List.replicate_succ, List.replicate_zero, List.getElem?_cons_zero, List.getElem?_cons_succ, List.set_cons_zero, List.set_cons_succ, List.map_cons, List.map_nil, List.length_cons, List.length_nil, List.length_map, List.length_replicate, List.all_nil, List.all_cons, Option.isSome, Option.bind_some, Option.map_some, Option.getD_some, Option.bind_none, Option.map_none, Nat.reduceAdd, Nat.zero_add, beq_self_eq_true, Bool.and_true, Bool.true_and, Bool.false_eq_true, reduceIte, reduceCtorEq, if_true, if_false, Bool.not_true, Bool.not_false, decide_true, decide_false], by
        have := hf q.1 (List.of_mem_zip hq).1
        simp -implicitDefEqProofs only [semDef_ap, sSeq_ap, sSet_ap, sRet_ap, sIf_ap, sExpr_ap, sNil_ap, sNever_ap, sAug_ap, sPar_ap, sAsgT_ap, sStore_ap, sAugStore_ap, sFor_ap, sForO_ap, sWhile_ap, turn_ap, gNm_ap, gsNil_ap, gsCons_ap, gTp_ap, eVar_ap, eMove_ap, eC_ap, eBin_ap, eUn_ap, tOf_ap, tvAnd_ap, tvOr_ap, tvNot_ap, eAnd_ap, eOr_ap, eNot_ap, eIf_ap, eChain_ap, aNil_ap, aCons_ap, aStar_ap, eTup_ap, eLst_ap, eCall_ap, eCallL_ap, lNil_ap, lSh_ap, lLe_ap, lstAt_ap, eOwn2_ap, eSl_ap, pNo_ap, pSome_ap, eLstRg1_ap, eTupRg1_ap, eApp_ap, eExtend_ap, iOf_ap, iEnum_ap, iZip2_ap, iRng1_ap, eLc_ap, keep_nil, keep_zero, opI, opIc, opB, opAdd, opLen, opNeg, opMax, opMin, opAbs, opInt, opIx, opIsNotN, opIsN, isNon, opTuple, opList, opRev, opSl, opSlL, isi_int, isi_boolint, isi_tuple, items?, opEq_int, opNe_int, setAll, forgetAll, wipeE, backE, lentAt, fill, List.cons_append, List.nil_append, List.append_nil, List.replicate_succ, List.replicate_zero, List.getElem?_cons_zero, List.getElem?_cons_succ, List.set_cons_zero, List.set_cons_succ, List.map_cons, List.map_nil, List.length_cons, List.length_nil, List.length_map, List.length_replicate, List.all_nil, List.all_cons, Option.isSome, Option.bind_some, Option.map_some, Option.getD_some, Option.bind_none, Option.map_none, Nat.reduceAdd, Nat.zero_add, beq_self_eq_true, Bool.and_true, Bool.true_and, Bool.false_eq_true, reduceIte, reduceCtorEq, if_true, if_false, Bool.not_true, Bool.not_false, decide_true, decide_false, mulOk_left (i := q.1) (j := q.2) (by omega) (by omega)], by simp -implicitDefEqProofs only [semDef_ap, sSeq_ap, sSet_ap, sRet_ap, sIf_ap, sExpr_ap, sNil_ap, sNever_ap, sAug_ap, sPar_ap, sAsgT_ap, sStore_ap, sAugStore_ap, sFor_ap, sForO_ap, sWhile_ap, turn_ap, gNm_ap, gsNil_ap, gsCons_ap, gTp_ap, eVar_ap, eMove_ap, eC_ap, eBin_ap, eUn_ap, tOf_ap, tvAnd_ap, tvOr_ap, tvNot_ap, eAnd_ap, eOr_ap, eNot_ap, eIf_ap, eChain_ap, aNil_ap, aCons_ap, aStar_ap, eTup_ap, eLst_ap, eCall_ap, eCallL_ap, lNil_ap, lSh_ap, lLe_ap, lstAt_ap, eOwn2_ap, eSl_ap, pNo_ap, pSome_ap, eLstRg1_ap, eTupRg1_ap, eApp_ap, eExtend_ap, iOf_ap, iEnum_ap, iZip2_ap, iRng1_ap, eLc_ap, keep_nil, keep_zero, opI, opIc, opB, opAdd, opLen, opNeg, opMax, opMin, opAbs, opInt, opIx, opIsNotN, opIsN, isNon, opTuple, opList, opRev, opSl, opSlL, isi_int, isi_boolint, isi_tuple, items?, opEq_int, opNe_int, setAll, forgetAll, wipeE, backE, lentAt, fill, List.cons_append, List.nil_append, List.append_nil, List.replicate_succ, List.replicate_zero, List.getElem?_cons_zero, List.getElem?_cons_succ, List.set_cons_zero, List.set_cons_succ, List.map_cons, List.map_nil, List.length_cons, List.length_nil, List.length_map, List.length_replicate, List.all_nil, List.all_cons, Option.isSome, Option.bind_some, Option.map_some, Option.getD_some, Option.bind_none, Option.map_none, Nat.reduceAdd, Nat.zero_add, beq_self_eq_true, Bool.and_true, Bool.true_and, Bool.false_eq_true, reduceIte, reduceCtorEq, if_true, if_false, Bool.not_true, Bool.not_false, decide_true, decide_false]⟩
    have em : ((fs.zip c).map fun q : Int × Int => PV.int (q.1 * q.2)) = ((fs.zip c).map fun q => q.1 * q.2).map .int := by rw [List.map_map]; rfl
    have ew := s_po_worth p other n hp (by omega) (by omega)
    have f1 : fits 1 = true := by decide
    show forL _ (PV.tup [.int n, tI c] :: enumP (n + 1) (cs.map tI)) _ = _
    rw [List.zipIdx_cons, List.filter_cons]
    unfold forL
    by_cases hd : dot p fs c = worth p other n
    · have e1 : (turn (gTp 2 (gsCons (gNm 14) (gsCons (gNm 15) gsNil))) (sSeq (sSet 16 (eBin opMod (eUn opInt (eUn opSum (eLc (iZip2 (eVar 6) (eVar 15)) (gTp 2 (gsCons (gNm 24) (gsCons (gNm 25) gsNil))) tYes' (eBin opMul (eVar 24) (eVar 25)) [24, 25]))) (eVar 1)))
    (sSet 13 (eBin opAdd (eVar 13) (eBin opRep (eLst (aCons (eVar 14) aNil)) (eUn opInt (eBin opEq (eVar 16) (eCall 3 m__law_po_worth (aCons (eVar 1) (aCons (eVar 10) (aCons (eVar 14) aNil)))))))))) [14, 15, 16]) (PV.tup [.int n, tI c]) [some (D d), some (.int p), some (.int w), some (.int many), some (.int far), some (tT rows), some (tI fs), none, some (tI mx), some (lI due), some (tI other), none, none, some (lI told), none, none, none, none, none, none, none, none, none, none, none, none] = some (.nx, [some (D d), some (.int p), some (.int w), some (.int many), some (.int far), some (tT rows), some (tI fs), none, some (tI mx), some (lI due), some (tI other), none, none, some (.lst (told.map PV.int ++ [PV.int n])), none, none, none, none, none, none, none, none, none, none, none, none]) := by
        have hd' : decide (((fs.zip c).map fun q => q.1 * q.2).sum % p = worth p other n) = true := decide_eq_true hd
        have k1 : (decide (-(2 ^ 63) ≤ (1 : Int) ∧ (1 : Int) < 2 ^ 63) && fits (1 * (1 : Int).toNat)) = true := by decide
        have k2 : (List.replicate (1 : Int).toNat [PV.int (n : Int)]).flatten = [(n : Int)].map .int := rfl
        simp -implicitDefEqProofs only [semDef_ap, sSeq_ap, sSet_ap, sRet_ap, sIf_ap, sExpr_ap, sNil_ap, sNever_ap, sAug_ap, sPar_ap, sAsgT_ap, sStore_ap, sAugStore_ap, sFor_ap, sForO_ap, sWhile_ap, turn_ap, gNm_ap, gsNil_ap, gsCons_ap, gTp_ap, eVar_ap, eMove_ap, eC_ap, eBin_ap, eUn_ap, tOf_ap, tvAnd_ap, tvOr_ap, tvNot_ap, eAnd_ap, eOr_ap, eNot_ap, eIf_ap, eChain_ap, aNil_ap, aCons_ap, aStar_ap, eTup_ap, eLst_ap, eCall_ap, eCallL_ap, lNil_ap, lSh_ap, lLe_ap, lstAt_ap, eOwn2_ap, eSl_ap, pNo_ap, pSome_ap, eLstRg1_ap, eTupRg1_ap, eApp_ap, eExtend_ap, iOf_ap, iEnum_ap, iZip2_ap, iRng1_ap, eLc_ap, keep_nil, keep_zero, opI, opIc, opB, opAdd, opLen, opNeg, opMax, opMin, opAbs, opInt, opIx, opIsNotN, opIsN, isNon, opTuple, opList, opRev, opSl, opSlL, isi_int, isi_boolint, isi_tuple, items?, opEq_int, opNe_int, setAll, forgetAll, wipeE, backE, lentAt, fill, List.cons_append, List.nil_append, List.append_nil, List.replicate_succ, List.replicate_zero, List.getElem?_cons_zero, List.getElem?_cons_succ, List.set_cons_zero, List.set_cons_succ, List.map_cons, List.map_nil, List.length_cons, List.length_nil, List.length_map, List.length_replicate, List.all_nil, List.all_cons, Option.isSome, Option.bind_some, Option.map_some, Option.getD_some, Option.bind_none, Option.map_none, Nat.reduceAdd, Nat.zero_add, beq_self_eq_true, Bool.and_true, Bool.true_and, Bool.false_eq_true, reduceIte, reduceCtorEq, if_true, if_false, Bool.not_true, Bool.not_false, decide_true, decide_false, zipP_map, List.length_zip, fits_of (show min fs.length c.length ≤ 16777216 by omega), lc, em, opSum_ints, hpd, ew, hd', f1, opRep, k1, k2, fits_of (show told.length + 1 ≤ 16777216 by omega)]
      have e2 : PV.lst (told.map PV.int ++ [PV.int n]) = lI (told ++ [(n : Int)]) := by simp
      rw [e1, e2]
      have := ih (n + 1) (told ++ [(n : Int)]) (by omega) (by simp; omega)
      rw [List.append_assoc] at this
      rw [if_pos (decide_eq_true hd), List.map_cons]
      exact this
    · have e1 : (turn (gTp 2 (gsCons (gNm 14) (gsCons (gNm 15) gsNil))) (sSeq (sSet 16 (eBin opMod (eUn opInt (eUn opSum (eLc (iZip2 (eVar 6) (eVar 15)) (gTp 2 (gsCons (gNm 24) (gsCons (gNm 25) gsNil))) tYes' (eBin opMul (eVar 24) (eVar 25)) [24, 25]))) (eVar 1)))
    (sSet 13 (eBin opAdd (eVar 13) (eBin opRep (eLst (aCons (eVar 14) aNil)) (eUn opInt (eBin opEq (eVar 16) (eCall 3 m__law_po_worth (aCons (eVar 1) (aCons (eVar 10) (aCons (eVar 14) aNil)))))))))) [14, 15, 16]) (PV.tup [.int n, tI c]) [some (D d), some (.int p), some (.int w), some (.int many), some (.int far), some (tT rows), some (tI fs), none, some (tI mx), some (lI due), some (tI other), none, none, some (lI told), none, none, none, none, none, none, none, none, none, none, none, none] = some (.nx, [some (D d), some (.int p), some (.int w), some (.int many), some (.int far), some (tT rows), some (tI fs), none, some (tI mx), some (lI due), some (tI other), none, none, some (lI told), none, none, none, none, none, none, none, none, none, none, none, none]) := by
        have hd' : decide (((fs.zip c).map fun q => q.1 * q.2).sum % p = worth p other n) = false := decide_eq_false hd
        have k1 : (decide (-(2 ^ 63) ≤ (0 : Int) ∧ (0 : Int) < 2 ^ 63) && fits (1 * (0 : Int).toNat)) = true := by decide
        have k2 : (List.replicate (0 : Int).toNat [PV.int (n : Int)]).flatten = [] := rfl
        simp -implicitDefEqProofs only [semDef_ap, sSeq_ap, sSet_ap, sRet_ap, sIf_ap, sExpr_ap, sNil_ap, sNever_ap, sAug_ap, sPar_ap, sAsgT_ap, sStore_ap, sAugStore_ap, sFor_ap, sForO_ap, sWhile_ap, turn_ap, gNm_ap, gsNil_ap, gsCons_ap, gTp_ap, eVar_ap, eMove_ap, eC_ap, eBin_ap, eUn_ap, tOf_ap, tvAnd_ap, tvOr_ap, tvNot_ap, eAnd_ap, eOr_ap, eNot_ap, eIf_ap, eChain_ap, aNil_ap, aCons_ap, aStar_ap, eTup_ap, eLst_ap, eCall_ap, eCallL_ap, lNil_ap, lSh_ap, lLe_ap, lstAt_ap, eOwn2_ap, eSl_ap, pNo_ap, pSome_ap, eLstRg1_ap, eTupRg1_ap, eApp_ap, eExtend_ap, iOf_ap, iEnum_ap, iZip2_ap, iRng1_ap, eLc_ap, keep_nil, keep_zero, opI, opIc, opB, opAdd, opLen, opNeg, opMax, opMin, opAbs, opInt, opIx, opIsNotN, opIsN, isNon, opTuple, opList, opRev, opSl, opSlL, isi_int, isi_boolint, isi_tuple, items?, opEq_int, opNe_int, setAll, forgetAll, wipeE, backE, lentAt, fill, List.cons_append, List.nil_append, List.append_nil, List.replicate_succ, List.replicate_zero, List.getElem?_cons_zero, List.getElem?_cons_succ, List.set_cons_zero, List.set_cons_succ, List.map_cons, List.map_nil, List.length_cons, List.length_nil, List.length_map, List.length_replicate, List.all_nil, List.all_cons, Option.isSome, Option.bind_some, Option.map_some, Option.getD_some, Option.bind_none, Option.map_none, Nat.reduceAdd, Nat.zero_add, beq_self_eq_true, Bool.and_true, Bool.true_and, Bool.false_eq_true, reduceIte, reduceCtorEq, if_true, if_false, Bool.not_true, Bool.not_false, decide_true, decide_false, zipP_map, List.length_zip, fits_of (show min fs.length c.length ≤ 16777216 by omega), lc, em, opSum_ints, hpd, ew, hd', f1, opRep, k1, k2, fits_of (show told.length + 0 ≤ 16777216 by omega)]
      rw [e1]
      have := ih (n + 1) told (by omega) (by omega)
      rw [if_neg (by rw [decide_eq_false hd]; exact Bool.false_ne_true)]
      exact this
theorem m_told0 (d : Int × Int × Int) (p : Int) (w many far : Nat) (rows : List (List Int)) (fs mx due other : List Int) (hp : 0 < p) (hp2 : p < 1000000) (hf : Nums p fs) (hf1 : fs.length ≤ 1000) (cs : List (List Int)) (hl : cs.length ≤ 1000) :
    forL (turn (gTp 2 (gsCons (gNm 14) (gsCons (gNm 15) gsNil))) (sSeq (sSet 16 (eBin opMod (eUn opInt (eUn opSum (eLc (iZip2 (eVar 6) (eVar 15)) (gTp 2 (gsCons (gNm 24) (gsCons (gNm 25) gsNil))) tYes' (eBin opMul (eVar 24) (eVar 25)) [24, 25]))) (eVar 1)))
    (sSet 13 (eBin opAdd (eVar 13) (eBin opRep (eLst (aCons (eVar 14) aNil)) (eUn opInt (eBin opEq (eVar 16) (eCall 3 m__law_po_worth (aCons (eVar 1) (aCons (eVar 10) (aCons (eVar 14) aNil)))))))))) [14, 15, 16]) (enumP 0 (cs.map tI)) [some (D d), some (.int p), some (.int w), some (.int many), some (.int far), some (tT rows), some (tI fs), none, some (tI mx), some (lI due), some (tI other), none, none, some (.lst []), none, none, none, none, none, none, none, none, none, none, none, none] = some (.nx, [some (D d), some (.int p), some (.int w), some (.int many), some (.int far), some (tT rows), some (tI fs), none, some (tI mx), some (lI due), some (tI other), none, none, some (lI (agree p cs fs other)), none, none, none, none, none, none, none, none, none, none, none, none]) := m_told d p w many far rows fs mx due other hp hp2 hf hf1 cs 0 [] (by omega) (by simp)
end Hd

namespace Hd
open PL PM
theorem rgOk_n {n : Nat} (h : n ≤ 16777216) : rgOk 0 (n : Int) = true := decide_eq_true (by omega)
theorem rgP_n (n : Nat) : rgP 0 (n : Int) = ((List.range n).map fun (i : Nat) => (i : Int)).map .int := by
  unfold rgP
  rw [List.map_map]
  rw [show ((n : Int) - 0).toNat = n from by omega]
  refine List.map_congr_left fun i _ => ?_
  show PV.int (0 + (i : Int)) = PV.int (i : Int)
  rw [Int.zero_add]
theorem t_mixed (d : Int × Int × Int) : ∃ d', m__law_mixed_right [some (D d)] = some (.bl true, [some (D d')]) := by
  obtain ⟨x, d1, e1, hx⟩ := s_pick d [.int 7, .int 13, .int 97, .int 193] (by decide) (by decide)
  obtain ⟨p, rfl, M, hp7⟩ : ∃ p : Nat, x = .int p ∧ Md p ∧ 7 ≤ p := by
    simp only [List.mem_cons, List.not_mem_nil, or_false] at hx
    rcases hx with rfl | rfl | rfl | rfl
    · exact ⟨7, rfl, md7, by decide⟩
    · exact ⟨13, rfl, md13, by decide⟩
    · exact ⟨97, rfl, md97, by decide⟩
    · exact ⟨193, rfl, md193, by decide⟩
  have hb := known_b M.known
  obtain ⟨r1, d2, e2, q0, q1⟩ := s_roll d1 4 (by decide) (by decide)
  obtain ⟨r1, rfl⟩ := ex_nat q0
  obtain ⟨w, hw⟩ : ∃ w : Nat, (1 : Int) + (r1 : Int) = w := ⟨1 + r1, by omega⟩
  obtain ⟨r2, d3, e3, q2, q3⟩ := s_roll d2 5 (by decide) (by decide)
  obtain ⟨r2, rfl⟩ := ex_nat q2
  obtain ⟨many, hmany⟩ : ∃ many : Nat, (1 : Int) + (r2 : Int) = many := ⟨1 + r2, by omega⟩
  obtain ⟨r3, d4, e4, q4, q5⟩ := s_roll d3 12 (by decide) (by decide)
  obtain ⟨r3, rfl⟩ := ex_nat q4
  obtain ⟨far, hfar, f1, f2, f3⟩ : ∃ far : Nat, (if (w : Int) + (r3 : Int) < (p : Int) then (w : Int) + (r3 : Int) else (p : Int)) = far ∧ w ≤ far ∧ far ≤ p ∧ far ≤ 15 := by
    by_cases h : (w : Int) + (r3 : Int) < (p : Int)
    · exact ⟨w + r3, by rw [if_pos h]; omega, by omega, by omega, by omega⟩
    · exact ⟨p, by rw [if_neg h], by omega, by omega, by omega⟩
  obtain ⟨rows, d5, e5, l5, R⟩ := m_rows d4 p w many far (by omega) (by omega) (by omega)
  obtain ⟨fs, d6, e6, l6, nf⟩ := s_row d5 p many (by omega) (by omega) (by omega)
  have e7 := s_coded_columns p w rows far M.known R (by omega) (by omega) (by omega) (by omega) f1 (by omega) (by omega)
  have e8 := m_cols d6 p w many far rows fs (by omega) (by omega) (by omega)
  have e9 := s_mixed_row p w rows fs M.known R nf (by omega) (by omega) (by omega) (by omega) (by omega)
  have CR := cols_rows (p := p) (by omega) rows far
  have CL := cols_length p rows far
  have mxl := mixf_length (p := p) (w := w) (rows.zip fs) (List.replicate w 0) (fun q hq => R.len _ (List.of_mem_zip hq).1) (by simp)
  have mxn : Nums p (mixf p (rows.zip fs) (List.replicate w 0)) := mixf_nums (by omega) _ _ fun x hx => by rw [(List.mem_replicate.mp hx).2]; omega
  have aall := agree_all (p := p) (by omega) R (fs := fs) far
  have afew := fun other (ho : Nums p other) hl hne => agree_few M.pr R (fs := fs) (row := other) far f2 (by omega) ho hl hne
  generalize hmx : mixf p (rows.zip fs) (List.replicate w 0) = mx at e9 mxl mxn aall afew
  generalize hcs : cols p rows far = cs at e7 e8 CR CL aall afew
  rw [l5] at CR
  have e10 := m_due d6 p w many far rows cs fs mx (by omega) (by omega) (by omega) (by omega) R nf hmx.symm
  have e11 := s_agreeing_places p many cs fs mx M.known CR nf mxn (by omega) (by omega) (by omega) (by omega) (by omega) (by omega) (by omega) (by omega) (by omega)
  rw [aall] at e11
  obtain ⟨other, d7, e12, lo, no⟩ := s_row d6 p w (by omega) (by omega) (by omega)
  have e13 := s_agreeing_places p many cs fs other M.known CR nf no (by omega) (by omega) (by omega) (by omega) (by omega) (by omega) (by omega) (by omega) (by omega)
  have c3 : other = mx ∨ (other ≠ mx ∧ decide ((w : Int) - 1 < ((agree p cs fs other).length : Int)) = false) := by
    by_cases h : other = mx
    · exact .inl h
    · have := afew other no lo h
      exact .inr ⟨h, decide_eq_false (by omega)⟩
  obtain ⟨cs2, d8, e14, CL2, CR2⟩ := m_two d7 p w many far rows cs fs mx mx other (by omega) (by omega) (by omega) (by omega) (by omega) CL CR
  have e15 := m_told0 d8 p w many far rows fs mx mx other (by omega) (by omega) nf (by omega) cs2 (by omega)
  have e16 := s_agreeing_places p many cs2 fs other M.known CR2 nf no (by omega) (by omega) (by omega) (by omega) (by omega) (by omega) (by omega) (by omega) (by omega)
  have al := agree_length (p := p) cs2 fs other
  generalize hag : agree p cs2 fs other = ag at e15 e16 al
  obtain ⟨r4, d9, e17, q6, q7⟩ := s_roll d8 4 (by decide) (by decide)
  obtain ⟨r4, rfl⟩ := ex_nat q6
  obtain ⟨asked, hasked⟩ : ∃ asked : Nat, (1 : Int) + (r4 : Int) = asked := ⟨1 + r4, by omega⟩
  have e18 := s_lucky_share ag.length asked far (by omega) (by omega) f3 (by omega) (by omega)
  have g0 : fits 0 = true := by decide
  have g2 : fits 2 = true := by decide
  have g3 : fits 3 = true := by decide
  have g4 : fits 4 = true := by decide
  have rg2 : decide (-(2 ^ 62) ≤ (2 : Int) ∧ (2 : Int) < 2 ^ 62) = true := by decide
  have rl2 : rgL 0 (2 : Int).toNat = (List.range 2).map fun (i : Nat) => PV.int (i : Int) := rg_n 2
  have ne1 : opNe (lT cs) (lT cs) = some (.bl false) := opNe_self (Lay.lT cs)
  have ne2 : ∀ l : List Int, opNe (tI l) (tI l) = some (.bl false) := fun l => opNe_self (Lay.tI l)
  have step := fun (a : Nat) (ha : a = ag.length) => trivial
  refine ⟨d9, ?_⟩
  have fin : ∀ (Q : Prop), Q → Q := fun _ h => h
  by_cases ha : ag.length = 0
  · have z1 : decide (((ag.length : Nat) : Int) = 0) = true := decide_eq_true (by omega)
    have hfp : 0 < far ^ asked := Nat.pow_pos (by omega)
    rw [ha, Nat.zero_pow (by omega), Nat.gcd_zero_right, Nat.zero_div, Nat.div_self hfp] at e18
    have e18 : m_lucky_share [some (.int 0), some (.int asked), some (.int far)] = some (.tup [.int 0, .int 1], [none, none, none]) := e18
    have z2 : ((ag.length : Nat) : Int) = 0 := by omega
    have eq : opEq (.tup [.int 0, .int 1]) (.tup [.int 0, .int 1]) = some (.bl true) := opEq_self (Lay.tI [0, 1])
    rcases c3 with h | ⟨h, h2⟩
    · simp -implicitDefEqProofs only [m__law_mixed_right, b__law_mixed_right, semDef_ap, sSeq_ap, sSet_ap, sRet_ap, sIf_ap, sExpr_ap, sNil_ap, sNever_ap, sAug_ap, sPar_ap, sAsgT_ap, sStore_ap, sAugStore_ap, sFor_ap, sForO_ap, sWhile_ap, turn_ap, gNm_ap, gsNil_ap, gsCons_ap, gTp_ap, eVar_ap, eMove_ap, eC_ap, eBin_ap, eUn_ap, tOf_ap, tvAnd_ap, tvOr_ap, tvNot_ap, eAnd_ap, eOr_ap, eNot_ap, eIf_ap, eChain_ap, aNil_ap, aCons_ap, aStar_ap, eTup_ap, eLst_ap, eCall_ap, eCallL_ap, lNil_ap, lSh_ap, lLe_ap, lstAt_ap, eOwn2_ap, eSl_ap, pNo_ap, pSome_ap, eLstRg1_ap, eTupRg1_ap, eApp_ap, eExtend_ap, iOf_ap, iEnum_ap, iZip2_ap, iRng1_ap, eLc_ap, keep_nil, keep_zero, opI, opIc, opB, opAdd, opLen, opNeg, opMax, opMin, opAbs, opInt, opIx, opIsNotN, opIsN, isNon, opTuple, opList, opRev, opSl, opSlL, isi_int, isi_boolint, isi_tuple, items?, opEq_int, opNe_int, setAll, forgetAll, wipeE, backE, lentAt, fill, List.cons_append, List.nil_append, List.append_nil, List.replicate_succ, List.replicate_zero, List.getElem?_cons_zero, List.getElem?_cons_succ, List.set_cons_zero, List.set_cons_succ, List.map_cons, List.map_nil, List.length_cons, List.length_nil, List.length_map, List.length_replicate, List.all_nil, List.all_cons, Option.isSome, Option.bind_some, Option.map_some, Option.getD_some, Option.bind_none, Option.map_none, Nat.reduceAdd, Nat.zero_add, beq_self_eq_true, Bool.and_true, Bool.true_and, Bool.false_eq_true, reduceIte, reduceCtorEq, if_true, if_false, Bool.not_true, Bool.not_false, decide_true, decide_false, g4, e1, e2, e3, hw, hmany, e4, hfar, g3, rg_ok (show many ≤ 16777216 by omega), rg_n, List.length_range, fits_of (show many ≤ 16777216 by omega), e5, e6, g2, e7, rg_ok (show far ≤ 16777216 by omega), fits_of (show far ≤ 16777216 by omega), e8, ne1, e9, rg_ok (show w ≤ 16777216 by omega), fits_of (show w ≤ 16777216 by omega), e10, ne2, e11, rgOk_n (show far ≤ 16777216 by omega), rgP_n,
        e12, opNe_tI, decide_eq_true h, rg2, rl2, e14, g0, e15, e16, e17, hasked, z2, e18, decide_true, eq]
    · simp -implicitDefEqProofs only [m__law_mixed_right, b__law_mixed_right, semDef_ap, sSeq_ap, sSet_ap, sRet_ap, sIf_ap, sExpr_ap, sNil_ap, sNever_ap, sAug_ap, sPar_ap, sAsgT_ap, sStore_ap, sAugStore_ap, sFor_ap, sForO_ap, sWhile_ap, turn_ap, gNm_ap, gsNil_ap, gsCons_ap, gTp_ap, eVar_ap, eMove_ap, eC_ap, eBin_ap, eUn_ap, tOf_ap, tvAnd_ap, tvOr_ap, tvNot_ap, eAnd_ap, eOr_ap, eNot_ap, eIf_ap, eChain_ap, aNil_ap, aCons_ap, aStar_ap, eTup_ap, eLst_ap, eCall_ap, eCallL_ap, lNil_ap, lSh_ap, lLe_ap, lstAt_ap, eOwn2_ap, eSl_ap, pNo_ap, pSome_ap, eLstRg1_ap, eTupRg1_ap, eApp_ap, eExtend_ap, iOf_ap, iEnum_ap, iZip2_ap, iRng1_ap, eLc_ap, keep_nil, keep_zero, opI, opIc, opB, opAdd, opLen, opNeg, opMax, opMin, opAbs, opInt, opIx, opIsNotN, opIsN, isNon, opTuple, opList, opRev, opSl, opSlL, isi_int, isi_boolint, isi_tuple, items?, opEq_int, opNe_int, setAll, forgetAll, wipeE, backE, lentAt, fill, List.cons_append, List.nil_append, List.append_nil, List.replicate_succ, List.replicate_zero, List.getElem?_cons_zero, List.getElem?_cons_succ, List.set_cons_zero, List.set_cons_succ, List.map_cons, List.map_nil, List.length_cons, List.length_nil, List.length_map, List.length_replicate, List.all_nil, List.all_cons, Option.isSome, Option.bind_some, Option.map_some, Option.getD_some, Option.bind_none, Option.map_none, Nat.reduceAdd, Nat.zero_add, beq_self_eq_true, Bool.and_true, Bool.true_and, Bool.false_eq_true, reduceIte, reduceCtorEq, if_true, if_false, Bool.not_true, Bool.not_false, decide_true, decide_false, g4, e1, e2, e3, hw, hmany, e4, hfar, g3, rg_ok (show many ≤ 16777216 by omega), rg_n, List.length_range, fits_of (show many ≤ 16777216 by omega), e5, e6, g2, e7, rg_ok (show far ≤ 16777216 by omega), fits_of (show far ≤ 16777216 by omega), e8, ne1, e9, rg_ok (show w ≤ 16777216 by omega), fits_of (show w ≤ 16777216 by omega), e10, ne2, e11, rgOk_n (show far ≤ 16777216 by omega), rgP_n,
        e12, opNe_tI, decide_eq_false h, e13, h2, rg2, rl2, e14, g0, e15, e16, e17, hasked, z2, e18, decide_true, eq]
  · have z1 : decide (((ag.length : Nat) : Int) = 0) = false := decide_eq_false (by omega)
    have b1 : ∀ x : Nat, x ≤ 15 → x ^ asked ≤ 50625 := fun x hx => by
      have q1 : x ^ asked ≤ 15 ^ asked := Nat.pow_le_pow_left hx _
      have q2 : 15 ^ asked ≤ 15 ^ 4 := Nat.pow_le_pow_right (by decide) (by omega)
      have q3 : (15 : Nat) ^ 4 = 50625 := by decide
      omega
    have t1 := b1 ag.length (by omega)
    have t2 := b1 far f3
    have o1 := s_often ag.length asked (by omega) (by omega) (by omega)
    have o2 := s_often far asked (by omega) (by omega) (by omega)
    rw [← Int.natCast_pow] at o1 o2
    generalize htop : ag.length ^ asked = top at e18 o1 t1
    generalize hbot : far ^ asked = bot at e18 o2 t2
    have hbp : 0 < bot := by rw [← hbot]; exact Nat.pow_pos (by omega)
    have dg1 : Nat.gcd bot top ∣ bot := Nat.gcd_dvd_left _ _
    have dg2 : Nat.gcd bot top ∣ top := Nat.gcd_dvd_right _ _
    have gp : 0 < Nat.gcd bot top := Nat.gcd_pos_of_pos_left _ hbp
    have s1 : top / Nat.gcd bot top ≤ top := Nat.div_le_self _ _
    have s2 : bot / Nat.gcd bot top ≤ bot := Nat.div_le_self _ _
    have dv := s_divisor (top / Nat.gcd bot top) (bot / Nat.gcd bot top) (by omega)
    have gg : Nat.gcd (top / Nat.gcd bot top) (bot / Nat.gcd bot top) = 1 := by
      rw [Nat.gcd_div dg2 dg1, Nat.gcd_comm top bot, Nat.div_self gp]
    rw [gg] at dv
    have cross : top / Nat.gcd bot top * bot = bot / Nat.gcd bot top * top := by
      obtain ⟨u, hu⟩ := dg1
      obtain ⟨v, hv⟩ := dg2
      generalize Nat.gcd bot top = g at hu hv gp
      subst hu hv
      rw [Nat.mul_div_cancel_left _ gp, Nat.mul_div_cancel_left _ gp, ← Nat.mul_assoc, ← Nat.mul_assoc, Nat.mul_comm v g, Nat.mul_comm u g, Nat.mul_assoc, Nat.mul_assoc, Nat.mul_comm v u]
    generalize top / Nat.gcd bot top = sa at e18 s1 dv cross
    generalize bot / Nat.gcd bot top = sb at e18 s2 dv cross
    have cr : ((sa : Nat) : Int) * ((bot : Nat) : Int) = ((sb : Nat) : Int) * ((top : Nat) : Int) := by rw [← Int.natCast_mul, cross, Int.natCast_mul]
    have m1 : mulOk (sa : Int) (bot : Int) = true := mulOk_left (by omega) (by omega)
    have m2 : mulOk (sb : Int) (top : Int) = true := mulOk_left (by omega) (by omega)
    have one : decide (((1 : Nat) : Int) = 1) = true := rfl
    rcases c3 with h | ⟨h, h2⟩
    · simp -implicitDefEqProofs only [m__law_mixed_right, b__law_mixed_right, semDef_ap, sSeq_ap, sSet_ap, sRet_ap, sIf_ap, sExpr_ap, sNil_ap, sNever_ap, sAug_ap, sPar_ap, sAsgT_ap, sStore_ap, sAugStore_ap, sFor_ap, sForO_ap, sWhile_ap, turn_ap, gNm_ap, gsNil_ap, gsCons_ap, gTp_ap, eVar_ap, eMove_ap, eC_ap, eBin_ap, eUn_ap, tOf_ap, tvAnd_ap, tvOr_ap, tvNot_ap, eAnd_ap, eOr_ap, eNot_ap, eIf_ap, eChain_ap, aNil_ap, aCons_ap, aStar_ap, eTup_ap, eLst_ap, eCall_ap, eCallL_ap, lNil_ap, lSh_ap, lLe_ap, lstAt_ap, eOwn2_ap, eSl_ap, pNo_ap, pSome_ap, eLstRg1_ap, eTupRg1_ap, eApp_ap, eExtend_ap, iOf_ap, iEnum_ap, iZip2_ap, iRng1_ap, eLc_ap, keep_nil, keep_zero, opI, opIc, opB, opAdd, opLen, opNeg, opMax, opMin, opAbs, opInt, opIx, opIsNotN, opIsN, isNon, opTuple, opList, opRev, opSl, opSlL, isi_int, isi_boolint, isi_tuple, items?, opEq_int, opNe_int, setAll, forgetAll, wipeE, backE, lentAt, fill, List.cons_append, List.nil_append, List.append_nil, List.replicate_succ, List.replicate_zero, List.getElem?_cons_zero, List.getElem?_cons_succ, List.set_cons_zero, List.set_cons_succ, List.map_cons, List.map_nil, List.length_cons, List.length_nil, List.length_map, List.length_replicate, List.all_nil, List.all_cons, Option.isSome, Option.bind_some, Option.map_some, Option.getD_some, Option.bind_none, Option.map_none, Nat.reduceAdd, Nat.zero_add, beq_self_eq_true, Bool.and_true, Bool.true_and, Bool.false_eq_true, reduceIte, reduceCtorEq, if_true, if_false, Bool.not_true, Bool.not_false, decide_true, decide_false, g4, e1, e2, e3, hw, hmany, e4, hfar, g3, rg_ok (show many ≤ 16777216 by omega), rg_n, List.length_range, fits_of (show many ≤ 16777216 by omega), e5, e6, g2, e7, rg_ok (show far ≤ 16777216 by omega), fits_of (show far ≤ 16777216 by omega), e8, ne1, e9, rg_ok (show w ≤ 16777216 by omega), fits_of (show w ≤ 16777216 by omega), e10, ne2, e11, rgOk_n (show far ≤ 16777216 by omega), rgP_n,
        e12, opNe_tI, decide_eq_true h, rg2, rl2, e14, g0, e15, e16, e17, hasked, e18, z1, o1, o2, ix0, ix1, m1, m2, cr, dv, one, decide_true]
    · simp -implicitDefEqProofs only [m__law_mixed_right, b__law_mixed_right, semDef_ap, sSeq_ap, sSet_ap, sRet_ap, sIf_ap, sExpr_ap, sNil_ap, sNever_ap, sAug_ap, sPar_ap, sAsgT_ap, sStore_ap, sAugStore_ap, sFor_ap, sForO_ap, sWhile_ap, turn_ap, gNm_ap, gsNil_ap, gsCons_ap, gTp_ap, eVar_ap, eMove_ap, eC_ap, eBin_ap, eUn_ap, tOf_ap, tvAnd_ap, tvOr_ap, tvNot_ap, eAnd_ap, eOr_ap, eNot_ap, eIf_ap, eChain_ap, aNil_ap, aCons_ap, aStar_ap, eTup_ap, eLst_ap, eCall_ap, eCallL_ap, lNil_ap, lSh_ap, lLe_ap, lstAt_ap, eOwn2_ap, eSl_ap, pNo_ap, pSome_ap, eLstRg1_ap, eTupRg1_ap, eApp_ap, eExtend_ap, iOf_ap, iEnum_ap, iZip2_ap, iRng1_ap, eLc_ap, keep_nil, keep_zero, opI, opIc, opB, opAdd, opLen, opNeg, opMax, opMin, opAbs, opInt, opIx, opIsNotN, opIsN, isNon, opTuple, opList, opRev, opSl, opSlL, isi_int, isi_boolint, isi_tuple, items?, opEq_int, opNe_int, setAll, forgetAll, wipeE, backE, lentAt, fill, List.cons_append, List.nil_append, List.append_nil, List.replicate_succ, List.replicate_zero, List.getElem?_cons_zero, List.getElem?_cons_succ, List.set_cons_zero, List.set_cons_succ, List.map_cons, List.map_nil, List.length_cons, List.length_nil, List.length_map, List.length_replicate, List.all_nil, List.all_cons, Option.isSome, Option.bind_some, Option.map_some, Option.getD_some, Option.bind_none, Option.map_none, Nat.reduceAdd, Nat.zero_add, beq_self_eq_true, Bool.and_true, Bool.true_and, Bool.false_eq_true, reduceIte, reduceCtorEq, if_true, if_false, Bool.not_true, Bool.not_false, decide_true, decide_false, g4, e1, e2, e3, hw, hmany, e4, hfar, g3, rg_ok (show many ≤ 16777216 by omega), rg_n, List.length_range, fits_of (show many ≤ 16777216 by omega), e5, e6, g2, e7, rg_ok (show far ≤ 16777216 by omega), fits_of (show far ≤ 16777216 by omega), e8, ne1, e9, rg_ok (show w ≤ 16777216 by omega), fits_of (show w ≤ 16777216 by omega), e10, ne2, e11, rgOk_n (show far ≤ 16777216 by omega), rgP_n,
        e12, opNe_tI, decide_eq_false h, e13, h2, rg2, rl2, e14, g0, e15, e16, e17, hasked, e18, z1, o1, o2, ix0, ix1, m1, m2, cr, dv, one, decide_true]
end Hd

/-! M2: the seventeenth power modulo 2 ^ 61 - 1 -/
namespace PM
abbrev BM : Nat := 2305843009213693951
abbrev BN : Nat := 2305843009213693950
/-- powers by halving -/
def mpow (m b : Nat) : Nat → Nat → Nat
  | 0, _ => 1 % m
  | f + 1, e => if e = 0 then 1 % m else if e % 2 = 0 then mpow m (b * b % m) f (e / 2) else b * mpow m (b * b % m) f (e / 2) % m
theorem pow_modl (m a : Nat) : ∀ k, (a % m) ^ k % m = a ^ k % m
  | 0 => rfl
  | k + 1 => by rw [Nat.pow_succ, Nat.pow_succ, Nat.mul_mod, pow_modl m a k, Nat.mod_mod, ← Nat.mul_mod]
theorem mpow_eq (m : Nat) : ∀ (f b e : Nat), e < 2 ^ f → mpow m b f e = b ^ e % m
  | 0, b, e, h => by
    have : e = 0 := by simpa using h
    subst this
    rfl
  | f + 1, b, e, h => by
    unfold mpow
    by_cases h0 : e = 0
    · rw [if_pos h0, h0]
      rfl
    rw [if_neg h0]
    have ih := mpow_eq m f (b * b % m) (e / 2) (by rw [Nat.pow_succ] at h; omega)
    have e2 : (b * b) ^ (e / 2) = b ^ (2 * (e / 2)) := by rw [Nat.pow_mul, Nat.pow_two]
    by_cases h2 : e % 2 = 0
    · rw [if_pos h2, ih, pow_modl, e2]
      congr 2
      omega
    · rw [if_neg h2, ih, pow_modl, e2]
      have : b ^ e = b * b ^ (2 * (e / 2)) := by
        conv => lhs; rw [show e = 2 * (e / 2) + 1 from by omega]
        rw [Nat.pow_succ, Nat.mul_comm]
      rw [this, Nat.mul_mod, Nat.mod_mod, ← Nat.mul_mod]
/-- e leaves the power at one -/
def E1 (e : Nat) : Prop := 37 ^ e % BM = 1
theorem E1.zero : E1 0 := rfl
theorem mod_mul {a b : Nat} (h : a % BM = 1) : a * b % BM = b % BM := by rw [Nat.mul_mod, h, Nat.one_mul, Nat.mod_mod]
theorem E1.add {a b : Nat} (h : E1 a) : E1 (a + b) ↔ E1 b := by
  unfold E1
  rw [Nat.pow_add, mod_mul h]
theorem E1.mul {a : Nat} (h : E1 a) : ∀ k, E1 (a * k)
  | 0 => E1.zero
  | k + 1 => by
    rw [Nat.mul_succ, Nat.add_comm]
    exact (h.add).mpr (h.mul k)
theorem E1.mod {a b : Nat} (ha : E1 a) (hb : E1 b) : E1 (b % a) := by
  have h := hb
  rw [← Nat.div_add_mod b a] at h
  exact ((ha.mul (b / a)).add).mp h
theorem E1.gcd : ∀ {a b : Nat}, E1 a → E1 b → E1 (Nat.gcd a b) := fun {a b} => by
  induction a, b using Nat.gcd.induction with
  | H0 n => intro _ h; rw [Nat.gcd_zero_left]; exact h
  | H1 m n hm ih =>
    intro h1 h2
    rw [Nat.gcd_rec]
    exact ih (h1.mod h2) h1
theorem E1.dvd {a b : Nat} (h : E1 a) (d : a ∣ b) : E1 b := by
  obtain ⟨k, rfl⟩ := d
  exact h.mul k
def qs : List Nat := [2, 3, 3, 5, 5, 7, 11, 13, 31, 41, 61, 151, 331, 1321]
theorem eN : E1 BN := by
  unfold E1
  rw [← mpow_eq BM 62 37 BN (by decide)]
  decide +kernel
theorem eQ : ∀ q ∈ qs, ¬ E1 (BN / q) := by
  intro q hq h
  unfold E1 at h
  have hb : BN / q < 2 ^ 62 := Nat.lt_of_le_of_lt (Nat.div_le_self _ _) (by decide)
  rw [← mpow_eq BM 62 37 (BN / q) hb] at h
  exact absurd h ((show ∀ q ∈ qs, ¬ mpow BM 37 62 (BN / q) = 1 from by decide +kernel) q hq)
theorem qs_prime : ∀ q ∈ qs, 2 ≤ q ∧ ∀ d, d < q + 1 → q % d = 0 → d = 1 ∨ d = q := by decide +kernel
theorem strip : ∀ (l : List Nat) (m : Nat), (∀ q ∈ l, (2 ≤ q ∧ ∀ d, d < q + 1 → q % d = 0 → d = 1 ∨ d = q) ∧ ¬ q ∣ m) → m ∣ l.foldr (· * ·) 1 → m = 1
  | [], m, _, h => Nat.dvd_one.mp h
  | q :: l, m, hl, h => by
    obtain ⟨⟨h2, hp⟩, hm⟩ := hl q List.mem_cons_self
    have hg : Nat.gcd m q ∣ q := Nat.gcd_dvd_right _ _
    have co : Nat.Coprime m q := by
      rcases hp (Nat.gcd m q) (by have := Nat.le_of_dvd (by omega) hg; omega) (Nat.mod_eq_zero_of_dvd hg) with z | z
      · exact z
      · exact absurd (by rw [← z]; exact Nat.gcd_dvd_left _ _) hm
    exact strip l m (fun x hx => hl x (List.mem_cons_of_mem _ hx)) (Nat.Coprime.dvd_of_dvd_mul_left co h)
theorem order {k : Nat} (h0 : 0 < k) (h1 : k < BN) : ¬ E1 k := fun h => by
  have hd := h.gcd eN
  generalize hg : Nat.gcd k BN = d at hd
  have d1 : d ∣ BN := by rw [← hg]; exact Nat.gcd_dvd_right _ _
  have d2 : d ≤ k := by rw [← hg]; exact Nat.gcd_le_left _ h0
  have d0 : 0 < d := by rw [← hg]; exact Nat.gcd_pos_of_pos_left _ h0
  obtain ⟨m, hm⟩ := d1
  have hm1 : m ≠ 1 := fun z => by rw [z, Nat.mul_one] at hm; omega
  refine hm1 (strip qs m (fun q hq => ⟨qs_prime q hq, fun ⟨n, hn⟩ => ?_⟩) ?_)
  · have q2 := (qs_prime q hq).1
    refine eQ q hq (hd.dvd ⟨n, ?_⟩)
    rw [hm, hn, show d * (q * n) = q * (d * n) from by rw [← Nat.mul_assoc, Nat.mul_comm d q, Nat.mul_assoc], Nat.mul_div_cancel_left _ (by omega)]
  · have : qs.foldr (· * ·) 1 = BN := by decide +kernel
    rw [this, hm]
    exact ⟨d, Nat.mul_comm _ _⟩
/-- no two of n + 1 things in n holes -/
theorem pigeon : ∀ (n : Nat) (f : Nat → Nat), (∀ i, i < n → f i < n) → (∀ i j, i < n → j < n → f i = f j → i = j) → ∀ y, y < n → ∃ i, i < n ∧ f i = y
  | 0, _, _, _, y, h => absurd h (by omega)
  | n + 1, f, hf, hi, y, hy => by
    have hfn := hf n (by omega)
    have ih := pigeon n (fun i => if f i = n then f n else f i) (fun i h => by
      show (if f i = n then f n else f i) < n
      by_cases q : f i = n
      · rw [if_pos q]
        have : f n ≠ n := fun z => absurd (hi i n (by omega) (by omega) (q.trans z.symm)) (by omega)
        omega
      · rw [if_neg q]
        have := hf i (by omega)
        omega) (fun i j h1 h2 e => by
      have e : (if f i = n then f n else f i) = (if f j = n then f n else f j) := e
      by_cases q : f i = n <;> by_cases r : f j = n
      · exact hi i j (by omega) (by omega) (q.trans r.symm)
      · rw [if_pos q, if_neg r] at e
        exact absurd (hi n j (by omega) (by omega) e) (by omega)
      · rw [if_neg q, if_pos r] at e
        exact absurd (hi i n (by omega) (by omega) e) (by omega)
      · rw [if_neg q, if_neg r] at e
        exact hi i j (by omega) (by omega) e)
    by_cases h1 : y = f n
    · exact ⟨n, by omega, h1.symm⟩
    by_cases h2 : y = n
    · subst h2
      obtain ⟨i, hin, e⟩ := ih (f y) (by omega)
      have e : (if f i = y then f y else f i) = f y := e
      by_cases q : f i = y
      · exact ⟨i, by omega, q⟩
      · rw [if_neg q] at e
        exact absurd (hi i y (by omega) (by omega) e) (by omega)
    · obtain ⟨i, hin, e⟩ := ih y (by omega)
      have e : (if f i = n then f n else f i) = y := e
      by_cases q : f i = n
      · rw [if_pos q] at e
        exact absurd e.symm h1
      · rw [if_neg q] at e
        exact ⟨i, by omega, e⟩
theorem pow_ne (k : Nat) : 37 ^ k % BM ≠ 0 := fun h => by
  have h1 : E1 (BN * k) := eN.mul k
  have h2 : k ≤ BN * k := Nat.le_mul_of_pos_left k (by decide)
  unfold E1 at h1
  rw [show BN * k = k + (BN * k - k) from by omega, Nat.pow_add, Nat.mul_mod, h, Nat.zero_mul, Nat.zero_mod] at h1
  cases h1
theorem E1.sub {i j : Nat} (hij : i ≤ j) (h : 37 ^ i % BM = 37 ^ j % BM) : E1 (j - i) := by
  have h2 : i ≤ BN * i := Nat.le_mul_of_pos_left i (by decide)
  have h1 : 37 ^ i * 37 ^ (BN * i - i) % BM = 37 ^ j * 37 ^ (BN * i - i) % BM := by rw [Nat.mul_mod, h, ← Nat.mul_mod]
  rw [← Nat.pow_add, ← Nat.pow_add, show i + (BN * i - i) = BN * i from by omega, show j + (BN * i - i) = BN * i + (j - i) from by omega] at h1
  have h3 := eN.mul i
  unfold E1 at h3 ⊢
  rw [h3, Nat.pow_add, mod_mul h3] at h1
  exact h1.symm
/-- every number below but nought is a power -/
theorem logs {x : Nat} (h0 : 0 < x) (h1 : x < BM) : ∃ k, k < BN ∧ 37 ^ k % BM = x := by
  have hb : BM = BN + 1 := rfl
  have inj : ∀ i j, i < BN → j < BN → i ≤ j → 37 ^ i % BM = 37 ^ j % BM → i = j := fun i j hi hj hij e => by
    have := E1.sub hij e
    by_cases z : j - i = 0
    · omega
    · exact absurd this (order (by omega) (by omega))
  obtain ⟨i, hi, e⟩ := pigeon BN (fun k => 37 ^ k % BM - 1) (fun i _ => by
    have := pow_ne i
    have : 37 ^ i % BM < BM := Nat.mod_lt _ (by decide)
    show 37 ^ i % BM - 1 < BN
    omega) (fun i j hi hj e => by
    have e : 37 ^ i % BM - 1 = 37 ^ j % BM - 1 := e
    have p1 := pow_ne i
    have p2 := pow_ne j
    have e2 : 37 ^ i % BM = 37 ^ j % BM := by omega
    rcases Nat.le_total i j with q | q
    · exact inj i j hi hj q e2
    · exact (inj j i hj hi q e2.symm).symm) (x - 1) (by omega)
  have e : 37 ^ i % BM - 1 = x - 1 := e
  have := pow_ne i
  exact ⟨i, hi, by omega⟩
theorem inj17' {i j : Nat} (hi : i < BN) (hj : j < BN) (hij : i ≤ j) (h : (37 ^ i) ^ 17 % BM = (37 ^ j) ^ 17 % BM) : i = j := by
  rw [← Nat.pow_mul, ← Nat.pow_mul] at h
  have h1 := E1.sub (by omega) h
  rw [← Nat.sub_mul] at h1
  have h2 := h1.mul 1763291712928118903
  have hu : 17 * 1763291712928118903 = BN * 13 + 1 := by decide
  have e : (j - i) * 17 * 1763291712928118903 = BN * (13 * (j - i)) + (j - i) := by
    rw [Nat.mul_assoc, hu, Nat.mul_add, Nat.mul_one, Nat.mul_comm (j - i), Nat.mul_assoc]
  rw [e] at h2
  have h3 := ((eN.mul (13 * (j - i))).add).mp h2
  by_cases z : j - i = 0
  · omega
  · exact absurd h3 (order (k := j - i) (by omega) (by omega))
theorem inj17 {x y : Nat} (hx : x < BM) (hy : y < BM) (h : x ^ 17 % BM = y ^ 17 % BM) : x = y := by
  by_cases hx0 : x = 0
  · by_cases hy0 : y = 0
    · omega
    · obtain ⟨j, hj, e⟩ := logs (by omega) hy
      rw [hx0, ← e, pow_modl, ← Nat.pow_mul] at h
      exact absurd h.symm (pow_ne _)
  · obtain ⟨i, hi, e⟩ := logs (by omega) hx
    by_cases hy0 : y = 0
    · rw [hy0, ← e, pow_modl, ← Nat.pow_mul] at h
      exact absurd h (pow_ne _)
    · obtain ⟨j, hj, e2⟩ := logs (by omega) hy
      rw [← e, ← e2, pow_modl, pow_modl] at h
      have : i = j := by
        rcases Nat.le_total i j with q | q
        · exact inj17' hi hj q h
        · exact (inj17' hj hi q h.symm).symm
      rw [← e, ← e2, this]
end PM

namespace Hd
open PL PM
abbrev BI : Int := 2305843009213693951
def dstep (s m : Int) : Int := ((s + m) ^ 17 % BI + 3) % BI
def dig (l : List Int) : Int := l.foldl dstep l.length
def dg (a b : Int) : Int := dstep (dstep 2 a) b
theorem dig_pair (a b : Int) : dig [a, b] = dg a b := rfl
theorem dstep_b (s m : Int) : 0 ≤ dstep s m ∧ dstep s m < BI := ⟨Int.emod_nonneg _ (by decide), Int.emod_lt_of_pos _ (by decide)⟩
theorem dig_b : ∀ (l : List Int), l.length ≤ 1000 → 0 ≤ dig l ∧ dig l < BI := fun l hl => by
  have : ∀ (l : List Int) (s : Int), 0 ≤ s ∧ s < BI → 0 ≤ l.foldl dstep s ∧ l.foldl dstep s < BI := fun l => by
    induction l with
    | nil => intro s h; exact h
    | cons a r ih => intro s _; exact ih _ (dstep_b s a)
  exact this l _ ⟨by omega, by unfold BI; omega⟩
theorem s_digest_in (l : List Int) (hl : l.length ≤ 1000) : m_digest_in [some (tI l)] = some (.int (dig l), [none]) := by
  have hp : ∀ x : Int, m_power_in [some (.int 2305843009213693951), some (.int x), some (.int 17)] = some (.int (x ^ 17 % 2305843009213693951), [none, none, none]) := fun x => s_power_in 2305843009213693951 x 17 (by decide) (by decide) (by decide)
  have md : decide ((0 : Int) < 2305843009213693951) = true := rfl
  have lp := (forL_fold (f := turn (gNm 2) (sSet 1 (eBin opMod (eBin opAdd (eCall 3 m_power_in (aCons (eC k_GREAT_PRIME) (aCons (eBin opAdd (eVar 1) (eVar 2)) (aCons (eC k_POWER) aNil)))) (eC k_MORE)) (eC k_GREAT_PRIME))) [2]) (enc := PV.int) (emb := fun a : Int => [some (tI l), some (.int a), none])
    (step := dstep) (fun _ => True) (xs := l) (s := l.length) (fun a c _ _ => ⟨by simp -implicitDefEqProofs only [semDef_ap, sSeq_ap, sSet_ap, sRet_ap, sIf_ap, sExpr_ap, sNil_ap, sNever_ap, sAug_ap, sPar_ap, sAsgT_ap, sStore_ap, sAugStore_ap, sFor_ap, sForO_ap, sWhile_ap, turn_ap, gNm_ap, gsNil_ap, gsCons_ap, gTp_ap, eVar_ap, eMove_ap, eC_ap, eBin_ap, eUn_ap, tOf_ap, tvAnd_ap, tvOr_ap, tvNot_ap, eAnd_ap, eOr_ap, eNot_ap, eIf_ap, eChain_ap, aNil_ap, aCons_ap, aStar_ap, eTup_ap, eLst_ap, eCall_ap, eCallL_ap, lNil_ap, lSh_ap, lLe_ap, lstAt_ap, eOwn2_ap, eSl_ap, pNo_ap, pSome_ap, eLstRg1_ap, eTupRg1_ap, eApp_ap, eExtend_ap, iOf_ap, iEnum_ap, iZip2_ap, iRng1_ap, eLc_ap, keep_nil, keep_zero, opI, opIc, opB, opAdd, opLen, opNeg, opMax, opMin, opAbs, opInt, opIx, opIsNotN, opIsN, isNon, opTuple, opList, opRev, opSl, opSlL, isi_int, isi_boolint, isi_tuple, items?, opEq_int, opNe_int, setAll, forgetAll, wipeE, backE, lentAt, fill, List.cons_append, List.nil_append, List.append_nil, List.replicate_succ, List.replicate_zero, List.getElem?_cons_zero, List.getElem?_cons_succ, List.set_cons_zero, List.set_cons_succ, List.map_cons, List.map_nil, List.length_cons, List.length_nil, List.length_map, List.length_replicate, List.all_nil, List.all_cons, Option.isSome, Option.bind_some, Option.map_some, Option.getD_some, Option.bind_none, Option.map_none, Nat.reduceAdd, Nat.zero_add, beq_self_eq_true, Bool.and_true, Bool.true_and, Bool.false_eq_true, reduceIte, reduceCtorEq, if_true, if_false, Bool.not_true, Bool.not_false, decide_true, decide_false, hp, md, dstep], trivial⟩) trivial).1
  simp -implicitDefEqProofs only [m_digest_in, b_digest_in, semDef_ap, sSeq_ap, sSet_ap, sRet_ap, sIf_ap, sExpr_ap, sNil_ap, sNever_ap, sAug_ap, sPar_ap, sAsgT_ap, sStore_ap, sAugStore_ap, sFor_ap, sForO_ap, sWhile_ap, turn_ap, gNm_ap, gsNil_ap, gsCons_ap, gTp_ap, eVar_ap, eMove_ap, eC_ap, eBin_ap, eUn_ap, tOf_ap, tvAnd_ap, tvOr_ap, tvNot_ap, eAnd_ap, eOr_ap, eNot_ap, eIf_ap, eChain_ap, aNil_ap, aCons_ap, aStar_ap, eTup_ap, eLst_ap, eCall_ap, eCallL_ap, lNil_ap, lSh_ap, lLe_ap, lstAt_ap, eOwn2_ap, eSl_ap, pNo_ap, pSome_ap, eLstRg1_ap, eTupRg1_ap, eApp_ap, eExtend_ap, iOf_ap, iEnum_ap, iZip2_ap, iRng1_ap, eLc_ap, keep_nil, keep_zero, opI, opIc, opB, opAdd, opLen, opNeg, opMax, opMin, opAbs, opInt, opIx, opIsNotN, opIsN, isNon, opTuple, opList, opRev, opSl, opSlL, isi_int, isi_boolint, isi_tuple, items?, opEq_int, opNe_int, setAll, forgetAll, wipeE, backE, lentAt, fill, List.cons_append, List.nil_append, List.append_nil, List.replicate_succ, List.replicate_zero, List.getElem?_cons_zero, List.getElem?_cons_succ, List.set_cons_zero, List.set_cons_succ, List.map_cons, List.map_nil, List.length_cons, List.length_nil, List.length_map, List.length_replicate, List.all_nil, List.all_cons, Option.isSome, Option.bind_some, Option.map_some, Option.getD_some, Option.bind_none, Option.map_none, Nat.reduceAdd, Nat.zero_add, beq_self_eq_true, Bool.and_true, Bool.true_and, Bool.false_eq_true, reduceIte, reduceCtorEq, if_true, if_false, Bool.not_true, Bool.not_false, decide_true, decide_false, lp, dig]
theorem dstep_inj {s m t n : Int} (h : dstep s m = dstep t n) : Cg BI (s + m) (t + n) := by
  unfold dstep at h
  have h1 : Cg BI ((s + m) ^ 17 % BI + 3) ((t + n) ^ 17 % BI + 3) := Cg.iff.mpr h
  have h2 : Cg BI ((s + m) ^ 17) ((t + n) ^ 17) := by
    have := Cg.sub h1 (Cg.refl BI 3)
    rw [Int.add_sub_cancel, Int.add_sub_cancel] at this
    exact (Cg.mod _ _).symm.trans (this.trans (Cg.mod _ _))
  have pw : ∀ (a : Int) (k : Nat), Cg BI ((a % BI) ^ k) (a ^ k) := fun a k => by
    induction k with
    | zero => rw [Int.pow_zero, Int.pow_zero]; exact Cg.refl _ _
    | succ k ih =>
      rw [Int.pow_succ, Int.pow_succ]
      exact ih.mul (Cg.mod _ _)
  have h3 : Cg BI (((s + m) % BI) ^ 17) (((t + n) % BI) ^ 17) := (pw _ 17).trans (h2.trans (pw _ 17).symm)
  have b1 : 0 ≤ (s + m) % BI := Int.emod_nonneg _ (by decide)
  have b2 : (s + m) % BI < BI := Int.emod_lt_of_pos _ (by decide)
  have b3 : 0 ≤ (t + n) % BI := Int.emod_nonneg _ (by decide)
  have b4 : (t + n) % BI < BI := Int.emod_lt_of_pos _ (by decide)
  obtain ⟨x, hx⟩ := ex_nat b1
  obtain ⟨y, hy⟩ := ex_nat b3
  rw [hx, hy] at h3
  rw [hx] at b2
  rw [hy] at b4
  have h4 := Cg.iff.mp h3
  rw [← Int.natCast_pow, ← Int.natCast_pow] at h4
  have h5 : x ^ 17 % BM = y ^ 17 % BM := by
    have : ((x ^ 17 % BM : Nat) : Int) = ((y ^ 17 % BM : Nat) : Int) := by
      rw [Int.natCast_emod, Int.natCast_emod]
      exact h4
    exact Int.ofNat.inj this
  have b2 : (x : Int) < 2305843009213693951 := b2
  have b4 : (y : Int) < 2305843009213693951 := b4
  have := inj17 (show x < 2305843009213693951 by omega) (show y < 2305843009213693951 by omega) h5
  exact Cg.iff.mpr (by rw [hx, hy, this])
theorem dstep_left {s t m : Int} (hs : 0 ≤ s ∧ s < BI) (ht : 0 ≤ t ∧ t < BI) (h : dstep s m = dstep t m) : s = t := by
  have h1 := Cg.sub (dstep_inj h) (Cg.refl BI m)
  rw [Int.add_sub_cancel, Int.add_sub_cancel] at h1
  exact Cg.eq h1 hs ht
theorem dstep_right {s m n : Int} (hs : 0 ≤ m ∧ m < BI) (ht : 0 ≤ n ∧ n < BI) (h : dstep s m = dstep s n) : m = n := by
  have h1 := Cg.sub (dstep_inj h) (Cg.refl BI s)
  rw [show s + m - s = m from by omega, show s + n - s = n from by omega] at h1
  exact Cg.eq h1 hs ht
theorem dg_left {a a' b : Int} (ha : 0 ≤ a ∧ a < BI) (ha' : 0 ≤ a' ∧ a' < BI) (h : dg a b = dg a' b) : a = a' := dstep_right ha ha' (dstep_left (dstep_b _ _) (dstep_b _ _) h)
theorem dg_right {a b b' : Int} (ha : 0 ≤ b ∧ b < BI) (ha' : 0 ≤ b' ∧ b' < BI) (h : dg a b = dg a b') : b = b' := dstep_right ha ha' h
theorem fold_inj : ∀ (r : List Int) {s t : Int}, 0 ≤ s ∧ s < BI → 0 ≤ t ∧ t < BI → r.foldl dstep s = r.foldl dstep t → s = t
  | [], _, _, _, _, h => h
  | m :: r, s, t, hs, ht, h => dstep_left hs ht (fold_inj r (dstep_b s m) (dstep_b t m) h)
theorem dig_bent {x : Int} {r : List Int} (h0 : 0 ≤ x) (h1 : x < 100000) : dig ((x + 1) :: r) ≠ dig (x :: r) := fun h => by
  have h : r.foldl dstep (dstep (((x + 1) :: r).length : Int) (x + 1)) = r.foldl dstep (dstep ((x :: r).length : Int) x) := h
  have h2 := fold_inj r (dstep_b _ _) (dstep_b _ _) h
  have h3 : dstep ((x :: r).length : Int) (x + 1) = dstep ((x :: r).length : Int) x := h2
  have := dstep_right ⟨by omega, by unfold BI; omega⟩ ⟨h0, by unfold BI; omega⟩ h3
  omega
/-! ### layers -/
def up (h : List Int) : List Int := (List.range (h.length / 2)).map fun i => dg ((h[2 * i]?).getD 0) ((h[2 * i + 1]?).getD 0)
theorem up_length (h : List Int) : (up h).length = h.length / 2 := by simp [up]
def lay : Nat → List Int → List (List Int)
  | 0, h => [h]
  | k + 1, h => h :: lay k (up h)
def topOf : Nat → List Int → Int
  | 0, h => (h[0]?).getD 0
  | k + 1, h => topOf k (up h)
def sib (a : Nat) : Nat := if a % 2 = 0 then a + 1 else a - 1
def pathL : Nat → List Int → Nat → List Int
  | 0, _, _ => []
  | k + 1, h, a => (h[sib a]?).getD 0 :: pathL k (up h) (a / 2)
def climb : List Int → Int → Nat → Int
  | [], here, _ => here
  | b :: r, here, a => climb r (if a % 2 = 0 then dg here b else dg b here) (a / 2)
theorem pathL_length : ∀ (k : Nat) (h : List Int) (a : Nat), (pathL k h a).length = k
  | 0, _, _ => rfl
  | k + 1, h, a => by
    show (pathL k (up h) (a / 2)).length + 1 = _
    rw [pathL_length k]
theorem up_get {h : List Int} {i : Nat} (hi : i < h.length / 2) : (up h)[i]? = some (dg ((h[2 * i]?).getD 0) ((h[2 * i + 1]?).getD 0)) := by
  unfold up
  rw [List.getElem?_map, List.getElem?_range hi]
  rfl
theorem climb_top : ∀ (k : Nat) (h : List Int) (a : Nat), h.length = 2 ^ k → a < 2 ^ k → climb (pathL k h a) ((h[a]?).getD 0) a = topOf k h
  | 0, h, a, hl, ha => by
    have : a = 0 := by simpa using ha
    subst this
    rfl
  | k + 1, h, a, hl, ha => by
    rw [Nat.pow_succ] at hl ha
    have ih := climb_top k (up h) (a / 2) (by rw [up_length]; omega) (by omega)
    have hu := up_get (h := h) (i := a / 2) (by omega)
    rw [hu, Option.getD_some] at ih
    show climb (pathL k (up h) (a / 2)) (if a % 2 = 0 then dg ((h[a]?).getD 0) ((h[sib a]?).getD 0) else dg ((h[sib a]?).getD 0) ((h[a]?).getD 0)) (a / 2) = topOf k (up h)
    rw [← ih]
    by_cases q : a % 2 = 0
    · rw [if_pos q]
      unfold sib
      rw [if_pos q, show 2 * (a / 2) = a from by omega]
    · rw [if_neg q]
      unfold sib
      rw [if_neg q, show 2 * (a / 2) = a - 1 from by omega, show a - 1 + 1 = a from by omega]
theorem up_set {h : List Int} {a : Nat} {v : Int} (ha : a < h.length) (he : h.length % 2 = 0) : ∃ v', up (h.set a v) = (up h).set (a / 2) v' := by
  refine ⟨dg (((h.set a v)[2 * (a / 2)]?).getD 0) (((h.set a v)[2 * (a / 2) + 1]?).getD 0), ?_⟩
  apply List.ext_getElem?
  intro i
  by_cases hi : i < h.length / 2
  · rw [up_get (by rw [List.length_set]; exact hi)]
    by_cases q : a / 2 = i
    · rw [q, List.getElem?_set_self (by rw [up_length]; exact hi)]
    · rw [List.getElem?_set_ne q, up_get hi, List.getElem?_set_ne (by omega), List.getElem?_set_ne (by omega)]
  · rw [List.getElem?_eq_none (by rw [up_length, List.length_set]; omega), List.getElem?_eq_none (by rw [List.length_set, up_length]; omega)]
theorem pathL_set : ∀ (k : Nat) (h : List Int) (a : Nat) (v : Int), h.length = 2 ^ k → a < 2 ^ k → pathL k (h.set a v) a = pathL k h a
  | 0, _, _, _, _, _ => rfl
  | k + 1, h, a, v, hl, ha => by
    have hl2 := hl
    have ha2 := ha
    rw [Nat.pow_succ] at hl ha
    obtain ⟨v', e⟩ := up_set (v := v) (show a < h.length by omega) (by omega)
    show ((h.set a v)[sib a]?).getD 0 :: pathL k (up (h.set a v)) (a / 2) = (h[sib a]?).getD 0 :: pathL k (up h) (a / 2)
    rw [e, pathL_set k (up h) (a / 2) v' (by rw [up_length]; omega) (by omega), List.getElem?_set_ne (by unfold sib; split <;> omega)]
theorem climb_inj : ∀ (p : List Int) {x y : Int} (a : Nat), 0 ≤ x ∧ x < BI → 0 ≤ y ∧ y < BI → climb p x a = climb p y a → x = y
  | [], _, _, _, _, _, h => h
  | b :: r, x, y, a, hx, hy, h => by
    have h : climb r (if a % 2 = 0 then dg x b else dg b x) (a / 2) = climb r (if a % 2 = 0 then dg y b else dg b y) (a / 2) := h
    by_cases q : a % 2 = 0
    · rw [if_pos q, if_pos q] at h
      exact dg_left hx hy (climb_inj r (a / 2) (dstep_b _ _) (dstep_b _ _) h)
    · rw [if_neg q, if_neg q] at h
      exact dg_right hx hy (climb_inj r (a / 2) (dstep_b _ _) (dstep_b _ _) h)
theorem pathL_b : ∀ (k : Nat) (h : List Int) (a : Nat), (∀ x ∈ h, 0 ≤ x ∧ x < BI) → ∀ x ∈ pathL k h a, 0 ≤ x ∧ x < BI
  | 0, _, _, _, x, hx => absurd hx (by simp [pathL])
  | k + 1, h, a, hb, x, hx => by
    rcases List.mem_cons.mp hx with q | q
    · rw [q]
      cases e : h[sib a]? with
      | none => exact ⟨Int.le_refl 0, by decide⟩
      | some y => exact hb y (List.mem_of_getElem? e)
    · refine pathL_b k (up h) (a / 2) (fun z hz => ?_) x q
      obtain ⟨i, _, rfl⟩ := List.mem_map.mp hz
      exact dstep_b _ _
end Hd

namespace Hd
open PL PM
theorem rng2 (j : Nat) (h : j = 1 ∨ j = 2 ∨ j = 4) : (decide ((2 : Int) ≠ 0 ∧ (2 : Int).natAbs < 1073741824) && PySem.Builtin.Range.small 0 ((2 * j : Nat) : Int) 2) = true ∧ rgC 0 2 (PySem.Builtin.Range.rangeSize 0 ((2 * j : Nat) : Int) 2).toNat = (List.range j).map fun (i : Nat) => PV.int (2 * (i : Int)) := by
  rcases h with rfl | rfl | rfl
  · exact ⟨by decide, rfl⟩
  · exact ⟨by decide, rfl⟩
  · exact ⟨by decide, rfl⟩
theorem iRng3_ap {ea eb ec : EvE} {ρ : Env} : iRng3 ea eb ec ρ = match ea ρ with
  | some (.int m, ρ1) => (match eb ρ1 with
    | some (.int n, ρ2) => (match ec ρ2 with
      | some (.int c, ρ3) => if (decide (c ≠ 0 ∧ c.natAbs < 1073741824) && PySem.Builtin.Range.small m n c) = true then some (rgC m c (PySem.Builtin.Range.rangeSize m n c).toNat, ρ3) else none
      | _ => none)
    | _ => none)
  | _ => none := rfl
theorem up_comp (a b z : Option PV) (h : List Int) (j : Nat) (hl : h.length = 2 * j) : lcL (gNm 4) tYes' (eCall 1 m_digest_in (aCons (eTup (aCons (eBin opIx (eVar 2) (eVar 4)) (aCons (eBin opIx (eVar 2) (eBin opAdd (eVar 4) (eC (.int 1)))) aNil))) aNil)) [4] ((List.range j).map fun (i : Nat) => PV.int (2 * (i : Int))) [a, b, some (lI h), z, none]
    = some ((up h).map .int, [a, b, some (lI h), z, none]) := by
  have f2 : fits 2 = true := by decide
  have em : (up h).map PV.int = (List.range j).map fun i => PV.int (dg ((h[2 * i]?).getD 0) ((h[2 * i + 1]?).getD 0)) := by
    unfold up
    rw [List.map_map, hl, Nat.mul_div_cancel_left _ (by decide)]
    rfl
  rw [em]
  refine lcL_map fun i hi => ⟨[a, b, some (lI h), z, some (.int (2 * (i : Int)))], [a, b, some (lI h), z, some (.int (2 * (i : Int)))], by simp -implicitDefEqProofs only [semDef_ap, sSeq_ap, sSet_ap, sRet_ap, sIf_ap, sExpr_ap, sNil_ap, sNever_ap, sAug_ap, sPar_ap, sAsgT_ap, sStore_ap, sAugStore_ap, sFor_ap, sForO_ap, sWhile_ap, turn_ap, gNm_ap, gsNil_ap, gsCons_ap, gTp_ap, eVar_ap, eMove_ap, eC_ap, eBin_ap, eUn_ap, tOf_ap, tvAnd_ap, tvOr_ap, tvNot_ap, eAnd_ap, eOr_ap, eNot_ap, eIf_ap, eChain_ap, aNil_ap, aCons_ap, aStar_ap, eTup_ap, eLst_ap, eCall_ap, eCallL_ap, lNil_ap, lSh_ap, lLe_ap, lstAt_ap, eOwn2_ap, eSl_ap, pNo_ap, pSome_ap, eLstRg1_ap, eTupRg1_ap, eApp_ap, eExtend_ap, iOf_ap, iEnum_ap, iZip2_ap, iRng1_ap, eLc_ap, keep_nil, keep_zero, opI, opIc, opB, opAdd, opLen, opNeg, opMax, opMin, opAbs, opInt, opIx, opIsNotN, opIsN, isNon, opTuple, opList, opRev, opSl, opSlL, isi_int, isi_boolint, isi_tuple, items?, opEq_int, opNe_int, setAll, forgetAll, wipeE, backE, lentAt, fill, List.cons_append, List.nil_append, List.append_nil, List.replicate_succ, List.replicate_zero, List.getElem?_cons_zero, List.getElem?_cons_succ, List.set_cons_zero, List.set_cons_succ, List.map_cons, List.map_nil, List.length_cons, List.length_nil, List.length_map, List.length_replicate, List.all_nil, List.all_cons, Option.isSome, Option.bind_some, Option.map_some, Option.getD_some, Option.bind_none, Option.map_none, Nat.reduceAdd, Nat.zero_add, beq_self_eq_true, Bool.and_true, Bool.true_and, Bool.false_eq_true, reduceIte, reduceCtorEq, if_true, if_false, Bool.not_true, Bool.not_false, decide_true, decide_false], ?_, by simp -implicitDefEqProofs only [semDef_ap, sSeq_ap, sSet_ap, sRet_ap, sIf_ap, sExpr_ap, sNil_ap, sNever_ap, sAug_ap, sPar_ap, sAsgT_ap, sStore_ap, sAugStore_ap, sFor_ap, sForO_ap, sWhile_ap, turn_ap, gNm_ap, gsNil_ap, gsCons_ap, gTp_ap, eVar_ap, eMove_ap, eC_ap, eBin_ap, eUn_ap, tOf_ap, tvAnd_ap, tvOr_ap, tvNot_ap, eAnd_ap, eOr_ap, eNot_ap, eIf_ap, eChain_ap, aNil_ap, aCons_ap, aStar_ap, eTup_ap, eLst_ap, eCall_ap, eCallL_ap, lNil_ap, lSh_ap, lLe_ap, lstAt_ap, eOwn2_ap, eSl_ap, pNo_ap, pSome_ap, eLstRg1_ap, eTupRg1_ap, eApp_ap, eExtend_ap, iOf_ap, iEnum_ap, iZip2_ap, iRng1_ap, eLc_ap, keep_nil, keep_zero, opI, opIc, opB, opAdd, opLen, opNeg, opMax, opMin, opAbs, opInt, opIx, opIsNotN, opIsN, isNon, opTuple, opList, opRev, opSl, opSlL, isi_int, isi_boolint, isi_tuple, items?, opEq_int, opNe_int, setAll, forgetAll, wipeE, backE, lentAt, fill, List.cons_append, List.nil_append, List.append_nil, List.replicate_succ, List.replicate_zero, List.getElem?_cons_zero, List.getElem?_cons_succ, List.set_cons_zero, List.set_cons_succ, List.map_cons, List.map_nil, List.length_cons, List.length_nil, List.length_map, List.length_replicate, List.all_nil, List.all_cons, Option.isSome, Option.bind_some, Option.map_some, Option.getD_some, Option.bind_none, Option.map_none, Nat.reduceAdd, Nat.zero_add, beq_self_eq_true, Bool.and_true, Bool.true_and, Bool.false_eq_true, reduceIte, reduceCtorEq, if_true, if_false, Bool.not_true, Bool.not_false, decide_true, decide_false]⟩
  have hi := List.mem_range.mp hi
  have g1 : L2.atI (h.map PV.int) (2 * (i : Int)) = some (.int ((h[2 * i]?).getD 0)) := by
    rw [show 2 * (i : Int) = ((2 * i : Nat) : Int) from by omega]
    exact atI_nat (by rw [List.getElem?_map, List.getElem?_eq_getElem (show 2 * i < h.length by omega)]; rfl)
  have g2 : L2.atI (h.map PV.int) (2 * (i : Int) + 1) = some (.int ((h[2 * i + 1]?).getD 0)) := by
    rw [show 2 * (i : Int) + 1 = ((2 * i + 1 : Nat) : Int) from by omega]
    exact atI_nat (by rw [List.getElem?_map, List.getElem?_eq_getElem (show 2 * i + 1 < h.length by omega)]; rfl)
  have e := s_digest_in [(h[2 * i]?).getD 0, (h[2 * i + 1]?).getD 0] (by simp)
  rw [dig_pair] at e
  have e : m_digest_in [some (.tup [.int ((h[2 * i]?).getD 0), .int ((h[2 * i + 1]?).getD 0)])] = some (.int (dg ((h[2 * i]?).getD 0) ((h[2 * i + 1]?).getD 0)), [none]) := e
  simp -implicitDefEqProofs only [semDef_ap, sSeq_ap, sSet_ap, sRet_ap, sIf_ap, sExpr_ap, sNil_ap, sNever_ap, sAug_ap, sPar_ap, sAsgT_ap, sStore_ap, sAugStore_ap, sFor_ap, sForO_ap, sWhile_ap, turn_ap, gNm_ap, gsNil_ap, gsCons_ap, gTp_ap, eVar_ap, eMove_ap, eC_ap, eBin_ap, eUn_ap, tOf_ap, tvAnd_ap, tvOr_ap, tvNot_ap, eAnd_ap, eOr_ap, eNot_ap, eIf_ap, eChain_ap, aNil_ap, aCons_ap, aStar_ap, eTup_ap, eLst_ap, eCall_ap, eCallL_ap, lNil_ap, lSh_ap, lLe_ap, lstAt_ap, eOwn2_ap, eSl_ap, pNo_ap, pSome_ap, eLstRg1_ap, eTupRg1_ap, eApp_ap, eExtend_ap, iOf_ap, iEnum_ap, iZip2_ap, iRng1_ap, eLc_ap, keep_nil, keep_zero, opI, opIc, opB, opAdd, opLen, opNeg, opMax, opMin, opAbs, opInt, opIx, opIsNotN, opIsN, isNon, opTuple, opList, opRev, opSl, opSlL, isi_int, isi_boolint, isi_tuple, items?, opEq_int, opNe_int, setAll, forgetAll, wipeE, backE, lentAt, fill, List.cons_append, List.nil_append, List.append_nil, List.replicate_succ, List.replicate_zero, List.getElem?_cons_zero, List.getElem?_cons_succ, List.set_cons_zero, List.set_cons_succ, List.map_cons, List.map_nil, List.length_cons, List.length_nil, List.length_map, List.length_replicate, List.all_nil, List.all_cons, Option.isSome, Option.bind_some, Option.map_some, Option.getD_some, Option.bind_none, Option.map_none, Nat.reduceAdd, Nat.zero_add, beq_self_eq_true, Bool.and_true, Bool.true_and, Bool.false_eq_true, reduceIte, reduceCtorEq, if_true, if_false, Bool.not_true, Bool.not_false, decide_true, decide_false, g1, g2, f2, e]
theorem s_layers_loop : ∀ (k : Nat) (a z : Option PV) (pre : List (List Int)) (h : List Int) (fuel : Nat), h.length = 2 ^ k → k ≤ 3 → pre.length + k ≤ 100 → k < fuel → ∃ z', whileL (tOf (eBin opGt (eUn opLen (eOwn2 1 opIx (eUn opNeg (eC (.int 1))))) (eC (.int 1)))) (sSeq (sSet 2 (eOwn2 1 opIx (eUn opNeg (eC (.int 1)))))
    (sExpr (eApp 1 (eLc (iRng3 (eC (.int 0)) (eUn opLen (eVar 2)) (eC k_TWO)) (gNm 4) tYes' (eCall 1 m_digest_in (aCons (eTup (aCons (eBin opIx (eVar 2) (eVar 4)) (aCons (eBin opIx (eVar 2) (eBin opAdd (eVar 4) (eC (.int 1)))) aNil))) aNil)) [4])))) fuel [a, some (.lst ((pre ++ [h]).map lI)), z, none, none]
    = some (.nx, [a, some (.lst ((pre ++ lay k h).map lI)), z', none, none])
  | 0, a, z, pre, h, fuel, hl, _, _, hf => by
    obtain ⟨m, rfl⟩ : ∃ m, fuel = m + 1 := ⟨fuel - 1, by omega⟩
    have hi : L2.atI ((pre ++ [h]).map lI) (-1) = some (lI h) := atI_last (by simp)
    have hl : h.length = 1 := hl
    have hg : decide ((1 : Int) < ((1 : Nat) : Int)) = false := rfl
    exact ⟨z, whileL_f (by simp -implicitDefEqProofs only [semDef_ap, sSeq_ap, sSet_ap, sRet_ap, sIf_ap, sExpr_ap, sNil_ap, sNever_ap, sAug_ap, sPar_ap, sAsgT_ap, sStore_ap, sAugStore_ap, sFor_ap, sForO_ap, sWhile_ap, turn_ap, gNm_ap, gsNil_ap, gsCons_ap, gTp_ap, eVar_ap, eMove_ap, eC_ap, eBin_ap, eUn_ap, tOf_ap, tvAnd_ap, tvOr_ap, tvNot_ap, eAnd_ap, eOr_ap, eNot_ap, eIf_ap, eChain_ap, aNil_ap, aCons_ap, aStar_ap, eTup_ap, eLst_ap, eCall_ap, eCallL_ap, lNil_ap, lSh_ap, lLe_ap, lstAt_ap, eOwn2_ap, eSl_ap, pNo_ap, pSome_ap, eLstRg1_ap, eTupRg1_ap, eApp_ap, eExtend_ap, iOf_ap, iEnum_ap, iZip2_ap, iRng1_ap, eLc_ap, keep_nil, keep_zero, opI, opIc, opB, opAdd, opLen, opNeg, opMax, opMin, opAbs, opInt, opIx, opIsNotN, opIsN, isNon, opTuple, opList, opRev, opSl, opSlL, isi_int, isi_boolint, isi_tuple, items?, opEq_int, opNe_int, setAll, forgetAll, wipeE, backE, lentAt, fill, List.cons_append, List.nil_append, List.append_nil, List.replicate_succ, List.replicate_zero, List.getElem?_cons_zero, List.getElem?_cons_succ, List.set_cons_zero, List.set_cons_succ, List.map_cons, List.map_nil, List.length_cons, List.length_nil, List.length_map, List.length_replicate, List.all_nil, List.all_cons, Option.isSome, Option.bind_some, Option.map_some, Option.getD_some, Option.bind_none, Option.map_none, Nat.reduceAdd, Nat.zero_add, beq_self_eq_true, Bool.and_true, Bool.true_and, Bool.false_eq_true, reduceIte, reduceCtorEq, if_true, if_false, Bool.not_true, Bool.not_false, decide_true, decide_false, hi, hl, hg, lay])⟩
  | k + 1, a, z, pre, h, fuel, hl, hk, hp, hf => by
    obtain ⟨m, rfl⟩ : ∃ m, fuel = m + 1 := ⟨fuel - 1, by omega⟩
    rw [Nat.pow_succ, Nat.mul_comm] at hl
    have hj : 2 ^ k = 1 ∨ 2 ^ k = 2 ∨ 2 ^ k = 4 := by
      rcases (show k = 0 ∨ k = 1 ∨ k = 2 by omega) with rfl | rfl | rfl
      · exact .inl rfl
      · exact .inr (.inl rfl)
      · exact .inr (.inr rfl)
    have hpos : 0 < 2 ^ k := Nat.pow_pos (by decide)
    have hle : 2 ^ k ≤ 4 := by omega
    have hi : L2.atI ((pre ++ [h]).map lI) (-1) = some (lI h) := atI_last (by simp)
    have hg : decide ((1 : Int) < ((2 * 2 ^ k : Nat) : Int)) = true := decide_eq_true (by omega)
    obtain ⟨z', e⟩ := s_layers_loop k a (some (lI h)) (pre ++ [h]) (up h) m (by rw [up_length, hl]; omega) (by omega) (by simp; omega) (by omega)
    refine ⟨z', ?_⟩
    obtain ⟨q1, q2⟩ := rng2 (2 ^ k) hj
    have uc := up_comp a (some (.lst ((pre ++ [h]).map lI))) none h (2 ^ k) hl
    have ap : (pre ++ [h]).map lI ++ [lI (up h)] = (pre ++ [h] ++ [up h]).map lI := by rw [List.map_append (l₂ := [up h])]; rfl
    rw [whileL_t (ρ1 := [a, some (.lst ((pre ++ [h]).map lI)), z, none, none]) (ρ2 := [a, some (.lst ((pre ++ [h] ++ [up h]).map lI)), some (lI h), none, none])]
    · rw [e, List.append_assoc]
      rfl
    · simp -implicitDefEqProofs only [semDef_ap, sSeq_ap, sSet_ap, sRet_ap, sIf_ap, sExpr_ap, sNil_ap, sNever_ap, sAug_ap, sPar_ap, sAsgT_ap, sStore_ap, sAugStore_ap, sFor_ap, sForO_ap, sWhile_ap, turn_ap, gNm_ap, gsNil_ap, gsCons_ap, gTp_ap, eVar_ap, eMove_ap, eC_ap, eBin_ap, eUn_ap, tOf_ap, tvAnd_ap, tvOr_ap, tvNot_ap, eAnd_ap, eOr_ap, eNot_ap, eIf_ap, eChain_ap, aNil_ap, aCons_ap, aStar_ap, eTup_ap, eLst_ap, eCall_ap, eCallL_ap, lNil_ap, lSh_ap, lLe_ap, lstAt_ap, eOwn2_ap, eSl_ap, pNo_ap, pSome_ap, eLstRg1_ap, eTupRg1_ap, eApp_ap, eExtend_ap, iOf_ap, iEnum_ap, iZip2_ap, iRng1_ap, eLc_ap, keep_nil, keep_zero, opI, opIc, opB, opAdd, opLen, opNeg, opMax, opMin, opAbs, opInt, opIx, opIsNotN, opIsN, isNon, opTuple, opList, opRev, opSl, opSlL, isi_int, isi_boolint, isi_tuple, items?, opEq_int, opNe_int, setAll, forgetAll, wipeE, backE, lentAt, fill, List.cons_append, List.nil_append, List.append_nil, List.replicate_succ, List.replicate_zero, List.getElem?_cons_zero, List.getElem?_cons_succ, List.set_cons_zero, List.set_cons_succ, List.map_cons, List.map_nil, List.length_cons, List.length_nil, List.length_map, List.length_replicate, List.all_nil, List.all_cons, Option.isSome, Option.bind_some, Option.map_some, Option.getD_some, Option.bind_none, Option.map_none, Nat.reduceAdd, Nat.zero_add, beq_self_eq_true, Bool.and_true, Bool.true_and, Bool.false_eq_true, reduceIte, reduceCtorEq, if_true, if_false, Bool.not_true, Bool.not_false, decide_true, decide_false, hi, hl, hg]
    · simp -implicitDefEqProofs only [semDef_ap, sSeq_ap, sSet_ap, sRet_ap, sIf_ap, sExpr_ap, sNil_ap, sNever_ap, sAug_ap, sPar_ap, sAsgT_ap, sStore_ap, sAugStore_ap, sFor_ap, sForO_ap, sWhile_ap, turn_ap, gNm_ap, gsNil_ap, gsCons_ap, gTp_ap, eVar_ap, eMove_ap, eC_ap, eBin_ap, eUn_ap, tOf_ap, tvAnd_ap, tvOr_ap, tvNot_ap, eAnd_ap, eOr_ap, eNot_ap, eIf_ap, eChain_ap, aNil_ap, aCons_ap, aStar_ap, eTup_ap, eLst_ap, eCall_ap, eCallL_ap, lNil_ap, lSh_ap, lLe_ap, lstAt_ap, eOwn2_ap, eSl_ap, pNo_ap, pSome_ap, eLstRg1_ap, eTupRg1_ap, eApp_ap, eExtend_ap, iOf_ap, iEnum_ap, iZip2_ap, iRng1_ap, eLc_ap, keep_nil, keep_zero, opI, opIc, opB, opAdd, opLen, opNeg, opMax, opMin, opAbs, opInt, opIx, opIsNotN, opIsN, isNon, opTuple, opList, opRev, opSl, opSlL, isi_int, isi_boolint, isi_tuple, items?, opEq_int, opNe_int, setAll, forgetAll, wipeE, backE, lentAt, fill, List.cons_append, List.nil_append, List.append_nil, List.replicate_succ, List.replicate_zero, List.getElem?_cons_zero, List.getElem?_cons_succ, List.set_cons_zero, List.set_cons_succ, List.map_cons, List.map_nil, List.length_cons, List.length_nil, List.length_map, List.length_replicate, List.all_nil, List.all_cons, Option.isSome, Option.bind_some, Option.map_some, Option.getD_some, Option.bind_none, Option.map_none, Nat.reduceAdd, Nat.zero_add, beq_self_eq_true, Bool.and_true, Bool.true_and, Bool.false_eq_true, reduceIte, reduceCtorEq, if_true, if_false, Bool.not_true, Bool.not_false, decide_true, decide_false, hi, hl, iRng3_ap, q1, q2, List.length_range, fits_of (show 2 ^ k ≤ 16777216 by omega), uc, List.length_append, fits_of (show pre.length + 1 + 1 ≤ 16777216 by omega), ap]
theorem s_layers (k : Nat) (ls : List (List Int)) (hk : k ≤ 3) (hl : ls.length = 2 ^ k) (hb : ∀ l ∈ ls, l.length ≤ 1000) : m_digest_layers [some (tT ls)] = some (.lst ((lay k (ls.map dig)).map lI), [none]) := by
  have hle : 2 ^ k ≤ 8 := Nat.pow_le_pow_right (n := 2) (by decide) hk
  have lc : lcL (gNm 3) tYes' (eCall 1 m_digest_in (aCons (eVar 3) aNil)) [3] (ls.map tI) [some (tT ls), none, none, none, none] = some (ls.map fun l => .int (dig l), [some (tT ls), none, none, none, none]) :=
    lcL_map fun l h => ⟨[some (tT ls), none, none, some (tI l), none], [some (tT ls), none, none, some (tI l), none], by simp -implicitDefEqProofs only [semDef_ap, sSeq_ap, sSet_ap, sRet_ap, sIf_ap, sExpr_ap, sNil_ap, sNever_ap, sAug_ap, sPar_ap, sAsgT_ap, sStore_ap, sAugStore_ap, sFor_ap, sForO_ap, sWhile_ap, turn_ap, gNm_ap, gsNil_ap, gsCons_ap, gTp_ap, eVar_ap, eMove_ap, eC_ap, eBin_ap, eUn_ap, tOf_ap, tvAnd_ap, tvOr_ap, tvNot_ap, eAnd_ap, eOr_ap, eNot_ap, eIf_ap, eChain_ap, aNil_ap, aCons_ap, aStar_ap, eTup_ap, eLst_ap, eCall_ap, eCallL_ap, lNil_ap, lSh_ap, lLe_ap, lstAt_ap, eOwn2_ap, eSl_ap, pNo_ap, pSome_ap, eLstRg1_ap, eTupRg1_ap, eApp_ap, eExtend_ap, iOf_ap, iEnum_ap, iZip2_ap, iRng1_ap, eLc_ap, keep_nil, keep_zero, opI, opIc, opB, opAdd, opLen, opNeg, opMax, opMin, opAbs, opInt, opIx, opIsNotN, opIsN, isNon, opTuple, opList, opRev, opSl, opSlL, isi_int, isi_boolint, isi_tuple, items?, opEq_int, opNe_int, setAll, forgetAll, wipeE, backE, lentAt, fill, List.cons_append, List.nil_append, List.append_nil, List.replicate_succ, List.replicate_zero, List.getElem?_cons_zero, List.getElem?_cons_succ, List.set_cons_zero, List.set_cons_succ, List.map_cons, List.map_nil, List.length_cons, List.length_nil, List.length_map, List.length_replicate, List.all_nil, List.all_cons, Option.isSome, Option.bind_some, Option.map_some, Option.getD_some, Option.bind_none, Option.map_none, Nat.reduceAdd, Nat.zero_add, beq_self_eq_true, Bool.and_true, Bool.true_and, Bool.false_eq_true, reduceIte, reduceCtorEq, if_true, if_false, Bool.not_true, Bool.not_false, decide_true, decide_false], by simp -implicitDefEqProofs only [semDef_ap, sSeq_ap, sSet_ap, sRet_ap, sIf_ap, sExpr_ap, sNil_ap, sNever_ap, sAug_ap, sPar_ap, sAsgT_ap, sStore_ap, sAugStore_ap, sFor_ap, sForO_ap, sWhile_ap, turn_ap, gNm_ap, gsNil_ap, gsCons_ap, gTp_ap, eVar_ap, eMove_ap, eC_ap, eBin_ap, eUn_ap, tOf_ap, tvAnd_ap, tvOr_ap, tvNot_ap, eAnd_ap, eOr_ap, eNot_ap, eIf_ap, eChain_ap, aNil_ap, aCons_ap, aStar_ap, eTup_ap, eLst_ap, eCall_ap, eCallL_ap, lNil_ap, lSh_ap, lLe_ap, lstAt_ap, eOwn2_ap, eSl_ap, pNo_ap, pSome_ap, eLstRg1_ap, eTupRg1_ap, eApp_ap, eExtend_ap, iOf_ap, iEnum_ap, iZip2_ap, iRng1_ap, eLc_ap, keep_nil, keep_zero, opI, opIc, opB, opAdd, opLen, opNeg, opMax, opMin, opAbs, opInt, opIx, opIsNotN, opIsN, isNon, opTuple, opList, opRev, opSl, opSlL, isi_int, isi_boolint, isi_tuple, items?, opEq_int, opNe_int, setAll, forgetAll, wipeE, backE, lentAt, fill, List.cons_append, List.nil_append, List.append_nil, List.replicate_succ, List.replicate_zero, List.getElem?_cons_zero, List.getElem?_cons_succ, List.set_cons_zero, List.set_cons_succ, List.map_cons, List.map_nil, List.length_cons, List.length_nil, List.length_map, List.length_replicate, List.all_nil, List.all_cons, Option.isSome, Option.bind_some, Option.map_some, Option.getD_some, Option.bind_none, Option.map_none, Nat.reduceAdd, Nat.zero_add, beq_self_eq_true, Bool.and_true, Bool.true_and, Bool.false_eq_true, reduceIte, reduceCtorEq, if_true, if_false, Bool.not_true, Bool.not_false, decide_true, decide_false, s_digest_in l (hb l h)], by simp -implicitDefEqProofs only [semDef_ap, sSeq_ap, sSet_ap, sRet_ap, sIf_ap, sExpr_ap, sNil_ap, sNever_ap, sAug_ap, sPar_ap, sAsgT_ap, sStore_ap, sAugStore_ap, sFor_ap, sForO_ap, sWhile_ap, turn_ap, gNm_ap, gsNil_ap, gsCons_ap, gTp_ap, eVar_ap, eMove_ap, eC_ap, eBin_ap, eUn_ap, tOf_ap, tvAnd_ap, tvOr_ap, tvNot_ap, eAnd_ap, eOr_ap, eNot_ap, eIf_ap, eChain_ap, aNil_ap, aCons_ap, aStar_ap, eTup_ap, eLst_ap, eCall_ap, eCallL_ap, lNil_ap, lSh_ap, lLe_ap, lstAt_ap, eOwn2_ap, eSl_ap, pNo_ap, pSome_ap, eLstRg1_ap, eTupRg1_ap, eApp_ap, eExtend_ap, iOf_ap, iEnum_ap, iZip2_ap, iRng1_ap, eLc_ap, keep_nil, keep_zero, opI, opIc, opB, opAdd, opLen, opNeg, opMax, opMin, opAbs, opInt, opIx, opIsNotN, opIsN, isNon, opTuple, opList, opRev, opSl, opSlL, isi_int, isi_boolint, isi_tuple, items?, opEq_int, opNe_int, setAll, forgetAll, wipeE, backE, lentAt, fill, List.cons_append, List.nil_append, List.append_nil, List.replicate_succ, List.replicate_zero, List.getElem?_cons_zero, List.getElem?_cons_succ, List.set_cons_zero, List.set_cons_succ, List.map_cons, List.map_nil, List.length_cons, List.length_nil, List.length_map, List.length_replicate, List.all_nil, List.all_cons, Option.isSome, Option.bind_some, Option.map_some, Option.getD_some, Option.bind_none, Option.map_none, Nat.reduceAdd, Nat.zero_add, beq_self_eq_true, Bool.and_true, Bool.true_and, Bool.false_eq_true, reduceIte, reduceCtorEq, if_true, if_false, Bool.not_true, Bool.not_false, decide_true, decide_false]⟩
  obtain ⟨z', e⟩ := s_layers_loop k (some (tT ls)) none [] (ls.map dig) 1000000 (by rw [List.length_map]; exact hl) hk (by simp; omega) (by omega)
  have em : (ls.map fun l => PV.int (dig l)) = (ls.map dig).map .int := by rw [List.map_map]; rfl
  have f1 : fits 1 = true := by decide
  simp only [List.nil_append, List.map_cons, List.map_nil] at e
  simp -implicitDefEqProofs only [m_digest_layers, b_digest_layers, semDef_ap, sSeq_ap, sSet_ap, sRet_ap, sIf_ap, sExpr_ap, sNil_ap, sNever_ap, sAug_ap, sPar_ap, sAsgT_ap, sStore_ap, sAugStore_ap, sFor_ap, sForO_ap, sWhile_ap, turn_ap, gNm_ap, gsNil_ap, gsCons_ap, gTp_ap, eVar_ap, eMove_ap, eC_ap, eBin_ap, eUn_ap, tOf_ap, tvAnd_ap, tvOr_ap, tvNot_ap, eAnd_ap, eOr_ap, eNot_ap, eIf_ap, eChain_ap, aNil_ap, aCons_ap, aStar_ap, eTup_ap, eLst_ap, eCall_ap, eCallL_ap, lNil_ap, lSh_ap, lLe_ap, lstAt_ap, eOwn2_ap, eSl_ap, pNo_ap, pSome_ap, eLstRg1_ap, eTupRg1_ap, eApp_ap, eExtend_ap, iOf_ap, iEnum_ap, iZip2_ap, iRng1_ap, eLc_ap, keep_nil, keep_zero, opI, opIc, opB, opAdd, opLen, opNeg, opMax, opMin, opAbs, opInt, opIx, opIsNotN, opIsN, isNon, opTuple, opList, opRev, opSl, opSlL, isi_int, isi_boolint, isi_tuple, items?, opEq_int, opNe_int, setAll, forgetAll, wipeE, backE, lentAt, fill, List.cons_append, List.nil_append, List.append_nil, List.replicate_succ, List.replicate_zero, List.getElem?_cons_zero, List.getElem?_cons_succ, List.set_cons_zero, List.set_cons_succ, List.map_cons, List.map_nil, List.length_cons, List.length_nil, List.length_map, List.length_replicate, List.all_nil, List.all_cons, Option.isSome, Option.bind_some, Option.map_some, Option.getD_some, Option.bind_none, Option.map_none, Nat.reduceAdd, Nat.zero_add, beq_self_eq_true, Bool.and_true, Bool.true_and, Bool.false_eq_true, reduceIte, reduceCtorEq, if_true, if_false, Bool.not_true, Bool.not_false, decide_true, decide_false, fits_of (show ls.length ≤ 16777216 by omega), lc, em, f1, e, Bool.true_eq_false, if_pos]
theorem lay_last : ∀ (k : Nat) (h : List Int), h.length = 2 ^ k → (lay k h).getLast? = some [topOf k h]
  | 0, h, hl => by
    match h, hl with
    | [a], _ => rfl
  | k + 1, h, hl => by
    rw [Nat.pow_succ] at hl
    have ih := lay_last k (up h) (by rw [up_length]; omega)
    show (h :: lay k (up h)).getLast? = some [topOf k (up h)]
    cases e : lay k (up h) with
    | nil => rw [e] at ih; cases ih
    | cons a r =>
      rw [e] at ih
      rw [List.getLast?_cons_cons]
      exact ih
theorem s_root_in (k : Nat) (ls : List (List Int)) (hk : k ≤ 3) (hl : ls.length = 2 ^ k) (hb : ∀ l ∈ ls, l.length ≤ 1000) : m_root_in [some (tT ls)] = some (.int (topOf k (ls.map dig)), [none]) := by
  have hi : L2.atI ((lay k (ls.map dig)).map lI) (-1) = some (lI [topOf k (ls.map dig)]) := atI_last (by rw [List.getLast?_map, lay_last k _ (by rw [List.length_map]; exact hl)]; rfl)
  have h0 : L2.atI ([topOf k (ls.map dig)].map PV.int) 0 = some (.int (topOf k (ls.map dig))) := ix0
  simp only [List.map_cons, List.map_nil] at h0
  simp -implicitDefEqProofs only [m_root_in, b_root_in, semDef_ap, sSeq_ap, sSet_ap, sRet_ap, sIf_ap, sExpr_ap, sNil_ap, sNever_ap, sAug_ap, sPar_ap, sAsgT_ap, sStore_ap, sAugStore_ap, sFor_ap, sForO_ap, sWhile_ap, turn_ap, gNm_ap, gsNil_ap, gsCons_ap, gTp_ap, eVar_ap, eMove_ap, eC_ap, eBin_ap, eUn_ap, tOf_ap, tvAnd_ap, tvOr_ap, tvNot_ap, eAnd_ap, eOr_ap, eNot_ap, eIf_ap, eChain_ap, aNil_ap, aCons_ap, aStar_ap, eTup_ap, eLst_ap, eCall_ap, eCallL_ap, lNil_ap, lSh_ap, lLe_ap, lstAt_ap, eOwn2_ap, eSl_ap, pNo_ap, pSome_ap, eLstRg1_ap, eTupRg1_ap, eApp_ap, eExtend_ap, iOf_ap, iEnum_ap, iZip2_ap, iRng1_ap, eLc_ap, keep_nil, keep_zero, opI, opIc, opB, opAdd, opLen, opNeg, opMax, opMin, opAbs, opInt, opIx, opIsNotN, opIsN, isNon, opTuple, opList, opRev, opSl, opSlL, isi_int, isi_boolint, isi_tuple, items?, opEq_int, opNe_int, setAll, forgetAll, wipeE, backE, lentAt, fill, List.cons_append, List.nil_append, List.append_nil, List.replicate_succ, List.replicate_zero, List.getElem?_cons_zero, List.getElem?_cons_succ, List.set_cons_zero, List.set_cons_succ, List.map_cons, List.map_nil, List.length_cons, List.length_nil, List.length_map, List.length_replicate, List.all_nil, List.all_cons, Option.isSome, Option.bind_some, Option.map_some, Option.getD_some, Option.bind_none, Option.map_none, Nat.reduceAdd, Nat.zero_add, beq_self_eq_true, Bool.and_true, Bool.true_and, Bool.false_eq_true, reduceIte, reduceCtorEq, if_true, if_false, Bool.not_true, Bool.not_false, decide_true, decide_false, s_layers k ls hk hl hb, hi, h0]
theorem cut_init {xs : List PV} : cutP xs none (some (-1)) = xs.dropLast := by
  unfold cutP
  rw [HT.sIx_none, List.drop_zero, Nat.sub_zero, List.dropLast_eq_take]
  congr 1
  show (if (-1 : Int) < 0 then ((-1 : Int) + (xs.length : Int)).toNat else min (-1 : Int).toNat xs.length) = _
  rw [if_pos (by decide)]
  omega
theorem lay_init : ∀ (k : Nat) (h : List Int), (lay (k + 1) h).dropLast = h :: (lay k (up h)).dropLast
  | 0, h => rfl
  | k + 1, h => rfl
theorem xor1 : ∀ a : Nat, a < 8 → PySem.Builtin.bitXor (a : Int) 1 = ((sib a : Nat) : Int) := by decide
theorem s_path_loop : ∀ (k : Nat) (L : Option PV) (h : List Int) (a : Nat) (found : List Int), h.length = 2 ^ k → a < 2 ^ k → k ≤ 3 → found.length + k ≤ 100 → ∃ a', forL (turn (gNm 3) (sSeq (sExpr (eApp 2 (eBin opIx (eVar 3) (eBin opXor (eVar 1) (eC (.int 1))))))
    (sAug 1 opDiv (eC k_TWO))) [3]) ((lay k h).dropLast.map lI) [L, some (.int a), some (lI found), none] = some (.nx, [L, a', some (lI (found ++ pathL k h a)), none])
  | 0, L, h, a, found, _, _, _, _ => ⟨_, by
    show some _ = some _
    rw [show found ++ pathL 0 h a = found from by simp [pathL]]⟩
  | k + 1, L, h, a, found, hl, ha, hk, hf => by
    have h8 : 2 ^ (k + 1) ≤ 8 := Nat.pow_le_pow_right (n := 2) (by decide) hk
    rw [Nat.pow_succ] at hl ha h8
    obtain ⟨a', e⟩ := s_path_loop k L (up h) (a / 2) (found ++ [(h[sib a]?).getD 0]) (by rw [up_length]; omega) (by omega) (by omega) (by simp; omega)
    refine ⟨a', ?_⟩
    rw [lay_init, List.map_cons]
    unfold forL
    have hs : sib a < h.length := by unfold sib; split <;> omega
    have hx : PySem.Builtin.bitXor (a : Int) 1 = ((sib a : Nat) : Int) := xor1 a (by omega)
    have hi : L2.atI (h.map PV.int) ((sib a : Nat) : Int) = some (.int ((h[sib a]?).getD 0)) := atI_nat (by rw [List.getElem?_map, List.getElem?_eq_getElem hs]; rfl)
    have dv : divOk 2 = true := by decide
    have hd : (a : Int) / 2 = ((a / 2 : Nat) : Int) := by omega
    have ap : found.map PV.int ++ [PV.int ((h[sib a]?).getD 0)] = (found ++ [(h[sib a]?).getD 0]).map .int := by simp
    have e1 : turn (gNm 3) (sSeq (sExpr (eApp 2 (eBin opIx (eVar 3) (eBin opXor (eVar 1) (eC (.int 1))))))
        (sAug 1 opDiv (eC k_TWO))) [3] (lI h) [L, some (.int a), some (lI found), none] = some (.nx, [L, some (.int (a / 2 : Nat)), some (lI (found ++ [(h[sib a]?).getD 0])), none]) := by
      simp -implicitDefEqProofs only [semDef_ap, sSeq_ap, sSet_ap, sRet_ap, sIf_ap, sExpr_ap, sNil_ap, sNever_ap, sAug_ap, sPar_ap, sAsgT_ap, sStore_ap, sAugStore_ap, sFor_ap, sForO_ap, sWhile_ap, turn_ap, gNm_ap, gsNil_ap, gsCons_ap, gTp_ap, eVar_ap, eMove_ap, eC_ap, eBin_ap, eUn_ap, tOf_ap, tvAnd_ap, tvOr_ap, tvNot_ap, eAnd_ap, eOr_ap, eNot_ap, eIf_ap, eChain_ap, aNil_ap, aCons_ap, aStar_ap, eTup_ap, eLst_ap, eCall_ap, eCallL_ap, lNil_ap, lSh_ap, lLe_ap, lstAt_ap, eOwn2_ap, eSl_ap, pNo_ap, pSome_ap, eLstRg1_ap, eTupRg1_ap, eApp_ap, eExtend_ap, iOf_ap, iEnum_ap, iZip2_ap, iRng1_ap, eLc_ap, keep_nil, keep_zero, opI, opIc, opB, opAdd, opLen, opNeg, opMax, opMin, opAbs, opInt, opIx, opIsNotN, opIsN, isNon, opTuple, opList, opRev, opSl, opSlL, isi_int, isi_boolint, isi_tuple, items?, opEq_int, opNe_int, setAll, forgetAll, wipeE, backE, lentAt, fill, List.cons_append, List.nil_append, List.append_nil, List.replicate_succ, List.replicate_zero, List.getElem?_cons_zero, List.getElem?_cons_succ, List.set_cons_zero, List.set_cons_succ, List.map_cons, List.map_nil, List.length_cons, List.length_nil, List.length_map, List.length_replicate, List.all_nil, List.all_cons, Option.isSome, Option.bind_some, Option.map_some, Option.getD_some, Option.bind_none, Option.map_none, Nat.reduceAdd, Nat.zero_add, beq_self_eq_true, Bool.and_true, Bool.true_and, Bool.false_eq_true, reduceIte, reduceCtorEq, if_true, if_false, Bool.not_true, Bool.not_false, decide_true, decide_false, hx, hi, fits_of (show found.length + 1 ≤ 16777216 by omega), dv, hd, ap]
    rw [e1]
    show forL _ _ _ = _
    rw [e, List.append_assoc]
    rfl
theorem s_path_in (k : Nat) (ls : List (List Int)) (a : Nat) (hk : k ≤ 3) (hl : ls.length = 2 ^ k) (hb : ∀ l ∈ ls, l.length ≤ 1000) (ha : a < 2 ^ k) : m_path_in [some (tT ls), some (.int a)] = some (tI (pathL k (ls.map dig) a), [none, none]) := by
  obtain ⟨a', e⟩ := s_path_loop k (some (tT ls)) (ls.map dig) a [] (by rw [List.length_map]; exact hl) ha hk (by simp; omega)
  have f0 : fits 0 = true := by decide
  rw [List.map_dropLast] at e
  rw [List.nil_append] at e
  have e : forL (turn (gNm 3) (sSeq (sExpr (eApp 2 (eBin opIx (eVar 3) (eBin opXor (eVar 1) (eC (.int 1))))))
    (sAug 1 opDiv (eC k_TWO))) [3]) ((lay k (ls.map dig)).map lI).dropLast [some (tT ls), some (.int a), some (.lst []), none] = some (.nx, [some (tT ls), a', some (lI (pathL k (ls.map dig) a)), none]) := e
  simp -implicitDefEqProofs only [m_path_in, b_path_in, semDef_ap, sSeq_ap, sSet_ap, sRet_ap, sIf_ap, sExpr_ap, sNil_ap, sNever_ap, sAug_ap, sPar_ap, sAsgT_ap, sStore_ap, sAugStore_ap, sFor_ap, sForO_ap, sWhile_ap, turn_ap, gNm_ap, gsNil_ap, gsCons_ap, gTp_ap, eVar_ap, eMove_ap, eC_ap, eBin_ap, eUn_ap, tOf_ap, tvAnd_ap, tvOr_ap, tvNot_ap, eAnd_ap, eOr_ap, eNot_ap, eIf_ap, eChain_ap, aNil_ap, aCons_ap, aStar_ap, eTup_ap, eLst_ap, eCall_ap, eCallL_ap, lNil_ap, lSh_ap, lLe_ap, lstAt_ap, eOwn2_ap, eSl_ap, pNo_ap, pSome_ap, eLstRg1_ap, eTupRg1_ap, eApp_ap, eExtend_ap, iOf_ap, iEnum_ap, iZip2_ap, iRng1_ap, eLc_ap, keep_nil, keep_zero, opI, opIc, opB, opAdd, opLen, opNeg, opMax, opMin, opAbs, opInt, opIx, opIsNotN, opIsN, isNon, opTuple, opList, opRev, opSl, opSlL, isi_int, isi_boolint, isi_tuple, items?, opEq_int, opNe_int, setAll, forgetAll, wipeE, backE, lentAt, fill, List.cons_append, List.nil_append, List.append_nil, List.replicate_succ, List.replicate_zero, List.getElem?_cons_zero, List.getElem?_cons_succ, List.set_cons_zero, List.set_cons_succ, List.map_cons, List.map_nil, List.length_cons, List.length_nil, List.length_map, List.length_replicate, List.all_nil, List.all_cons, Option.isSome, Option.bind_some, Option.map_some, Option.getD_some, Option.bind_none, Option.map_none, Nat.reduceAdd, Nat.zero_add, beq_self_eq_true, Bool.and_true, Bool.true_and, Bool.false_eq_true, reduceIte, reduceCtorEq, if_true, if_false, Bool.not_true, Bool.not_false, decide_true, decide_false, f0, s_layers k ls hk hl hb, cut_init, e]
theorem s_climb (leaf path : List Int) (a : Nat) (hl : leaf.length ≤ 1000) : m_root_by_path_in [some (tI leaf), some (.int a), some (tI path)] = some (.int (climb path (dig leaf) a), [none, none, none]) := by
  have f2 : fits 2 = true := by decide
  have dv : divOk 2 = true := by decide
  have md : decide ((0 : Int) < 2) = true := rfl
  have loop : ∀ (A B : Option PV) (path : List Int) (here : Int) (a : Nat), ∃ a', forL (turn (gNm 4) (sSeq (sSet 3 (eIf (tOf (eBin opEq (eBin opMod (eVar 1) (eC k_TWO)) (eC (.int 0)))) (eCall 1 m_digest_in (aCons (eTup (aCons (eVar 3) (aCons (eVar 4) aNil))) aNil)) (eCall 1 m_digest_in (aCons (eTup (aCons (eVar 4) (aCons (eVar 3) aNil))) aNil))))
    (sAug 1 opDiv (eC k_TWO))) [4]) (path.map .int) [A, some (.int a), B, some (.int here), none] = some (.nx, [A, a', B, some (.int (climb path here a)), none]) := by
    intro A B path
    induction path with
    | nil => intro here a; exact ⟨_, rfl⟩
    | cons b r ih =>
      intro here a
      obtain ⟨a', e⟩ := ih (if a % 2 = 0 then dg here b else dg b here) (a / 2)
      refine ⟨a', ?_⟩
      rw [List.map_cons]
      unfold forL
      have hd : (a : Int) / 2 = ((a / 2 : Nat) : Int) := by omega
      have p1 := s_digest_in [here, b] (by simp)
      have p2 := s_digest_in [b, here] (by simp)
      rw [dig_pair] at p1 p2
      have p1 : m_digest_in [some (.tup [.int here, .int b])] = some (.int (dg here b), [none]) := p1
      have p2 : m_digest_in [some (.tup [.int b, .int here])] = some (.int (dg b here), [none]) := p2
      have e1 : turn (gNm 4) (sSeq (sSet 3 (eIf (tOf (eBin opEq (eBin opMod (eVar 1) (eC k_TWO)) (eC (.int 0)))) (eCall 1 m_digest_in (aCons (eTup (aCons (eVar 3) (aCons (eVar 4) aNil))) aNil)) (eCall 1 m_digest_in (aCons (eTup (aCons (eVar 4) (aCons (eVar 3) aNil))) aNil))))
        (sAug 1 opDiv (eC k_TWO))) [4] (.int b) [A, some (.int a), B, some (.int here), none] = some (.nx, [A, some (.int (a / 2 : Nat)), B, some (.int (if a % 2 = 0 then dg here b else dg b here)), none]) := by
        by_cases q : a % 2 = 0
        · have hq : decide ((a : Int) % 2 = 0) = true := decide_eq_true (by omega)
          simp -implicitDefEqProofs only [semDef_ap, sSeq_ap, sSet_ap, sRet_ap, sIf_ap, sExpr_ap, sNil_ap, sNever_ap, sAug_ap, sPar_ap, sAsgT_ap, sStore_ap, sAugStore_ap, sFor_ap, sForO_ap, sWhile_ap, turn_ap, gNm_ap, gsNil_ap, gsCons_ap, gTp_ap, eVar_ap, eMove_ap, eC_ap, eBin_ap, eUn_ap, tOf_ap, tvAnd_ap, tvOr_ap, tvNot_ap, eAnd_ap, eOr_ap, eNot_ap, eIf_ap, eChain_ap, aNil_ap, aCons_ap, aStar_ap, eTup_ap, eLst_ap, eCall_ap, eCallL_ap, lNil_ap, lSh_ap, lLe_ap, lstAt_ap, eOwn2_ap, eSl_ap, pNo_ap, pSome_ap, eLstRg1_ap, eTupRg1_ap, eApp_ap, eExtend_ap, iOf_ap, iEnum_ap, iZip2_ap, iRng1_ap, eLc_ap, keep_nil, keep_zero, opI, opIc, opB, opAdd, opLen, opNeg, opMax, opMin, opAbs, opInt, opIx, opIsNotN, opIsN, isNon, opTuple, opList, opRev, opSl, opSlL, isi_int, isi_boolint, isi_tuple, items?, opEq_int, opNe_int, setAll, forgetAll, wipeE, backE, lentAt, fill, List.cons_append, List.nil_append, List.append_nil, List.replicate_succ, List.replicate_zero, List.getElem?_cons_zero, List.getElem?_cons_succ, List.set_cons_zero, List.set_cons_succ, List.map_cons, List.map_nil, List.length_cons, List.length_nil, List.length_map, List.length_replicate, List.all_nil, List.all_cons, Option.isSome, Option.bind_some, Option.map_some, Option.getD_some, Option.bind_none, Option.map_none, Nat.reduceAdd, Nat.zero_add, beq_self_eq_true, Bool.and_true, Bool.true_and, Bool.false_eq_true, reduceIte, reduceCtorEq, if_true, if_false, Bool.not_true, Bool.not_false, decide_true, decide_false, md, hq, f2, p1, dv, hd, if_pos q]
        · have hq : decide ((a : Int) % 2 = 0) = false := decide_eq_false (by omega)
          simp -implicitDefEqProofs only [semDef_ap, sSeq_ap, sSet_ap, sRet_ap, sIf_ap, sExpr_ap, sNil_ap, sNever_ap, sAug_ap, sPar_ap, sAsgT_ap, sStore_ap, sAugStore_ap, sFor_ap, sForO_ap, sWhile_ap, turn_ap, gNm_ap, gsNil_ap, gsCons_ap, gTp_ap, eVar_ap, eMove_ap, eC_ap, eBin_ap, eUn_ap, tOf_ap, tvAnd_ap, tvOr_ap, tvNot_ap, eAnd_ap, eOr_ap, eNot_ap, eIf_ap, eChain_ap, aNil_ap, aCons_ap, aStar_ap, eTup_ap, eLst_ap, eCall_ap, eCallL_ap, lNil_ap, lSh_ap, lLe_ap, lstAt_ap, eOwn2_ap, eSl_ap, pNo_ap, pSome_ap, eLstRg1_ap, eTupRg1_ap, eApp_ap, eExtend_ap, iOf_ap, iEnum_ap, iZip2_ap, iRng1_ap, eLc_ap, keep_nil, keep_zero, opI, opIc, opB, opAdd, opLen, opNeg, opMax, opMin, opAbs, opInt, opIx, opIsNotN, opIsN, isNon, opTuple, opList, opRev, opSl, opSlL, isi_int, isi_boolint, isi_tuple, items?, opEq_int, opNe_int, setAll, forgetAll, wipeE, backE, lentAt, fill, List.cons_append, List.nil_append, List.append_nil, List.replicate_succ, List.replicate_zero, List.getElem?_cons_zero, List.getElem?_cons_succ, List.set_cons_zero, List.set_cons_succ, List.map_cons, List.map_nil, List.length_cons, List.length_nil, List.length_map, List.length_replicate, List.all_nil, List.all_cons, Option.isSome, Option.bind_some, Option.map_some, Option.getD_some, Option.bind_none, Option.map_none, Nat.reduceAdd, Nat.zero_add, beq_self_eq_true, Bool.and_true, Bool.true_and, Bool.false_eq_true, reduceIte, reduceCtorEq, if_true, if_false, Bool.not_true, Bool.not_false, decide_true, decide_false, md, hq, f2, p2, dv, hd, if_neg q]
      rw [e1]
      exact e
  obtain ⟨a', e⟩ := loop (some (tI leaf)) (some (tI path)) path (dig leaf) a
  simp -implicitDefEqProofs only [m_root_by_path_in, b_root_by_path_in, semDef_ap, sSeq_ap, sSet_ap, sRet_ap, sIf_ap, sExpr_ap, sNil_ap, sNever_ap, sAug_ap, sPar_ap, sAsgT_ap, sStore_ap, sAugStore_ap, sFor_ap, sForO_ap, sWhile_ap, turn_ap, gNm_ap, gsNil_ap, gsCons_ap, gTp_ap, eVar_ap, eMove_ap, eC_ap, eBin_ap, eUn_ap, tOf_ap, tvAnd_ap, tvOr_ap, tvNot_ap, eAnd_ap, eOr_ap, eNot_ap, eIf_ap, eChain_ap, aNil_ap, aCons_ap, aStar_ap, eTup_ap, eLst_ap, eCall_ap, eCallL_ap, lNil_ap, lSh_ap, lLe_ap, lstAt_ap, eOwn2_ap, eSl_ap, pNo_ap, pSome_ap, eLstRg1_ap, eTupRg1_ap, eApp_ap, eExtend_ap, iOf_ap, iEnum_ap, iZip2_ap, iRng1_ap, eLc_ap, keep_nil, keep_zero, opI, opIc, opB, opAdd, opLen, opNeg, opMax, opMin, opAbs, opInt, opIx, opIsNotN, opIsN, isNon, opTuple, opList, opRev, opSl, opSlL, isi_int, isi_boolint, isi_tuple, items?, opEq_int, opNe_int, setAll, forgetAll, wipeE, backE, lentAt, fill, List.cons_append, List.nil_append, List.append_nil, List.replicate_succ, List.replicate_zero, List.getElem?_cons_zero, List.getElem?_cons_succ, List.set_cons_zero, List.set_cons_succ, List.map_cons, List.map_nil, List.length_cons, List.length_nil, List.length_map, List.length_replicate, List.all_nil, List.all_cons, Option.isSome, Option.bind_some, Option.map_some, Option.getD_some, Option.bind_none, Option.map_none, Nat.reduceAdd, Nat.zero_add, beq_self_eq_true, Bool.and_true, Bool.true_and, Bool.false_eq_true, reduceIte, reduceCtorEq, if_true, if_false, Bool.not_true, Bool.not_false, decide_true, decide_false, s_digest_in leaf hl, e]
/-! ### what is required -/
theorem s_are_members (l : List Int) (hl : l.length ≤ 64) (hb : ∀ x ∈ l, 0 ≤ x ∧ x < BI) : m_are_members [some (tI l)] = some (.bl true, [none]) := by
  have c1 : decide ((64 : Int) < (l.length : Int)) = false := decide_eq_false (by omega)
  have lc : lcL (gNm 1) tYes' (eCall 3 m_is_within (aCons (eVar 1) (aCons (eC (.int 0)) (aCons (eBin opSub (eC k_GREAT_PRIME) (eC (.int 1))) aNil)))) [1] (l.map .int) [some (tI l), none] = some (l.map fun _ => .bl true, [some (tI l), none]) :=
    lcL_map fun x hx => ⟨[some (tI l), some (.int x)], [some (tI l), some (.int x)], by simp -implicitDefEqProofs only [semDef_ap, sSeq_ap, sSet_ap, sRet_ap, sIf_ap, sExpr_ap, sNil_ap, sNever_ap, sAug_ap, sPar_ap, sAsgT_ap, sStore_ap, sAugStore_ap, sFor_ap, sForO_ap, sWhile_ap, turn_ap, gNm_ap, gsNil_ap, gsCons_ap, gTp_ap, eVar_ap, eMove_ap, eC_ap, eBin_ap, eUn_ap, tOf_ap, tvAnd_ap, tvOr_ap, tvNot_ap, eAnd_ap, eOr_ap, eNot_ap, eIf_ap, eChain_ap, aNil_ap, aCons_ap, aStar_ap, eTup_ap, eLst_ap, eCall_ap, eCallL_ap, lNil_ap, lSh_ap, lLe_ap, lstAt_ap, eOwn2_ap, eSl_ap, pNo_ap, pSome_ap, eLstRg1_ap, eTupRg1_ap, eApp_ap, eExtend_ap, iOf_ap, iEnum_ap, iZip2_ap, iRng1_ap, eLc_ap, keep_nil, keep_zero, opI, opIc, opB, opAdd, opLen, opNeg, opMax, opMin, opAbs, opInt, opIx, opIsNotN, opIsN, isNon, opTuple, opList, opRev, opSl, opSlL, isi_int, isi_boolint, isi_tuple, items?, opEq_int, opNe_int, setAll, forgetAll, wipeE, backE, lentAt, fill, List.cons_append, List.nil_append, List.append_nil, List.replicate_succ, List.replicate_zero, List.getElem?_cons_zero, List.getElem?_cons_succ, List.set_cons_zero, List.set_cons_succ, List.map_cons, List.map_nil, List.length_cons, List.length_nil, List.length_map, List.length_replicate, List.all_nil, List.all_cons, Option.isSome, Option.bind_some, Option.map_some, Option.getD_some, Option.bind_none, Option.map_none, Nat.reduceAdd, Nat.zero_add, beq_self_eq_true, Bool.and_true, Bool.true_and, Bool.false_eq_true, reduceIte, reduceCtorEq, if_true, if_false, Bool.not_true, Bool.not_false, decide_true, decide_false], by
      have hx := hb x hx
      have hx2 : x < 2305843009213693951 := hx.2
      have c : decide (0 ≤ x ∧ x ≤ 2305843009213693951 - 1) = true := decide_eq_true ⟨hx.1, by omega⟩
      have e := s_is_within x 0 (2305843009213693951 - 1)
      rw [c] at e
      simp -implicitDefEqProofs only [semDef_ap, sSeq_ap, sSet_ap, sRet_ap, sIf_ap, sExpr_ap, sNil_ap, sNever_ap, sAug_ap, sPar_ap, sAsgT_ap, sStore_ap, sAugStore_ap, sFor_ap, sForO_ap, sWhile_ap, turn_ap, gNm_ap, gsNil_ap, gsCons_ap, gTp_ap, eVar_ap, eMove_ap, eC_ap, eBin_ap, eUn_ap, tOf_ap, tvAnd_ap, tvOr_ap, tvNot_ap, eAnd_ap, eOr_ap, eNot_ap, eIf_ap, eChain_ap, aNil_ap, aCons_ap, aStar_ap, eTup_ap, eLst_ap, eCall_ap, eCallL_ap, lNil_ap, lSh_ap, lLe_ap, lstAt_ap, eOwn2_ap, eSl_ap, pNo_ap, pSome_ap, eLstRg1_ap, eTupRg1_ap, eApp_ap, eExtend_ap, iOf_ap, iEnum_ap, iZip2_ap, iRng1_ap, eLc_ap, keep_nil, keep_zero, opI, opIc, opB, opAdd, opLen, opNeg, opMax, opMin, opAbs, opInt, opIx, opIsNotN, opIsN, isNon, opTuple, opList, opRev, opSl, opSlL, isi_int, isi_boolint, isi_tuple, items?, opEq_int, opNe_int, setAll, forgetAll, wipeE, backE, lentAt, fill, List.cons_append, List.nil_append, List.append_nil, List.replicate_succ, List.replicate_zero, List.getElem?_cons_zero, List.getElem?_cons_succ, List.set_cons_zero, List.set_cons_succ, List.map_cons, List.map_nil, List.length_cons, List.length_nil, List.length_map, List.length_replicate, List.all_nil, List.all_cons, Option.isSome, Option.bind_some, Option.map_some, Option.getD_some, Option.bind_none, Option.map_none, Nat.reduceAdd, Nat.zero_add, beq_self_eq_true, Bool.and_true, Bool.true_and, Bool.false_eq_true, reduceIte, reduceCtorEq, if_true, if_false, Bool.not_true, Bool.not_false, decide_true, decide_false, e], by simp -implicitDefEqProofs only [semDef_ap, sSeq_ap, sSet_ap, sRet_ap, sIf_ap, sExpr_ap, sNil_ap, sNever_ap, sAug_ap, sPar_ap, sAsgT_ap, sStore_ap, sAugStore_ap, sFor_ap, sForO_ap, sWhile_ap, turn_ap, gNm_ap, gsNil_ap, gsCons_ap, gTp_ap, eVar_ap, eMove_ap, eC_ap, eBin_ap, eUn_ap, tOf_ap, tvAnd_ap, tvOr_ap, tvNot_ap, eAnd_ap, eOr_ap, eNot_ap, eIf_ap, eChain_ap, aNil_ap, aCons_ap, aStar_ap, eTup_ap, eLst_ap, eCall_ap, eCallL_ap, lNil_ap, lSh_ap, lLe_ap, lstAt_ap, eOwn2_ap, eSl_ap, pNo_ap, pSome_ap, eLstRg1_ap, eTupRg1_ap, eApp_ap, eExtend_ap, iOf_ap, iEnum_ap, iZip2_ap, iRng1_ap, eLc_ap, keep_nil, keep_zero, opI, opIc, opB, opAdd, opLen, opNeg, opMax, opMin, opAbs, opInt, opIx, opIsNotN, opIsN, isNon, opTuple, opList, opRev, opSl, opSlL, isi_int, isi_boolint, isi_tuple, items?, opEq_int, opNe_int, setAll, forgetAll, wipeE, backE, lentAt, fill, List.cons_append, List.nil_append, List.append_nil, List.replicate_succ, List.replicate_zero, List.getElem?_cons_zero, List.getElem?_cons_succ, List.set_cons_zero, List.set_cons_succ, List.map_cons, List.map_nil, List.length_cons, List.length_nil, List.length_map, List.length_replicate, List.all_nil, List.all_cons, Option.isSome, Option.bind_some, Option.map_some, Option.getD_some, Option.bind_none, Option.map_none, Nat.reduceAdd, Nat.zero_add, beq_self_eq_true, Bool.and_true, Bool.true_and, Bool.false_eq_true, reduceIte, reduceCtorEq, if_true, if_false, Bool.not_true, Bool.not_false, decide_true, decide_false]⟩
  simp -implicitDefEqProofs only [m_are_members, b_are_members, semDef_ap, sSeq_ap, sSet_ap, sRet_ap, sIf_ap, sExpr_ap, sNil_ap, sNever_ap, sAug_ap, sPar_ap, sAsgT_ap, sStore_ap, sAugStore_ap, sFor_ap, sForO_ap, sWhile_ap, turn_ap, gNm_ap, gsNil_ap, gsCons_ap, gTp_ap, eVar_ap, eMove_ap, eC_ap, eBin_ap, eUn_ap, tOf_ap, tvAnd_ap, tvOr_ap, tvNot_ap, eAnd_ap, eOr_ap, eNot_ap, eIf_ap, eChain_ap, aNil_ap, aCons_ap, aStar_ap, eTup_ap, eLst_ap, eCall_ap, eCallL_ap, lNil_ap, lSh_ap, lLe_ap, lstAt_ap, eOwn2_ap, eSl_ap, pNo_ap, pSome_ap, eLstRg1_ap, eTupRg1_ap, eApp_ap, eExtend_ap, iOf_ap, iEnum_ap, iZip2_ap, iRng1_ap, eLc_ap, keep_nil, keep_zero, opI, opIc, opB, opAdd, opLen, opNeg, opMax, opMin, opAbs, opInt, opIx, opIsNotN, opIsN, isNon, opTuple, opList, opRev, opSl, opSlL, isi_int, isi_boolint, isi_tuple, items?, opEq_int, opNe_int, setAll, forgetAll, wipeE, backE, lentAt, fill, List.cons_append, List.nil_append, List.append_nil, List.replicate_succ, List.replicate_zero, List.getElem?_cons_zero, List.getElem?_cons_succ, List.set_cons_zero, List.set_cons_succ, List.map_cons, List.map_nil, List.length_cons, List.length_nil, List.length_map, List.length_replicate, List.all_nil, List.all_cons, Option.isSome, Option.bind_some, Option.map_some, Option.getD_some, Option.bind_none, Option.map_none, Nat.reduceAdd, Nat.zero_add, beq_self_eq_true, Bool.and_true, Bool.true_and, Bool.false_eq_true, reduceIte, reduceCtorEq, if_true, if_false, Bool.not_true, Bool.not_false, decide_true, decide_false, c1, fits_of (show l.length ≤ 16777216 by omega), lc, opAll_map, all_true]
theorem s_require_members (l : List Int) (hl : l.length ≤ 64) (hb : ∀ x ∈ l, 0 ≤ x ∧ x < BI) : m_require_members [some (tI l)] = some (.non, [none]) := by
  simp -implicitDefEqProofs only [m_require_members, b_require_members, semDef_ap, sSeq_ap, sSet_ap, sRet_ap, sIf_ap, sExpr_ap, sNil_ap, sNever_ap, sAug_ap, sPar_ap, sAsgT_ap, sStore_ap, sAugStore_ap, sFor_ap, sForO_ap, sWhile_ap, turn_ap, gNm_ap, gsNil_ap, gsCons_ap, gTp_ap, eVar_ap, eMove_ap, eC_ap, eBin_ap, eUn_ap, tOf_ap, tvAnd_ap, tvOr_ap, tvNot_ap, eAnd_ap, eOr_ap, eNot_ap, eIf_ap, eChain_ap, aNil_ap, aCons_ap, aStar_ap, eTup_ap, eLst_ap, eCall_ap, eCallL_ap, lNil_ap, lSh_ap, lLe_ap, lstAt_ap, eOwn2_ap, eSl_ap, pNo_ap, pSome_ap, eLstRg1_ap, eTupRg1_ap, eApp_ap, eExtend_ap, iOf_ap, iEnum_ap, iZip2_ap, iRng1_ap, eLc_ap, keep_nil, keep_zero, opI, opIc, opB, opAdd, opLen, opNeg, opMax, opMin, opAbs, opInt, opIx, opIsNotN, opIsN, isNon, opTuple, opList, opRev, opSl, opSlL, isi_int, isi_boolint, isi_tuple, items?, opEq_int, opNe_int, setAll, forgetAll, wipeE, backE, lentAt, fill, List.cons_append, List.nil_append, List.append_nil, List.replicate_succ, List.replicate_zero, List.getElem?_cons_zero, List.getElem?_cons_succ, List.set_cons_zero, List.set_cons_succ, List.map_cons, List.map_nil, List.length_cons, List.length_nil, List.length_map, List.length_replicate, List.all_nil, List.all_cons, Option.isSome, Option.bind_some, Option.map_some, Option.getD_some, Option.bind_none, Option.map_none, Nat.reduceAdd, Nat.zero_add, beq_self_eq_true, Bool.and_true, Bool.true_and, Bool.false_eq_true, reduceIte, reduceCtorEq, if_true, if_false, Bool.not_true, Bool.not_false, decide_true, decide_false, s_are_members l hl hb]
theorem leaf_counts (n : Nat) (h : n = 1 ∨ n = 2 ∨ n = 4 ∨ n = 8) : opNotIn (.int (n : Int)) k_LEAF_COUNTS = some (.bl false) := by
  rcases h with rfl | rfl | rfl | rfl <;> rfl
theorem s_require_leaves (ls : List (List Int)) (h : ls.length = 1 ∨ ls.length = 2 ∨ ls.length = 4 ∨ ls.length = 8) (hl : ∀ l ∈ ls, l.length ≤ 64 ∧ ∀ x ∈ l, 0 ≤ x ∧ x < BI) : m_require_digest_leaves [some (tT ls)] = some (.non, [none]) := by
  have lc : lcL (gNm 1) tYes' (eCall 1 m_are_members (aCons (eVar 1) aNil)) [1] (ls.map tI) [some (tT ls), none] = some (ls.map fun _ => .bl true, [some (tT ls), none]) :=
    lcL_map fun l hx => ⟨[some (tT ls), some (tI l)], [some (tT ls), some (tI l)], by simp -implicitDefEqProofs only [semDef_ap, sSeq_ap, sSet_ap, sRet_ap, sIf_ap, sExpr_ap, sNil_ap, sNever_ap, sAug_ap, sPar_ap, sAsgT_ap, sStore_ap, sAugStore_ap, sFor_ap, sForO_ap, sWhile_ap, turn_ap, gNm_ap, gsNil_ap, gsCons_ap, gTp_ap, eVar_ap, eMove_ap, eC_ap, eBin_ap, eUn_ap, tOf_ap, tvAnd_ap, tvOr_ap, tvNot_ap, eAnd_ap, eOr_ap, eNot_ap, eIf_ap, eChain_ap, aNil_ap, aCons_ap, aStar_ap, eTup_ap, eLst_ap, eCall_ap, eCallL_ap, lNil_ap, lSh_ap, lLe_ap, lstAt_ap, eOwn2_ap, eSl_ap, pNo_ap, pSome_ap, eLstRg1_ap, eTupRg1_ap, eApp_ap, eExtend_ap, iOf_ap, iEnum_ap, iZip2_ap, iRng1_ap, eLc_ap, keep_nil, keep_zero, opI, opIc, opB, opAdd, opLen, opNeg, opMax, opMin, opAbs, opInt, opIx, opIsNotN, opIsN, isNon, opTuple, opList, opRev, opSl, opSlL, isi_int, isi_boolint, isi_tuple, items?, opEq_int, opNe_int, setAll, forgetAll, wipeE, backE, lentAt, fill, List.cons_append, List.nil_append, List.append_nil, List.replicate_succ, List.replicate_zero, List.getElem?_cons_zero, List.getElem?_cons_succ, List.set_cons_zero, List.set_cons_succ, List.map_cons, List.map_nil, List.length_cons, List.length_nil, List.length_map, List.length_replicate, List.all_nil, List.all_cons, Option.isSome, Option.bind_some, Option.map_some, Option.getD_some, Option.bind_none, Option.map_none, Nat.reduceAdd, Nat.zero_add, beq_self_eq_true, Bool.and_true, Bool.true_and, Bool.false_eq_true, reduceIte, reduceCtorEq, if_true, if_false, Bool.not_true, Bool.not_false, decide_true, decide_false], by simp -implicitDefEqProofs only [semDef_ap, sSeq_ap, sSet_ap, sRet_ap, sIf_ap, sExpr_ap, sNil_ap, sNever_ap, sAug_ap, sPar_ap, sAsgT_ap, sStore_ap, sAugStore_ap, sFor_ap, sForO_ap, sWhile_ap, turn_ap, gNm_ap, gsNil_ap, gsCons_ap, gTp_ap, eVar_ap, eMove_ap, eC_ap, eBin_ap, eUn_ap, tOf_ap, tvAnd_ap, tvOr_ap, tvNot_ap, eAnd_ap, eOr_ap, eNot_ap, eIf_ap, eChain_ap, aNil_ap, aCons_ap, aStar_ap, eTup_ap, eLst_ap, eCall_ap, eCallL_ap, lNil_ap, lSh_ap, lLe_ap, lstAt_ap, eOwn2_ap, eSl_ap, pNo_ap, pSome_ap, eLstRg1_ap, eTupRg1_ap, eApp_ap, eExtend_ap, iOf_ap, iEnum_ap, iZip2_ap, iRng1_ap, eLc_ap, keep_nil, keep_zero, opI, opIc, opB, opAdd, opLen, opNeg, opMax, opMin, opAbs, opInt, opIx, opIsNotN, opIsN, isNon, opTuple, opList, opRev, opSl, opSlL, isi_int, isi_boolint, isi_tuple, items?, opEq_int, opNe_int, setAll, forgetAll, wipeE, backE, lentAt, fill, List.cons_append, List.nil_append, List.append_nil, List.replicate_succ, List.replicate_zero, List.getElem?_cons_zero, List.getElem?_cons_succ, List.set_cons_zero, List.set_cons_succ, List.map_cons, List.map_nil, List.length_cons, List.length_nil, List.length_map, List.length_replicate, List.all_nil, List.all_cons, Option.isSome, Option.bind_some, Option.map_some, Option.getD_some, Option.bind_none, Option.map_none, Nat.reduceAdd, Nat.zero_add, beq_self_eq_true, Bool.and_true, Bool.true_and, Bool.false_eq_true, reduceIte, reduceCtorEq, if_true, if_false, Bool.not_true, Bool.not_false, decide_true, decide_false, s_are_members l (hl l hx).1 (hl l hx).2], by simp -implicitDefEqProofs only [semDef_ap, sSeq_ap, sSet_ap, sRet_ap, sIf_ap, sExpr_ap, sNil_ap, sNever_ap, sAug_ap, sPar_ap, sAsgT_ap, sStore_ap, sAugStore_ap, sFor_ap, sForO_ap, sWhile_ap, turn_ap, gNm_ap, gsNil_ap, gsCons_ap, gTp_ap, eVar_ap, eMove_ap, eC_ap, eBin_ap, eUn_ap, tOf_ap, tvAnd_ap, tvOr_ap, tvNot_ap, eAnd_ap, eOr_ap, eNot_ap, eIf_ap, eChain_ap, aNil_ap, aCons_ap, aStar_ap, eTup_ap, eLst_ap, eCall_ap, eCallL_ap, lNil_ap, lSh_ap, lLe_ap, lstAt_ap, eOwn2_ap, eSl_ap, pNo_ap, pSome_ap, eLstRg1_ap, eTupRg1_ap, eApp_ap, eExtend_ap, iOf_ap, iEnum_ap, iZip2_ap, iRng1_ap, eLc_ap, keep_nil, keep_zero, opI, opIc, opB, opAdd, opLen, opNeg, opMax, opMin, opAbs, opInt, opIx, opIsNotN, opIsN, isNon, opTuple, opList, opRev, opSl, opSlL, isi_int, isi_boolint, isi_tuple, items?, opEq_int, opNe_int, setAll, forgetAll, wipeE, backE, lentAt, fill, List.cons_append, List.nil_append, List.append_nil, List.replicate_succ, List.replicate_zero, List.getElem?_cons_zero, List.getElem?_cons_succ, List.set_cons_zero, List.set_cons_succ, List.map_cons, List.map_nil, List.length_cons, List.length_nil, List.length_map, List.length_replicate, List.all_nil, List.all_cons, Option.isSome, Option.bind_some, Option.map_some, Option.getD_some, Option.bind_none, Option.map_none, Nat.reduceAdd, Nat.zero_add, beq_self_eq_true, Bool.and_true, Bool.true_and, Bool.false_eq_true, reduceIte, reduceCtorEq, if_true, if_false, Bool.not_true, Bool.not_false, decide_true, decide_false]⟩
  have e : m_are_digest_leaves [some (tT ls)] = some (.bl true, [none]) := by
    simp -implicitDefEqProofs only [m_are_digest_leaves, b_are_digest_leaves, semDef_ap, sSeq_ap, sSet_ap, sRet_ap, sIf_ap, sExpr_ap, sNil_ap, sNever_ap, sAug_ap, sPar_ap, sAsgT_ap, sStore_ap, sAugStore_ap, sFor_ap, sForO_ap, sWhile_ap, turn_ap, gNm_ap, gsNil_ap, gsCons_ap, gTp_ap, eVar_ap, eMove_ap, eC_ap, eBin_ap, eUn_ap, tOf_ap, tvAnd_ap, tvOr_ap, tvNot_ap, eAnd_ap, eOr_ap, eNot_ap, eIf_ap, eChain_ap, aNil_ap, aCons_ap, aStar_ap, eTup_ap, eLst_ap, eCall_ap, eCallL_ap, lNil_ap, lSh_ap, lLe_ap, lstAt_ap, eOwn2_ap, eSl_ap, pNo_ap, pSome_ap, eLstRg1_ap, eTupRg1_ap, eApp_ap, eExtend_ap, iOf_ap, iEnum_ap, iZip2_ap, iRng1_ap, eLc_ap, keep_nil, keep_zero, opI, opIc, opB, opAdd, opLen, opNeg, opMax, opMin, opAbs, opInt, opIx, opIsNotN, opIsN, isNon, opTuple, opList, opRev, opSl, opSlL, isi_int, isi_boolint, isi_tuple, items?, opEq_int, opNe_int, setAll, forgetAll, wipeE, backE, lentAt, fill, List.cons_append, List.nil_append, List.append_nil, List.replicate_succ, List.replicate_zero, List.getElem?_cons_zero, List.getElem?_cons_succ, List.set_cons_zero, List.set_cons_succ, List.map_cons, List.map_nil, List.length_cons, List.length_nil, List.length_map, List.length_replicate, List.all_nil, List.all_cons, Option.isSome, Option.bind_some, Option.map_some, Option.getD_some, Option.bind_none, Option.map_none, Nat.reduceAdd, Nat.zero_add, beq_self_eq_true, Bool.and_true, Bool.true_and, Bool.false_eq_true, reduceIte, reduceCtorEq, if_true, if_false, Bool.not_true, Bool.not_false, decide_true, decide_false, leaf_counts _ h, fits_of (show ls.length ≤ 16777216 by omega), lc, opAll_map, all_true]
  simp -implicitDefEqProofs only [m_require_digest_leaves, b_require_digest_leaves, semDef_ap, sSeq_ap, sSet_ap, sRet_ap, sIf_ap, sExpr_ap, sNil_ap, sNever_ap, sAug_ap, sPar_ap, sAsgT_ap, sStore_ap, sAugStore_ap, sFor_ap, sForO_ap, sWhile_ap, turn_ap, gNm_ap, gsNil_ap, gsCons_ap, gTp_ap, eVar_ap, eMove_ap, eC_ap, eBin_ap, eUn_ap, tOf_ap, tvAnd_ap, tvOr_ap, tvNot_ap, eAnd_ap, eOr_ap, eNot_ap, eIf_ap, eChain_ap, aNil_ap, aCons_ap, aStar_ap, eTup_ap, eLst_ap, eCall_ap, eCallL_ap, lNil_ap, lSh_ap, lLe_ap, lstAt_ap, eOwn2_ap, eSl_ap, pNo_ap, pSome_ap, eLstRg1_ap, eTupRg1_ap, eApp_ap, eExtend_ap, iOf_ap, iEnum_ap, iZip2_ap, iRng1_ap, eLc_ap, keep_nil, keep_zero, opI, opIc, opB, opAdd, opLen, opNeg, opMax, opMin, opAbs, opInt, opIx, opIsNotN, opIsN, isNon, opTuple, opList, opRev, opSl, opSlL, isi_int, isi_boolint, isi_tuple, items?, opEq_int, opNe_int, setAll, forgetAll, wipeE, backE, lentAt, fill, List.cons_append, List.nil_append, List.append_nil, List.replicate_succ, List.replicate_zero, List.getElem?_cons_zero, List.getElem?_cons_succ, List.set_cons_zero, List.set_cons_succ, List.map_cons, List.map_nil, List.length_cons, List.length_nil, List.length_map, List.length_replicate, List.all_nil, List.all_cons, Option.isSome, Option.bind_some, Option.map_some, Option.getD_some, Option.bind_none, Option.map_none, Nat.reduceAdd, Nat.zero_add, beq_self_eq_true, Bool.and_true, Bool.true_and, Bool.false_eq_true, reduceIte, reduceCtorEq, if_true, if_false, Bool.not_true, Bool.not_false, decide_true, decide_false, e]
end Hd

namespace Hd
open PL PM
theorem t_leaves (d : Int × Int × Int) (n : Nat) (hn : n ≤ 1000) : ∃ (ls : List (List Int)) (d' : Int × Int × Int), lcL (gNm 7) tYes' (eCallL 3 0 0 m__law_row (lLe 0 (lSh (eC (.int 12289)) (lSh (eCallL 2 0 0 m__law_roll (lLe 0 (lSh (eC (.int 4)) lNil))) lNil)))) [7] ((List.range n).map fun (i : Nat) => PV.int (i : Int)) [some (D d), none, none, none, none, none, none, none, none, none]
    = some (ls.map tI, [some (D d'), none, none, none, none, none, none, none, none, none]) ∧ ls.length = n ∧ ∀ l ∈ ls, l.length ≤ 3 ∧ Nums 12289 l := by
  obtain ⟨ys, ρ', e, ⟨d', rfl⟩, l, q⟩ := lcL_gen tI (eg := gNm 7) (ev := eCallL 3 0 0 m__law_row (lLe 0 (lSh (eC (.int 12289)) (lSh (eCallL 2 0 0 m__law_roll (lLe 0 (lSh (eC (.int 4)) lNil))) lNil)))) (vs := [7]) (fun ρ => ∃ d : Int × Int × Int, ρ = [some (D d), none, none, none, none, none, none, none, none, none]) (fun y => y.length ≤ 3 ∧ Nums 12289 y) (xs := (List.range n).map fun (i : Nat) => PV.int (i : Int)) (ρ := [some (D d), none, none, none, none, none, none, none, none, none]) (fun x ρ hx ⟨d, hd⟩ => by
    subst hd
    obtain ⟨r, d1, e1, r0, r1⟩ := s_roll d 4 (by decide) (by decide)
    obtain ⟨r, rfl⟩ := ex_nat r0
    obtain ⟨row, d2, e2, l2, n2⟩ := s_row d1 12289 r (by decide) (by decide) (by omega)
    refine ⟨[some (D d), none, none, none, none, none, none, some x, none, none], row, [some (D d2), none, none, none, none, none, none, some x, none, none], by simp -implicitDefEqProofs only [semDef_ap, sSeq_ap, sSet_ap, sRet_ap, sIf_ap, sExpr_ap, sNil_ap, sNever_ap, sAug_ap, sPar_ap, sAsgT_ap, sStore_ap, sAugStore_ap, sFor_ap, sForO_ap, sWhile_ap, turn_ap, gNm_ap, gsNil_ap, gsCons_ap, gTp_ap, eVar_ap, eMove_ap, eC_ap, eBin_ap, eUn_ap, tOf_ap, tvAnd_ap, tvOr_ap, tvNot_ap, eAnd_ap, eOr_ap, eNot_ap, eIf_ap, eChain_ap, aNil_ap, aCons_ap, aStar_ap, eTup_ap, eLst_ap, eCall_ap, eCallL_ap, lNil_ap, lSh_ap, lLe_ap, lstAt_ap, eOwn2_ap, eSl_ap, pNo_ap, pSome_ap, eLstRg1_ap, eTupRg1_ap, eApp_ap, eExtend_ap, iOf_ap, iEnum_ap, iZip2_ap, iRng1_ap, eLc_ap, keep_nil, keep_zero, opI, opIc, opB, opAdd, opLen, opNeg, opMax, opMin, opAbs, opInt, opIx, opIsNotN, opIsN, isNon, opTuple, opList, opRev, opSl, opSlL, isi_int, isi_boolint, isi_tuple, items?, opEq_int, opNe_int, setAll, forgetAll, wipeE, backE, lentAt, fill, List.cons_append, List.nil_append, List.append_nil, List.replicate_succ, List.replicate_zero, List.getElem?_cons_zero, List.getElem?_cons_succ, List.set_cons_zero, List.set_cons_succ, List.map_cons, List.map_nil, List.length_cons, List.length_nil, List.length_map, List.length_replicate, List.all_nil, List.all_cons, Option.isSome, Option.bind_some, Option.map_some, Option.getD_some, Option.bind_none, Option.map_none, Nat.reduceAdd, Nat.zero_add, beq_self_eq_true, Bool.and_true, Bool.true_and, Bool.false_eq_true, reduceIte, reduceCtorEq, if_true, if_false, Bool.not_true, Bool.not_false, decide_true, decide_false], ?_, ⟨by omega, n2⟩, d2, by simp -implicitDefEqProofs only [semDef_ap, sSeq_ap, sSet_ap, sRet_ap, sIf_ap, sExpr_ap, sNil_ap, sNever_ap, sAug_ap, sPar_ap, sAsgT_ap, sStore_ap, sAugStore_ap, sFor_ap, sForO_ap, sWhile_ap, turn_ap, gNm_ap, gsNil_ap, gsCons_ap, gTp_ap, eVar_ap, eMove_ap, eC_ap, eBin_ap, eUn_ap, tOf_ap, tvAnd_ap, tvOr_ap, tvNot_ap, eAnd_ap, eOr_ap, eNot_ap, eIf_ap, eChain_ap, aNil_ap, aCons_ap, aStar_ap, eTup_ap, eLst_ap, eCall_ap, eCallL_ap, lNil_ap, lSh_ap, lLe_ap, lstAt_ap, eOwn2_ap, eSl_ap, pNo_ap, pSome_ap, eLstRg1_ap, eTupRg1_ap, eApp_ap, eExtend_ap, iOf_ap, iEnum_ap, iZip2_ap, iRng1_ap, eLc_ap, keep_nil, keep_zero, opI, opIc, opB, opAdd, opLen, opNeg, opMax, opMin, opAbs, opInt, opIx, opIsNotN, opIsN, isNon, opTuple, opList, opRev, opSl, opSlL, isi_int, isi_boolint, isi_tuple, items?, opEq_int, opNe_int, setAll, forgetAll, wipeE, backE, lentAt, fill, List.cons_append, List.nil_append, List.append_nil, List.replicate_succ, List.replicate_zero, List.getElem?_cons_zero, List.getElem?_cons_succ, List.set_cons_zero, List.set_cons_succ, List.map_cons, List.map_nil, List.length_cons, List.length_nil, List.length_map, List.length_replicate, List.all_nil, List.all_cons, Option.isSome, Option.bind_some, Option.map_some, Option.getD_some, Option.bind_none, Option.map_none, Nat.reduceAdd, Nat.zero_add, beq_self_eq_true, Bool.and_true, Bool.true_and, Bool.false_eq_true, reduceIte, reduceCtorEq, if_true, if_false, Bool.not_true, Bool.not_false, decide_true, decide_false]⟩
    simp -implicitDefEqProofs only [semDef_ap, sSeq_ap, sSet_ap, sRet_ap, sIf_ap, sExpr_ap, sNil_ap, sNever_ap, sAug_ap, sPar_ap, sAsgT_ap, sStore_ap, sAugStore_ap, sFor_ap, sForO_ap, sWhile_ap, turn_ap, gNm_ap, gsNil_ap, gsCons_ap, gTp_ap, eVar_ap, eMove_ap, eC_ap, eBin_ap, eUn_ap, tOf_ap, tvAnd_ap, tvOr_ap, tvNot_ap, eAnd_ap, eOr_ap, eNot_ap, eIf_ap, eChain_ap, aNil_ap, aCons_ap, aStar_ap, eTup_ap, eLst_ap, eCall_ap, eCallL_ap, lNil_ap, lSh_ap, lLe_ap, lstAt_ap, eOwn2_ap, eSl_ap, pNo_ap, pSome_ap, eLstRg1_ap, eTupRg1_ap, eApp_ap, eExtend_ap, iOf_ap, iEnum_ap, iZip2_ap, iRng1_ap, eLc_ap, keep_nil, keep_zero, opI, opIc, opB, opAdd, opLen, opNeg, opMax, opMin, opAbs, opInt, opIx, opIsNotN, opIsN, isNon, opTuple, opList, opRev, opSl, opSlL, isi_int, isi_boolint, isi_tuple, items?, opEq_int, opNe_int, setAll, forgetAll, wipeE, backE, lentAt, fill, List.cons_append, List.nil_append, List.append_nil, List.replicate_succ, List.replicate_zero, List.getElem?_cons_zero, List.getElem?_cons_succ, List.set_cons_zero, List.set_cons_succ, List.map_cons, List.map_nil, List.length_cons, List.length_nil, List.length_map, List.length_replicate, List.all_nil, List.all_cons, Option.isSome, Option.bind_some, Option.map_some, Option.getD_some, Option.bind_none, Option.map_none, Nat.reduceAdd, Nat.zero_add, beq_self_eq_true, Bool.and_true, Bool.true_and, Bool.false_eq_true, reduceIte, reduceCtorEq, if_true, if_false, Bool.not_true, Bool.not_false, decide_true, decide_false, e1, e2]) ⟨d, rfl⟩
  rw [List.length_map, List.length_range] at l
  exact ⟨ys, d', e, l, q⟩
theorem t_other (d : Int × Int × Int) (ls : List (List Int)) (a : Nat) (r : Int) (path bent : List Int) : lcL (gTp 2 (gsCons (gNm 8) (gsCons (gNm 9) gsNil))) tYes' (eIf (tOf (eBin opEq (eVar 8) (eVar 2))) (eVar 5) (eVar 9)) [8, 9] (ls.zipIdx.map fun q => PV.tup [.int ((q.2 : Nat) : Int), tI q.1]) [some (D d), some (lT ls), some (.int a), some (.int r), some (tI path), some (tI bent), none, none, none, none]
    = some ((ls.set a bent).map tI, [some (D d), some (lT ls), some (.int a), some (.int r), some (tI path), some (tI bent), none, none, none, none]) := by
  have em : (ls.set a bent).map tI = ls.zipIdx.map fun q => if q.2 = a then tI bent else tI q.1 := by
    apply List.ext_getElem?
    intro i
    rw [List.getElem?_map, List.getElem?_map, List.getElem?_set, List.getElem?_zipIdx, Nat.zero_add]
    by_cases h : a = i
    · subst h
      by_cases hl : a < ls.length
      · rw [if_pos rfl, if_pos hl, List.getElem?_eq_getElem hl]
        simp
      · rw [if_pos rfl, if_neg hl, List.getElem?_eq_none (by omega)]
        rfl
    · rw [if_neg h]
      cases ls[i]? with
      | none => rfl
      | some x =>
        have : ¬ i = a := fun z => h z.symm
        simp [this]
  rw [em]
  refine lcL_map fun q hq => ⟨[some (D d), some (lT ls), some (.int a), some (.int r), some (tI path), some (tI bent), none, none, some (.int ((q.2 : Nat) : Int)), some (tI q.1)], [some (D d), some (lT ls), some (.int a), some (.int r), some (tI path), some (tI bent), none, none, some (.int ((q.2 : Nat) : Int)), some (tI q.1)], by simp -implicitDefEqProofs only [semDef_ap, sSeq_ap, sSet_ap, sRet_ap, sIf_ap, sExpr_ap, sNil_ap, sNever_ap, sAug_ap, sPar_ap, sAsgT_ap, sStore_ap, sAugStore_ap, sFor_ap, sForO_ap, sWhile_ap, turn_ap, gNm_ap, gsNil_ap, gsCons_ap, gTp_ap, eVar_ap, eMove_ap, eC_ap, eBin_ap, eUn_ap, tOf_ap, tvAnd_ap, tvOr_ap, tvNot_ap, eAnd_ap, eOr_ap, eNot_ap, eIf_ap, eChain_ap, aNil_ap, aCons_ap, aStar_ap, eTup_ap, eLst_ap, eCall_ap, eCallL_ap, lNil_ap, lSh_ap, lLe_ap, lstAt_ap, eOwn2_ap, eSl_ap, pNo_ap, pSome_ap, eLstRg1_ap, eTupRg1_ap, eApp_ap, eExtend_ap, iOf_ap, iEnum_ap, iZip2_ap, iRng1_ap, eLc_ap, keep_nil, keep_zero, opI, opIc, opB, opAdd, opLen, opNeg, opMax, opMin, opAbs, opInt, opIx, opIsNotN, opIsN, isNon, opTuple, opList, opRev, opSl, opSlL, isi_int, isi_boolint, isi_tuple, items?, opEq_int, opNe_int, setAll, forgetAll, wipeE, backE, lentAt, fill, List.cons_append, List.nil_append, List.append_nil, List.replicate_succ, List.replicate_zero, List.getElem?_cons_zero, List.getElem?_cons_succ, List.set_cons_zero, List.set_cons_succ, List.map_cons, List.map_nil, List.length_cons, List.length_nil, List.length_map, List.length_replicate, List.all_nil, List.all_cons, Option.isSome, Option.bind_some, Option.map_some, Option.getD_some, Option.bind_none, Option.map_none, Nat.reduceAdd, Nat.zero_add, beq_self_eq_true, Bool.and_true, Bool.true_and, Bool.false_eq_true, reduceIte, reduceCtorEq, if_true, if_false, Bool.not_true, Bool.not_false, decide_true, decide_false], ?_, by simp -implicitDefEqProofs only [semDef_ap, sSeq_ap, sSet_ap, sRet_ap, sIf_ap, sExpr_ap, sNil_ap, sNever_ap, sAug_ap, sPar_ap, sAsgT_ap, sStore_ap, sAugStore_ap, sFor_ap, sForO_ap, sWhile_ap, turn_ap, gNm_ap, gsNil_ap, gsCons_ap, gTp_ap, eVar_ap, eMove_ap, eC_ap, eBin_ap, eUn_ap, tOf_ap, tvAnd_ap, tvOr_ap, tvNot_ap, eAnd_ap, eOr_ap, eNot_ap, eIf_ap, eChain_ap, aNil_ap, aCons_ap, aStar_ap, eTup_ap, eLst_ap, eCall_ap, eCallL_ap, lNil_ap, lSh_ap, lLe_ap, lstAt_ap, eOwn2_ap, eSl_ap, pNo_ap, pSome_ap, eLstRg1_ap, eTupRg1_ap, eApp_ap, eExtend_ap, iOf_ap, iEnum_ap, iZip2_ap, iRng1_ap, eLc_ap, keep_nil, keep_zero, opI, opIc, opB, opAdd, opLen, opNeg, opMax, opMin, opAbs, opInt, opIx, opIsNotN, opIsN, isNon, opTuple, opList, opRev, opSl, opSlL, isi_int, isi_boolint, isi_tuple, items?, opEq_int, opNe_int, setAll, forgetAll, wipeE, backE, lentAt, fill, List.cons_append, List.nil_append, List.append_nil, List.replicate_succ, List.replicate_zero, List.getElem?_cons_zero, List.getElem?_cons_succ, List.set_cons_zero, List.set_cons_succ, List.map_cons, List.map_nil, List.length_cons, List.length_nil, List.length_map, List.length_replicate, List.all_nil, List.all_cons, Option.isSome, Option.bind_some, Option.map_some, Option.getD_some, Option.bind_none, Option.map_none, Nat.reduceAdd, Nat.zero_add, beq_self_eq_true, Bool.and_true, Bool.true_and, Bool.false_eq_true, reduceIte, reduceCtorEq, if_true, if_false, Bool.not_true, Bool.not_false, decide_true, decide_false]⟩
  by_cases h : q.2 = a
  · have hd : decide (((q.2 : Nat) : Int) = (a : Int)) = true := decide_eq_true (by omega)
    simp -implicitDefEqProofs only [semDef_ap, sSeq_ap, sSet_ap, sRet_ap, sIf_ap, sExpr_ap, sNil_ap, sNever_ap, sAug_ap, sPar_ap, sAsgT_ap, sStore_ap, sAugStore_ap, sFor_ap, sForO_ap, sWhile_ap, turn_ap, gNm_ap, gsNil_ap, gsCons_ap, gTp_ap, eVar_ap, eMove_ap, eC_ap, eBin_ap, eUn_ap, tOf_ap, tvAnd_ap, tvOr_ap, tvNot_ap, eAnd_ap, eOr_ap, eNot_ap, eIf_ap, eChain_ap, aNil_ap, aCons_ap, aStar_ap, eTup_ap, eLst_ap, eCall_ap, eCallL_ap, lNil_ap, lSh_ap, lLe_ap, lstAt_ap, eOwn2_ap, eSl_ap, pNo_ap, pSome_ap, eLstRg1_ap, eTupRg1_ap, eApp_ap, eExtend_ap, iOf_ap, iEnum_ap, iZip2_ap, iRng1_ap, eLc_ap, keep_nil, keep_zero, opI, opIc, opB, opAdd, opLen, opNeg, opMax, opMin, opAbs, opInt, opIx, opIsNotN, opIsN, isNon, opTuple, opList, opRev, opSl, opSlL, isi_int, isi_boolint, isi_tuple, items?, opEq_int, opNe_int, setAll, forgetAll, wipeE, backE, lentAt, fill, List.cons_append, List.nil_append, List.append_nil, List.replicate_succ, List.replicate_zero, List.getElem?_cons_zero, List.getElem?_cons_succ, List.set_cons_zero, List.set_cons_succ, List.map_cons, List.map_nil, List.length_cons, List.length_nil, List.length_map, List.length_replicate, List.all_nil, List.all_cons, Option.isSome, Option.bind_some, Option.map_some, Option.getD_some, Option.bind_none, Option.map_none, Nat.reduceAdd, Nat.zero_add, beq_self_eq_true, Bool.and_true, Bool.true_and, Bool.false_eq_true, reduceIte, reduceCtorEq, if_true, if_false, Bool.not_true, Bool.not_false, decide_true, decide_false, hd, if_pos h]
  · have hd : decide (((q.2 : Nat) : Int) = (a : Int)) = false := decide_eq_false (by omega)
    simp -implicitDefEqProofs only [semDef_ap, sSeq_ap, sSet_ap, sRet_ap, sIf_ap, sExpr_ap, sNil_ap, sNever_ap, sAug_ap, sPar_ap, sAsgT_ap, sStore_ap, sAugStore_ap, sFor_ap, sForO_ap, sWhile_ap, turn_ap, gNm_ap, gsNil_ap, gsCons_ap, gTp_ap, eVar_ap, eMove_ap, eC_ap, eBin_ap, eUn_ap, tOf_ap, tvAnd_ap, tvOr_ap, tvNot_ap, eAnd_ap, eOr_ap, eNot_ap, eIf_ap, eChain_ap, aNil_ap, aCons_ap, aStar_ap, eTup_ap, eLst_ap, eCall_ap, eCallL_ap, lNil_ap, lSh_ap, lLe_ap, lstAt_ap, eOwn2_ap, eSl_ap, pNo_ap, pSome_ap, eLstRg1_ap, eTupRg1_ap, eApp_ap, eExtend_ap, iOf_ap, iEnum_ap, iZip2_ap, iRng1_ap, eLc_ap, keep_nil, keep_zero, opI, opIc, opB, opAdd, opLen, opNeg, opMax, opMin, opAbs, opInt, opIx, opIsNotN, opIsN, isNon, opTuple, opList, opRev, opSl, opSlL, isi_int, isi_boolint, isi_tuple, items?, opEq_int, opNe_int, setAll, forgetAll, wipeE, backE, lentAt, fill, List.cons_append, List.nil_append, List.append_nil, List.replicate_succ, List.replicate_zero, List.getElem?_cons_zero, List.getElem?_cons_succ, List.set_cons_zero, List.set_cons_succ, List.map_cons, List.map_nil, List.length_cons, List.length_nil, List.length_map, List.length_replicate, List.all_nil, List.all_cons, Option.isSome, Option.bind_some, Option.map_some, Option.getD_some, Option.bind_none, Option.map_none, Nat.reduceAdd, Nat.zero_add, beq_self_eq_true, Bool.and_true, Bool.true_and, Bool.false_eq_true, reduceIte, reduceCtorEq, if_true, if_false, Bool.not_true, Bool.not_false, decide_true, decide_false, hd, if_neg h]
theorem t_tree (d : Int × Int × Int) : ∃ d', m__law_tree_right [some (D d)] = some (.bl true, [some (D d')]) := by
  obtain ⟨x, d1, e1, hx⟩ := s_pick d [.int 1, .int 2, .int 4, .int 8] (by decide) (by decide)
  obtain ⟨k, rfl, hk⟩ : ∃ k : Nat, x = .int ((2 ^ k : Nat) : Int) ∧ k ≤ 3 := by
    simp only [List.mem_cons, List.not_mem_nil, or_false] at hx
    rcases hx with rfl | rfl | rfl | rfl
    · exact ⟨0, rfl, by decide⟩
    · exact ⟨1, rfl, by decide⟩
    · exact ⟨2, rfl, by decide⟩
    · exact ⟨3, rfl, by decide⟩
  have h8 : 2 ^ k ≤ 8 := Nat.pow_le_pow_right (n := 2) (by decide) hk
  have h4 : 2 ^ k = 1 ∨ 2 ^ k = 2 ∨ 2 ^ k = 4 ∨ 2 ^ k = 8 := by
    rcases (show k = 0 ∨ k = 1 ∨ k = 2 ∨ k = 3 by omega) with rfl | rfl | rfl | rfl
    · exact .inl rfl
    · exact .inr (.inl rfl)
    · exact .inr (.inr (.inl rfl))
    · exact .inr (.inr (.inr rfl))
  have hpow : 0 < 2 ^ k := Nat.pow_pos (by decide)
  have hpi : ((2 : Int) ^ k) = ((2 ^ k : Nat) : Int) := (Int.natCast_pow 2 k).symm
  have of2 := s_often 2 k (by decide) (by decide) (by omega)
  have rf2 := s_raised_in 2 k (by decide) (by decide) (by omega)
  rw [hpi] at of2 rf2
  generalize hn : 2 ^ k = n at *
  obtain ⟨ls, d2, e2, l2, b2⟩ := t_leaves d1 n (by omega)
  have lsb : ∀ l ∈ ls, l.length ≤ 64 ∧ ∀ x ∈ l, 0 ≤ x ∧ x < BI := fun l hl => ⟨by have := (b2 l hl).1; omega, fun x hx => by have := (b2 l hl).2 x hx; unfold BI; omega⟩
  have lsl : ∀ l ∈ ls, l.length ≤ 1000 := fun l hl => by have := (b2 l hl).1; omega
  obtain ⟨a, d3, e3, a0, a1⟩ := s_roll d2 n (by omega) (by omega)
  obtain ⟨a, rfl⟩ := ex_nat a0
  have a1 : a < n := by omega
  have rq := s_require_leaves ls (by rw [l2]; exact h4) lsb
  have rt := s_root_in k ls hk (by rw [l2, hn]) lsl
  have pa := s_path_in k ls a hk (by rw [l2, hn]) lsl (by rw [hn]; exact a1)
  have tr : m_tree_root [some (tT ls)] = some (.int (topOf k (ls.map dig)), [none]) := by
    simp -implicitDefEqProofs only [m_tree_root, b_tree_root, semDef_ap, sSeq_ap, sSet_ap, sRet_ap, sIf_ap, sExpr_ap, sNil_ap, sNever_ap, sAug_ap, sPar_ap, sAsgT_ap, sStore_ap, sAugStore_ap, sFor_ap, sForO_ap, sWhile_ap, turn_ap, gNm_ap, gsNil_ap, gsCons_ap, gTp_ap, eVar_ap, eMove_ap, eC_ap, eBin_ap, eUn_ap, tOf_ap, tvAnd_ap, tvOr_ap, tvNot_ap, eAnd_ap, eOr_ap, eNot_ap, eIf_ap, eChain_ap, aNil_ap, aCons_ap, aStar_ap, eTup_ap, eLst_ap, eCall_ap, eCallL_ap, lNil_ap, lSh_ap, lLe_ap, lstAt_ap, eOwn2_ap, eSl_ap, pNo_ap, pSome_ap, eLstRg1_ap, eTupRg1_ap, eApp_ap, eExtend_ap, iOf_ap, iEnum_ap, iZip2_ap, iRng1_ap, eLc_ap, keep_nil, keep_zero, opI, opIc, opB, opAdd, opLen, opNeg, opMax, opMin, opAbs, opInt, opIx, opIsNotN, opIsN, isNon, opTuple, opList, opRev, opSl, opSlL, isi_int, isi_boolint, isi_tuple, items?, opEq_int, opNe_int, setAll, forgetAll, wipeE, backE, lentAt, fill, List.cons_append, List.nil_append, List.append_nil, List.replicate_succ, List.replicate_zero, List.getElem?_cons_zero, List.getElem?_cons_succ, List.set_cons_zero, List.set_cons_succ, List.map_cons, List.map_nil, List.length_cons, List.length_nil, List.length_map, List.length_replicate, List.all_nil, List.all_cons, Option.isSome, Option.bind_some, Option.map_some, Option.getD_some, Option.bind_none, Option.map_none, Nat.reduceAdd, Nat.zero_add, beq_self_eq_true, Bool.and_true, Bool.true_and, Bool.false_eq_true, reduceIte, reduceCtorEq, if_true, if_false, Bool.not_true, Bool.not_false, decide_true, decide_false, rq, rt]
  have rn := s_require_number a 0 ((n : Int) - 1) (by omega) (by omega) (by omega) (by omega)
  have po : m_path_of [some (tT ls), some (.int a)] = some (tI (pathL k (ls.map dig) a), [none, none]) := by
    simp -implicitDefEqProofs only [m_path_of, b_path_of, semDef_ap, sSeq_ap, sSet_ap, sRet_ap, sIf_ap, sExpr_ap, sNil_ap, sNever_ap, sAug_ap, sPar_ap, sAsgT_ap, sStore_ap, sAugStore_ap, sFor_ap, sForO_ap, sWhile_ap, turn_ap, gNm_ap, gsNil_ap, gsCons_ap, gTp_ap, eVar_ap, eMove_ap, eC_ap, eBin_ap, eUn_ap, tOf_ap, tvAnd_ap, tvOr_ap, tvNot_ap, eAnd_ap, eOr_ap, eNot_ap, eIf_ap, eChain_ap, aNil_ap, aCons_ap, aStar_ap, eTup_ap, eLst_ap, eCall_ap, eCallL_ap, lNil_ap, lSh_ap, lLe_ap, lstAt_ap, eOwn2_ap, eSl_ap, pNo_ap, pSome_ap, eLstRg1_ap, eTupRg1_ap, eApp_ap, eExtend_ap, iOf_ap, iEnum_ap, iZip2_ap, iRng1_ap, eLc_ap, keep_nil, keep_zero, opI, opIc, opB, opAdd, opLen, opNeg, opMax, opMin, opAbs, opInt, opIx, opIsNotN, opIsN, isNon, opTuple, opList, opRev, opSl, opSlL, isi_int, isi_boolint, isi_tuple, items?, opEq_int, opNe_int, setAll, forgetAll, wipeE, backE, lentAt, fill, List.cons_append, List.nil_append, List.append_nil, List.replicate_succ, List.replicate_zero, List.getElem?_cons_zero, List.getElem?_cons_succ, List.set_cons_zero, List.set_cons_succ, List.map_cons, List.map_nil, List.length_cons, List.length_nil, List.length_map, List.length_replicate, List.all_nil, List.all_cons, Option.isSome, Option.bind_some, Option.map_some, Option.getD_some, Option.bind_none, Option.map_none, Nat.reduceAdd, Nat.zero_add, beq_self_eq_true, Bool.and_true, Bool.true_and, Bool.false_eq_true, reduceIte, reduceCtorEq, if_true, if_false, Bool.not_true, Bool.not_false, decide_true, decide_false, rq, l2, rn, pa]
  have digb : ∀ x ∈ ls.map dig, 0 ≤ x ∧ x < BI := fun x hx => by
    obtain ⟨l, hl, rfl⟩ := List.mem_map.mp hx
    exact dig_b l (lsl l hl)
  have plb := pathL_b k (ls.map dig) a digb
  have pll := pathL_length k (ls.map dig) a
  have hal : a < ls.length := by omega
  obtain ⟨leaf, hleaf⟩ : ∃ leaf, ls[a]? = some leaf := ⟨_, List.getElem?_eq_getElem hal⟩
  have lm := List.mem_of_getElem? hleaf
  have hix : L2.atI (ls.map tI) (a : Int) = some (tI leaf) := atI_nat (by rw [List.getElem?_map, hleaf]; rfl)
  have ct := climb_top k (ls.map dig) a (by rw [List.length_map, l2, hn]) (by rw [hn]; exact a1)
  rw [List.getElem?_map, hleaf] at ct
  have ct : climb (pathL k (ls.map dig) a) (dig leaf) a = topOf k (ls.map dig) := ct
  have cps := pathL_set k (ls.map dig) a
  have rbp : ∀ (lf : List Int), lf.length ≤ 64 → (∀ x ∈ lf, 0 ≤ x ∧ x < BI) → m_root_by_path [some (tI lf), some (.int a), some (tI (pathL k (ls.map dig) a))] = some (.int (climb (pathL k (ls.map dig) a) (dig lf) a), [none, none, none]) := fun lf h1 h2 => by
    have r1 := s_require_members lf h1 h2
    have r2 := s_require_number a 0 (64 - 1) (by omega) (by omega) (by omega) (by omega)
    have r3 := s_are_members (pathL k (ls.map dig) a) (by omega) plb
    have c1 : decide ((6 : Int) < (k : Int)) = false := decide_eq_false (by omega)
    have c2 : decide ((n : Int) ≤ (a : Int)) = false := decide_eq_false (by omega)
    have r4 := s_climb lf (pathL k (ls.map dig) a) a (by omega)
    simp -implicitDefEqProofs only [m_root_by_path, b_root_by_path, semDef_ap, sSeq_ap, sSet_ap, sRet_ap, sIf_ap, sExpr_ap, sNil_ap, sNever_ap, sAug_ap, sPar_ap, sAsgT_ap, sStore_ap, sAugStore_ap, sFor_ap, sForO_ap, sWhile_ap, turn_ap, gNm_ap, gsNil_ap, gsCons_ap, gTp_ap, eVar_ap, eMove_ap, eC_ap, eBin_ap, eUn_ap, tOf_ap, tvAnd_ap, tvOr_ap, tvNot_ap, eAnd_ap, eOr_ap, eNot_ap, eIf_ap, eChain_ap, aNil_ap, aCons_ap, aStar_ap, eTup_ap, eLst_ap, eCall_ap, eCallL_ap, lNil_ap, lSh_ap, lLe_ap, lstAt_ap, eOwn2_ap, eSl_ap, pNo_ap, pSome_ap, eLstRg1_ap, eTupRg1_ap, eApp_ap, eExtend_ap, iOf_ap, iEnum_ap, iZip2_ap, iRng1_ap, eLc_ap, keep_nil, keep_zero, opI, opIc, opB, opAdd, opLen, opNeg, opMax, opMin, opAbs, opInt, opIx, opIsNotN, opIsN, isNon, opTuple, opList, opRev, opSl, opSlL, isi_int, isi_boolint, isi_tuple, items?, opEq_int, opNe_int, setAll, forgetAll, wipeE, backE, lentAt, fill, List.cons_append, List.nil_append, List.append_nil, List.replicate_succ, List.replicate_zero, List.getElem?_cons_zero, List.getElem?_cons_succ, List.set_cons_zero, List.set_cons_succ, List.map_cons, List.map_nil, List.length_cons, List.length_nil, List.length_map, List.length_replicate, List.all_nil, List.all_cons, Option.isSome, Option.bind_some, Option.map_some, Option.getD_some, Option.bind_none, Option.map_none, Nat.reduceAdd, Nat.zero_add, beq_self_eq_true, Bool.and_true, Bool.true_and, Bool.false_eq_true, reduceIte, reduceCtorEq, if_true, if_false, Bool.not_true, Bool.not_false, decide_true, decide_false, r1, r2, r3, pll, c1, rf2, c2, r4]
  have rb1 := rbp leaf (lsb leaf lm).1 (lsb leaf lm).2
  rw [ct] at rb1
  generalize hpt : pathL k (ls.map dig) a = path at *
  generalize hrt : topOf k (ls.map dig) = root at *
  have g4 : fits 4 = true := by decide
  have e10 : opEq (tI []) (.tup []) = some (.bl true) := by
    rw [show (PV.tup [] : PV) = tI [] from rfl, opEq_tI]
    rfl
  have fn : fits n = true := fits_of (by omega)
  have f0 : fits 0 = true := by decide
  have dgs : (n = 1 → m_digest [some (.tup ((ls[0]?.getD []).map .int))] = some (.int root, [none]) ∧ L2.atI (ls.map tI) 0 = some (tI (ls[0]?.getD []))) := fun h1 => by
    have k0 : k = 0 := by
      rcases (show k = 0 ∨ k = 1 ∨ k = 2 ∨ k = 3 by omega) with rfl | rfl | rfl | rfl
      · rfl
      · exact absurd (hn.trans h1) (by decide)
      · exact absurd (hn.trans h1) (by decide)
      · exact absurd (hn.trans h1) (by decide)
    subst k0
    have hl0 : ls[0]? = some leaf := by
      have : a = 0 := by omega
      rw [← this]
      exact hleaf
    have q1 := s_require_members leaf (lsb leaf lm).1 (lsb leaf lm).2
    have q2 := s_digest_in leaf (lsl leaf lm)
    have q3 : root = dig leaf := by
      rw [← hrt]
      show ((ls.map dig)[0]?).getD 0 = _
      rw [List.getElem?_map, hl0]
      rfl
    rw [hl0, q3]
    refine ⟨?_, ?_⟩
    · show m_digest [some (tI leaf)] = _
      simp -implicitDefEqProofs only [m_digest, b_digest, semDef_ap, sSeq_ap, sSet_ap, sRet_ap, sIf_ap, sExpr_ap, sNil_ap, sNever_ap, sAug_ap, sPar_ap, sAsgT_ap, sStore_ap, sAugStore_ap, sFor_ap, sForO_ap, sWhile_ap, turn_ap, gNm_ap, gsNil_ap, gsCons_ap, gTp_ap, eVar_ap, eMove_ap, eC_ap, eBin_ap, eUn_ap, tOf_ap, tvAnd_ap, tvOr_ap, tvNot_ap, eAnd_ap, eOr_ap, eNot_ap, eIf_ap, eChain_ap, aNil_ap, aCons_ap, aStar_ap, eTup_ap, eLst_ap, eCall_ap, eCallL_ap, lNil_ap, lSh_ap, lLe_ap, lstAt_ap, eOwn2_ap, eSl_ap, pNo_ap, pSome_ap, eLstRg1_ap, eTupRg1_ap, eApp_ap, eExtend_ap, iOf_ap, iEnum_ap, iZip2_ap, iRng1_ap, eLc_ap, keep_nil, keep_zero, opI, opIc, opB, opAdd, opLen, opNeg, opMax, opMin, opAbs, opInt, opIx, opIsNotN, opIsN, isNon, opTuple, opList, opRev, opSl, opSlL, isi_int, isi_boolint, isi_tuple, items?, opEq_int, opNe_int, setAll, forgetAll, wipeE, backE, lentAt, fill, List.cons_append, List.nil_append, List.append_nil, List.replicate_succ, List.replicate_zero, List.getElem?_cons_zero, List.getElem?_cons_succ, List.set_cons_zero, List.set_cons_succ, List.map_cons, List.map_nil, List.length_cons, List.length_nil, List.length_map, List.length_replicate, List.all_nil, List.all_cons, Option.isSome, Option.bind_some, Option.map_some, Option.getD_some, Option.bind_none, Option.map_none, Nat.reduceAdd, Nat.zero_add, beq_self_eq_true, Bool.and_true, Bool.true_and, Bool.false_eq_true, reduceIte, reduceCtorEq, if_true, if_false, Bool.not_true, Bool.not_false, decide_true, decide_false, q1, q2]
    · rw [show (0 : Int) = ((0 : Nat) : Int) from rfl]
      exact atI_nat (by rw [List.getElem?_map, hl0]; rfl)
  have ge : decide ((n : Int) = (n : Int)) = true := decide_eq_true rfl
  have re : decide (root = root) = true := decide_eq_true rfl
  refine ⟨d3, ?_⟩
  have hne : ∀ x y : Int, x ≠ y → (!decide (x = y)) = true := fun x y h => by rw [decide_eq_false h]; rfl
  cases leaf with
  | nil =>
    have hix' : L2.atI (ls.map tI) (a : Int) = some (.tup []) := hix
    have rb1' : m_root_by_path [some (.tup []), some (.int a), some (tI path)] = some (.int root, [none, none, none]) := rb1
    have e10' : opEq (.tup []) (.tup []) = some (.bl true) := e10
    by_cases h1 : n = 1
    · have z1 : decide ((n : Int) = 1) = true := decide_eq_true (by omega)
      obtain ⟨g1, g2⟩ := dgs h1
      simp -implicitDefEqProofs only [m__law_tree_right, b__law_tree_right, semDef_ap, sSeq_ap, sSet_ap, sRet_ap, sIf_ap, sExpr_ap, sNil_ap, sNever_ap, sAug_ap, sPar_ap, sAsgT_ap, sStore_ap, sAugStore_ap, sFor_ap, sForO_ap, sWhile_ap, turn_ap, gNm_ap, gsNil_ap, gsCons_ap, gTp_ap, eVar_ap, eMove_ap, eC_ap, eBin_ap, eUn_ap, tOf_ap, tvAnd_ap, tvOr_ap, tvNot_ap, eAnd_ap, eOr_ap, eNot_ap, eIf_ap, eChain_ap, aNil_ap, aCons_ap, aStar_ap, eTup_ap, eLst_ap, eCall_ap, eCallL_ap, lNil_ap, lSh_ap, lLe_ap, lstAt_ap, eOwn2_ap, eSl_ap, pNo_ap, pSome_ap, eLstRg1_ap, eTupRg1_ap, eApp_ap, eExtend_ap, iOf_ap, iEnum_ap, iZip2_ap, iRng1_ap, eLc_ap, keep_nil, keep_zero, opI, opIc, opB, opAdd, opLen, opNeg, opMax, opMin, opAbs, opInt, opIx, opIsNotN, opIsN, isNon, opTuple, opList, opRev, opSl, opSlL, isi_int, isi_boolint, isi_tuple, items?, opEq_int, opNe_int, setAll, forgetAll, wipeE, backE, lentAt, fill, List.cons_append, List.nil_append, List.append_nil, List.replicate_succ, List.replicate_zero, List.getElem?_cons_zero, List.getElem?_cons_succ, List.set_cons_zero, List.set_cons_succ, List.map_cons, List.map_nil, List.length_cons, List.length_nil, List.length_map, List.length_replicate, List.all_nil, List.all_cons, Option.isSome, Option.bind_some, Option.map_some, Option.getD_some, Option.bind_none, Option.map_none, Nat.reduceAdd, Nat.zero_add, beq_self_eq_true, Bool.and_true, Bool.true_and, Bool.false_eq_true, reduceIte, reduceCtorEq, if_true, if_false, Bool.not_true, Bool.not_false, decide_true, decide_false, g4, e1, rg_ok (show n ≤ 16777216 by omega), rg_n, List.length_range, fn, e2, e3, l2, tr, po, hix', rb1', pll, of2, ge, re, f0, e10', z1, g1, g2]
    · have z1 : decide ((n : Int) = 1) = false := decide_eq_false (by omega)
      simp -implicitDefEqProofs only [m__law_tree_right, b__law_tree_right, semDef_ap, sSeq_ap, sSet_ap, sRet_ap, sIf_ap, sExpr_ap, sNil_ap, sNever_ap, sAug_ap, sPar_ap, sAsgT_ap, sStore_ap, sAugStore_ap, sFor_ap, sForO_ap, sWhile_ap, turn_ap, gNm_ap, gsNil_ap, gsCons_ap, gTp_ap, eVar_ap, eMove_ap, eC_ap, eBin_ap, eUn_ap, tOf_ap, tvAnd_ap, tvOr_ap, tvNot_ap, eAnd_ap, eOr_ap, eNot_ap, eIf_ap, eChain_ap, aNil_ap, aCons_ap, aStar_ap, eTup_ap, eLst_ap, eCall_ap, eCallL_ap, lNil_ap, lSh_ap, lLe_ap, lstAt_ap, eOwn2_ap, eSl_ap, pNo_ap, pSome_ap, eLstRg1_ap, eTupRg1_ap, eApp_ap, eExtend_ap, iOf_ap, iEnum_ap, iZip2_ap, iRng1_ap, eLc_ap, keep_nil, keep_zero, opI, opIc, opB, opAdd, opLen, opNeg, opMax, opMin, opAbs, opInt, opIx, opIsNotN, opIsN, isNon, opTuple, opList, opRev, opSl, opSlL, isi_int, isi_boolint, isi_tuple, items?, opEq_int, opNe_int, setAll, forgetAll, wipeE, backE, lentAt, fill, List.cons_append, List.nil_append, List.append_nil, List.replicate_succ, List.replicate_zero, List.getElem?_cons_zero, List.getElem?_cons_succ, List.set_cons_zero, List.set_cons_succ, List.map_cons, List.map_nil, List.length_cons, List.length_nil, List.length_map, List.length_replicate, List.all_nil, List.all_cons, Option.isSome, Option.bind_some, Option.map_some, Option.getD_some, Option.bind_none, Option.map_none, Nat.reduceAdd, Nat.zero_add, beq_self_eq_true, Bool.and_true, Bool.true_and, Bool.false_eq_true, reduceIte, reduceCtorEq, if_true, if_false, Bool.not_true, Bool.not_false, decide_true, decide_false, g4, e1, rg_ok (show n ≤ 16777216 by omega), rg_n, List.length_range, fn, e2, e3, l2, tr, po, hix', rb1', pll, of2, ge, re, f0, e10', z1]
  | cons x r =>
    have hx := (b2 _ lm).2 x List.mem_cons_self
    have hrl := (b2 _ lm).1
    have bm : ∀ y ∈ (x + 1) :: r, 0 ≤ y ∧ y < BI := fun y hy => by
      rcases List.mem_cons.mp hy with q | q
      · rw [q]
        exact ⟨by omega, by unfold BI; omega⟩
      · exact (lsb _ lm).2 y (List.mem_cons_of_mem _ q)
    have bl : ((x + 1) :: r).length ≤ 64 := by simp only [List.length_cons] at hrl ⊢; omega
    have rb2 := rbp ((x + 1) :: r) bl bm
    have lsb2 : ∀ l ∈ ls.set a ((x + 1) :: r), l.length ≤ 64 ∧ ∀ x ∈ l, 0 ≤ x ∧ x < BI := fun l hl => by
      rcases List.mem_or_eq_of_mem_set hl with q | q
      · exact lsb l q
      · rw [q]; exact ⟨bl, bm⟩
    have rq2 := s_require_leaves (ls.set a ((x + 1) :: r)) (by rw [List.length_set, l2]; exact h4) lsb2
    have rt2 := s_root_in k (ls.set a ((x + 1) :: r)) hk (by rw [List.length_set, l2, hn]) fun l hl => by have := (lsb2 l hl).1; omega
    have ms : (ls.set a ((x + 1) :: r)).map dig = (ls.map dig).set a (dig ((x + 1) :: r)) := List.map_set
    have ct2 := climb_top k ((ls.map dig).set a (dig ((x + 1) :: r))) a (by rw [List.length_set, List.length_map, l2, hn]) (by rw [hn]; exact a1)
    rw [cps _ (by rw [List.length_map, l2, hn]) (by rw [hn]; exact a1), List.getElem?_set_self (by rw [List.length_map]; exact hal), Option.getD_some] at ct2
    rw [ms, ← ct2] at rt2
    have hroot : climb path (dig ((x + 1) :: r)) a ≠ root := fun z => by
      rw [← ct] at z
      exact dig_bent hx.1 (by omega) (climb_inj path a (dig_b _ (by omega)) (dig_b _ (lsl _ lm)) z)
    generalize hr2 : climb path (dig ((x + 1) :: r)) a = root2 at *
    have tr2 : m_tree_root [some (tT (ls.set a ((x + 1) :: r)))] = some (.int root2, [none]) := by
      simp -implicitDefEqProofs only [m_tree_root, b_tree_root, semDef_ap, sSeq_ap, sSet_ap, sRet_ap, sIf_ap, sExpr_ap, sNil_ap, sNever_ap, sAug_ap, sPar_ap, sAsgT_ap, sStore_ap, sAugStore_ap, sFor_ap, sForO_ap, sWhile_ap, turn_ap, gNm_ap, gsNil_ap, gsCons_ap, gTp_ap, eVar_ap, eMove_ap, eC_ap, eBin_ap, eUn_ap, tOf_ap, tvAnd_ap, tvOr_ap, tvNot_ap, eAnd_ap, eOr_ap, eNot_ap, eIf_ap, eChain_ap, aNil_ap, aCons_ap, aStar_ap, eTup_ap, eLst_ap, eCall_ap, eCallL_ap, lNil_ap, lSh_ap, lLe_ap, lstAt_ap, eOwn2_ap, eSl_ap, pNo_ap, pSome_ap, eLstRg1_ap, eTupRg1_ap, eApp_ap, eExtend_ap, iOf_ap, iEnum_ap, iZip2_ap, iRng1_ap, eLc_ap, keep_nil, keep_zero, opI, opIc, opB, opAdd, opLen, opNeg, opMax, opMin, opAbs, opInt, opIx, opIsNotN, opIsN, isNon, opTuple, opList, opRev, opSl, opSlL, isi_int, isi_boolint, isi_tuple, items?, opEq_int, opNe_int, setAll, forgetAll, wipeE, backE, lentAt, fill, List.cons_append, List.nil_append, List.append_nil, List.replicate_succ, List.replicate_zero, List.getElem?_cons_zero, List.getElem?_cons_succ, List.set_cons_zero, List.set_cons_succ, List.map_cons, List.map_nil, List.length_cons, List.length_nil, List.length_map, List.length_replicate, List.all_nil, List.all_cons, Option.isSome, Option.bind_some, Option.map_some, Option.getD_some, Option.bind_none, Option.map_none, Nat.reduceAdd, Nat.zero_add, beq_self_eq_true, Bool.and_true, Bool.true_and, Bool.false_eq_true, reduceIte, reduceCtorEq, if_true, if_false, Bool.not_true, Bool.not_false, decide_true, decide_false, rq2, rt2]
    have oth := t_other d3 ls a root path ((x + 1) :: r)
    have hix' : L2.atI (ls.map tI) (a : Int) = some (.tup (.int x :: r.map .int)) := hix
    have rb1' : m_root_by_path [some (.tup (.int x :: r.map .int)), some (.int a), some (tI path)] = some (.int root, [none, none, none]) := rb1
    have rb2' : m_root_by_path [some (.tup (.int (x + 1) :: r.map .int)), some (.int a), some (tI path)] = some (.int root2, [none, none, none]) := rb2
    have oth' : lcL (gTp 2 (gsCons (gNm 8) (gsCons (gNm 9) gsNil))) tYes' (eIf (tOf (eBin opEq (eVar 8) (eVar 2))) (eVar 5) (eVar 9)) [8, 9] (ls.zipIdx.map fun q => PV.tup [.int ((q.2 : Nat) : Int), tI q.1]) [some (D d3), some (lT ls), some (.int a), some (.int root), some (tI path), some (.tup (.int (x + 1) :: r.map .int)), none, none, none, none]
      = some ((ls.set a ((x + 1) :: r)).map tI, [some (D d3), some (lT ls), some (.int a), some (.int root), some (tI path), some (.tup (.int (x + 1) :: r.map .int)), none, none, none, none]) := oth
    have e11 : opEq (.tup (.int x :: r.map .int)) (.tup []) = some (.bl false) := by
      rw [show (PV.tup [] : PV) = tI [] from rfl, show PV.tup (.int x :: r.map .int) = tI (x :: r) from rfl, opEq_tI]
      rfl
    have cu : cutP (.int x :: r.map PV.int) (some 1) none = r.map .int := by
      rw [show (some (1 : Int)) = some ((1 : Nat) : Int) from rfl, cut_drop]
      rfl
    have f1 : fits 1 = true := by decide
    have fr : fits (1 + r.length) = true := fits_of (by simp only [List.length_cons] at hrl; omega)
    have rr : decide (root2 = root2) = true := decide_eq_true rfl
    have rz := decide_eq_false hroot
    by_cases h1 : n = 1
    · have z1 : decide ((n : Int) = 1) = true := decide_eq_true (by omega)
      obtain ⟨g1, g2⟩ := dgs h1
      simp -implicitDefEqProofs only [m__law_tree_right, b__law_tree_right, semDef_ap, sSeq_ap, sSet_ap, sRet_ap, sIf_ap, sExpr_ap, sNil_ap, sNever_ap, sAug_ap, sPar_ap, sAsgT_ap, sStore_ap, sAugStore_ap, sFor_ap, sForO_ap, sWhile_ap, turn_ap, gNm_ap, gsNil_ap, gsCons_ap, gTp_ap, eVar_ap, eMove_ap, eC_ap, eBin_ap, eUn_ap, tOf_ap, tvAnd_ap, tvOr_ap, tvNot_ap, eAnd_ap, eOr_ap, eNot_ap, eIf_ap, eChain_ap, aNil_ap, aCons_ap, aStar_ap, eTup_ap, eLst_ap, eCall_ap, eCallL_ap, lNil_ap, lSh_ap, lLe_ap, lstAt_ap, eOwn2_ap, eSl_ap, pNo_ap, pSome_ap, eLstRg1_ap, eTupRg1_ap, eApp_ap, eExtend_ap, iOf_ap, iEnum_ap, iZip2_ap, iRng1_ap, eLc_ap, keep_nil, keep_zero, opI, opIc, opB, opAdd, opLen, opNeg, opMax, opMin, opAbs, opInt, opIx, opIsNotN, opIsN, isNon, opTuple, opList, opRev, opSl, opSlL, isi_int, isi_boolint, isi_tuple, items?, opEq_int, opNe_int, setAll, forgetAll, wipeE, backE, lentAt, fill, List.cons_append, List.nil_append, List.append_nil, List.replicate_succ, List.replicate_zero, List.getElem?_cons_zero, List.getElem?_cons_succ, List.set_cons_zero, List.set_cons_succ, List.map_cons, List.map_nil, List.length_cons, List.length_nil, List.length_map, List.length_replicate, List.all_nil, List.all_cons, Option.isSome, Option.bind_some, Option.map_some, Option.getD_some, Option.bind_none, Option.map_none, Nat.reduceAdd, Nat.zero_add, beq_self_eq_true, Bool.and_true, Bool.true_and, Bool.false_eq_true, reduceIte, reduceCtorEq, if_true, if_false, Bool.not_true, Bool.not_false, decide_true, decide_false, g4, e1, rg_ok (show n ≤ 16777216 by omega), rg_n, List.length_range, fn, e2, e3, l2, tr, po, hix', rb1', pll, of2, ge, re, f0, e11, z1, g1, g2, ix0, f1, cu, fr, enumP_map, List.length_zipIdx, oth', rb2', tr2, rr, rz]
    · have z1 : decide ((n : Int) = 1) = false := decide_eq_false (by omega)
      simp -implicitDefEqProofs only [m__law_tree_right, b__law_tree_right, semDef_ap, sSeq_ap, sSet_ap, sRet_ap, sIf_ap, sExpr_ap, sNil_ap, sNever_ap, sAug_ap, sPar_ap, sAsgT_ap, sStore_ap, sAugStore_ap, sFor_ap, sForO_ap, sWhile_ap, turn_ap, gNm_ap, gsNil_ap, gsCons_ap, gTp_ap, eVar_ap, eMove_ap, eC_ap, eBin_ap, eUn_ap, tOf_ap, tvAnd_ap, tvOr_ap, tvNot_ap, eAnd_ap, eOr_ap, eNot_ap, eIf_ap, eChain_ap, aNil_ap, aCons_ap, aStar_ap, eTup_ap, eLst_ap, eCall_ap, eCallL_ap, lNil_ap, lSh_ap, lLe_ap, lstAt_ap, eOwn2_ap, eSl_ap, pNo_ap, pSome_ap, eLstRg1_ap, eTupRg1_ap, eApp_ap, eExtend_ap, iOf_ap, iEnum_ap, iZip2_ap, iRng1_ap, eLc_ap, keep_nil, keep_zero, opI, opIc, opB, opAdd, opLen, opNeg, opMax, opMin, opAbs, opInt, opIx, opIsNotN, opIsN, isNon, opTuple, opList, opRev, opSl, opSlL, isi_int, isi_boolint, isi_tuple, items?, opEq_int, opNe_int, setAll, forgetAll, wipeE, backE, lentAt, fill, List.cons_append, List.nil_append, List.append_nil, List.replicate_succ, List.replicate_zero, List.getElem?_cons_zero, List.getElem?_cons_succ, List.set_cons_zero, List.set_cons_succ, List.map_cons, List.map_nil, List.length_cons, List.length_nil, List.length_map, List.length_replicate, List.all_nil, List.all_cons, Option.isSome, Option.bind_some, Option.map_some, Option.getD_some, Option.bind_none, Option.map_none, Nat.reduceAdd, Nat.zero_add, beq_self_eq_true, Bool.and_true, Bool.true_and, Bool.false_eq_true, reduceIte, reduceCtorEq, if_true, if_false, Bool.not_true, Bool.not_false, decide_true, decide_false, g4, e1, rg_ok (show n ≤ 16777216 by omega), rg_n, List.length_range, fn, e2, e3, l2, tr, po, hix', rb1', pll, of2, ge, re, f0, e11, z1, ix0, f1, cu, fr, enumP_map, List.length_zipIdx, oth', rb2', tr2, rr, rz]
end Hd

namespace Hd
open PL PM
/-! ### all rows -/
def grow (ns : List Int) (l : List (List Int)) : List (List Int) := l.flatMap fun one => ns.map fun x => one ++ [x]
def pts (ns : List Int) : Nat → List (List Int)
  | 0 => [[]]
  | n + 1 => grow ns (pts ns n)
theorem grow_length (ns : List Int) (l : List (List Int)) : (grow ns l).length = l.length * ns.length := by
  induction l with
  | nil => simp [grow]
  | cons a l ih =>
    show ((ns.map fun x => a ++ [x]) ++ grow ns l).length = _
    rw [List.length_append, ih, List.length_map, List.length_cons, Nat.add_mul, Nat.one_mul, Nat.add_comm]
theorem pts_length (ns : List Int) : ∀ n, (pts ns n).length = ns.length ^ n
  | 0 => rfl
  | n + 1 => by
    show (grow ns (pts ns n)).length = _
    rw [grow_length, pts_length ns n, Nat.pow_succ]
theorem pts_row (p : Nat) : ∀ (n : Nat) (r : List Int), r ∈ pts ((List.range p).map fun (i : Nat) => (i : Int)) n → r.length = n ∧ Nums p r
  | 0, r, h => by
    have h : r ∈ [[]] := h
    rw [List.mem_singleton.mp h]
    exact ⟨rfl, fun x hx => absurd hx (by simp)⟩
  | n + 1, r, h => by
    obtain ⟨one, h1, h2⟩ := List.mem_flatMap.mp (show r ∈ grow _ (pts _ n) from h)
    obtain ⟨x, hx, rfl⟩ := List.mem_map.mp h2
    obtain ⟨i, hi, rfl⟩ := List.mem_map.mp hx
    have hi := List.mem_range.mp hi
    obtain ⟨l1, n1⟩ := pts_row p n one h1
    refine ⟨by simp [l1], fun y hy => ?_⟩
    rcases List.mem_append.mp hy with q | q
    · exact n1 y q
    · rw [List.mem_singleton.mp q]
      omega
theorem s_points (ns : List Int) (n : Nat) (hn : n ≤ 100) (hs : ∀ k, k ≤ n → ns.length ^ k ≤ 100000) (hl : ns.length ≤ 1000) : m__law_points [some (lI ns), some (.int n)] = some (lT (pts ns n), [none, none]) := by
  have f1 : fits 1 = true := by decide
  have f0 : fits 0 = true := by decide
  have lc : ∀ (a b c d : Option PV) (one : List Int), one.length ≤ 1000 → lcL (gNm 6) tYes' (eBin opAdd (eVar 5) (eTup (aCons (eVar 6) aNil))) [6] (ns.map .int) [a, b, c, d, none, some (tI one), none] = some ((ns.map fun x => one ++ [x]).map tI, [a, b, c, d, none, some (tI one), none]) := fun a b c d one ho => by
    rw [List.map_map]
    refine lcL_map fun x hx => ⟨[a, b, c, d, none, some (tI one), some (.int x)], [a, b, c, d, none, some (tI one), some (.int x)], by simp -implicitDefEqProofs only [semDef_ap, sSeq_ap, sSet_ap, sRet_ap, sIf_ap, sExpr_ap, sNil_ap, sNever_ap, sAug_ap, sPar_ap, sAsgT_ap, sStore_ap, sAugStore_ap, sFor_ap, sForO_ap, sWhile_ap, turn_ap, gNm_ap, gsNil_ap, gsCons_ap, gTp_ap, eVar_ap, eMove_ap, eC_ap, eBin_ap, eUn_ap, tOf_ap, tvAnd_ap, tvOr_ap, tvNot_ap, eAnd_ap, eOr_ap, eNot_ap, eIf_ap, eChain_ap, aNil_ap, aCons_ap, aStar_ap, eTup_ap, eLst_ap, eCall_ap, eCallL_ap, lNil_ap, lSh_ap, lLe_ap, lstAt_ap, eOwn2_ap, eSl_ap, pNo_ap, pSome_ap, eLstRg1_ap, eTupRg1_ap, eApp_ap, eExtend_ap, iOf_ap, iEnum_ap, iZip2_ap, iRng1_ap, eLc_ap, keep_nil, keep_zero, opI, opIc, opB, opAdd, opLen, opNeg, opMax, opMin, opAbs, opInt, opIx, opIsNotN, opIsN, isNon, opTuple, opList, opRev, opSl, opSlL, isi_int, isi_boolint, isi_tuple, items?, opEq_int, opNe_int, setAll, forgetAll, wipeE, backE, lentAt, fill, List.cons_append, List.nil_append, List.append_nil, List.replicate_succ, List.replicate_zero, List.getElem?_cons_zero, List.getElem?_cons_succ, List.set_cons_zero, List.set_cons_succ, List.map_cons, List.map_nil, List.length_cons, List.length_nil, List.length_map, List.length_replicate, List.all_nil, List.all_cons, Option.isSome, Option.bind_some, Option.map_some, Option.getD_some, Option.bind_none, Option.map_none, Nat.reduceAdd, Nat.zero_add, beq_self_eq_true, Bool.and_true, Bool.true_and, Bool.false_eq_true, reduceIte, reduceCtorEq, if_true, if_false, Bool.not_true, Bool.not_false, decide_true, decide_false], ?_, by simp -implicitDefEqProofs only [semDef_ap, sSeq_ap, sSet_ap, sRet_ap, sIf_ap, sExpr_ap, sNil_ap, sNever_ap, sAug_ap, sPar_ap, sAsgT_ap, sStore_ap, sAugStore_ap, sFor_ap, sForO_ap, sWhile_ap, turn_ap, gNm_ap, gsNil_ap, gsCons_ap, gTp_ap, eVar_ap, eMove_ap, eC_ap, eBin_ap, eUn_ap, tOf_ap, tvAnd_ap, tvOr_ap, tvNot_ap, eAnd_ap, eOr_ap, eNot_ap, eIf_ap, eChain_ap, aNil_ap, aCons_ap, aStar_ap, eTup_ap, eLst_ap, eCall_ap, eCallL_ap, lNil_ap, lSh_ap, lLe_ap, lstAt_ap, eOwn2_ap, eSl_ap, pNo_ap, pSome_ap, eLstRg1_ap, eTupRg1_ap, eApp_ap, eExtend_ap, iOf_ap, iEnum_ap, iZip2_ap, iRng1_ap, eLc_ap, keep_nil, keep_zero, opI, opIc, opB, opAdd, opLen, opNeg, opMax, opMin, opAbs, opInt, opIx, opIsNotN, opIsN, isNon, opTuple, opList, opRev, opSl, opSlL, isi_int, isi_boolint, isi_tuple, items?, opEq_int, opNe_int, setAll, forgetAll, wipeE, backE, lentAt, fill, List.cons_append, List.nil_append, List.append_nil, List.replicate_succ, List.replicate_zero, List.getElem?_cons_zero, List.getElem?_cons_succ, List.set_cons_zero, List.set_cons_succ, List.map_cons, List.map_nil, List.length_cons, List.length_nil, List.length_map, List.length_replicate, List.all_nil, List.all_cons, Option.isSome, Option.bind_some, Option.map_some, Option.getD_some, Option.bind_none, Option.map_none, Nat.reduceAdd, Nat.zero_add, beq_self_eq_true, Bool.and_true, Bool.true_and, Bool.false_eq_true, reduceIte, reduceCtorEq, if_true, if_false, Bool.not_true, Bool.not_false, decide_true, decide_false]⟩
    have e : one.map PV.int ++ [PV.int x] = (one ++ [x]).map .int := by simp
    simp -implicitDefEqProofs only [semDef_ap, sSeq_ap, sSet_ap, sRet_ap, sIf_ap, sExpr_ap, sNil_ap, sNever_ap, sAug_ap, sPar_ap, sAsgT_ap, sStore_ap, sAugStore_ap, sFor_ap, sForO_ap, sWhile_ap, turn_ap, gNm_ap, gsNil_ap, gsCons_ap, gTp_ap, eVar_ap, eMove_ap, eC_ap, eBin_ap, eUn_ap, tOf_ap, tvAnd_ap, tvOr_ap, tvNot_ap, eAnd_ap, eOr_ap, eNot_ap, eIf_ap, eChain_ap, aNil_ap, aCons_ap, aStar_ap, eTup_ap, eLst_ap, eCall_ap, eCallL_ap, lNil_ap, lSh_ap, lLe_ap, lstAt_ap, eOwn2_ap, eSl_ap, pNo_ap, pSome_ap, eLstRg1_ap, eTupRg1_ap, eApp_ap, eExtend_ap, iOf_ap, iEnum_ap, iZip2_ap, iRng1_ap, eLc_ap, keep_nil, keep_zero, opI, opIc, opB, opAdd, opLen, opNeg, opMax, opMin, opAbs, opInt, opIx, opIsNotN, opIsN, isNon, opTuple, opList, opRev, opSl, opSlL, isi_int, isi_boolint, isi_tuple, items?, opEq_int, opNe_int, setAll, forgetAll, wipeE, backE, lentAt, fill, List.cons_append, List.nil_append, List.append_nil, List.replicate_succ, List.replicate_zero, List.getElem?_cons_zero, List.getElem?_cons_succ, List.set_cons_zero, List.set_cons_succ, List.map_cons, List.map_nil, List.length_cons, List.length_nil, List.length_map, List.length_replicate, List.all_nil, List.all_cons, Option.isSome, Option.bind_some, Option.map_some, Option.getD_some, Option.bind_none, Option.map_none, Nat.reduceAdd, Nat.zero_add, beq_self_eq_true, Bool.and_true, Bool.true_and, Bool.false_eq_true, reduceIte, reduceCtorEq, if_true, if_false, Bool.not_true, Bool.not_false, decide_true, decide_false, f1, fits_of (show one.length + 1 ≤ 16777216 by omega), e]
    rfl
  have lc : ∀ (a b c d z : Option PV) (one : List Int), one.length ≤ 1000 → lcL (gNm 6) tYes' (eBin opAdd (eVar 5) (eTup (aCons (eVar 6) aNil))) [6] (ns.map .int) [a, b, c, d, z, some (tI one), none] = some ((ns.map fun x => one ++ [x]).map tI, [a, b, c, d, z, some (tI one), none]) := fun a b c d z one ho => by
    rw [List.map_map]
    refine lcL_map fun x hx => ⟨[a, b, c, d, z, some (tI one), some (.int x)], [a, b, c, d, z, some (tI one), some (.int x)], by simp -implicitDefEqProofs only [semDef_ap, sSeq_ap, sSet_ap, sRet_ap, sIf_ap, sExpr_ap, sNil_ap, sNever_ap, sAug_ap, sPar_ap, sAsgT_ap, sStore_ap, sAugStore_ap, sFor_ap, sForO_ap, sWhile_ap, turn_ap, gNm_ap, gsNil_ap, gsCons_ap, gTp_ap, eVar_ap, eMove_ap, eC_ap, eBin_ap, eUn_ap, tOf_ap, tvAnd_ap, tvOr_ap, tvNot_ap, eAnd_ap, eOr_ap, eNot_ap, eIf_ap, eChain_ap, aNil_ap, aCons_ap, aStar_ap, eTup_ap, eLst_ap, eCall_ap, eCallL_ap, lNil_ap, lSh_ap, lLe_ap, lstAt_ap, eOwn2_ap, eSl_ap, pNo_ap, pSome_ap, eLstRg1_ap, eTupRg1_ap, eApp_ap, eExtend_ap, iOf_ap, iEnum_ap, iZip2_ap, iRng1_ap, eLc_ap, keep_nil, keep_zero, opI, opIc, opB, opAdd, opLen, opNeg, opMax, opMin, opAbs, opInt, opIx, opIsNotN, opIsN, isNon, opTuple, opList, opRev, opSl, opSlL, isi_int, isi_boolint, isi_tuple, items?, opEq_int, opNe_int, setAll, forgetAll, wipeE, backE, lentAt, fill, List.cons_append, List.nil_append, List.append_nil, List.replicate_succ, List.replicate_zero, List.getElem?_cons_zero, List.getElem?_cons_succ, List.set_cons_zero, List.set_cons_succ, List.map_cons, List.map_nil, List.length_cons, List.length_nil, List.length_map, List.length_replicate, List.all_nil, List.all_cons, Option.isSome, Option.bind_some, Option.map_some, Option.getD_some, Option.bind_none, Option.map_none, Nat.reduceAdd, Nat.zero_add, beq_self_eq_true, Bool.and_true, Bool.true_and, Bool.false_eq_true, reduceIte, reduceCtorEq, if_true, if_false, Bool.not_true, Bool.not_false, decide_true, decide_false], ?_, by simp -implicitDefEqProofs only [semDef_ap, sSeq_ap, sSet_ap, sRet_ap, sIf_ap, sExpr_ap, sNil_ap, sNever_ap, sAug_ap, sPar_ap, sAsgT_ap, sStore_ap, sAugStore_ap, sFor_ap, sForO_ap, sWhile_ap, turn_ap, gNm_ap, gsNil_ap, gsCons_ap, gTp_ap, eVar_ap, eMove_ap, eC_ap, eBin_ap, eUn_ap, tOf_ap, tvAnd_ap, tvOr_ap, tvNot_ap, eAnd_ap, eOr_ap, eNot_ap, eIf_ap, eChain_ap, aNil_ap, aCons_ap, aStar_ap, eTup_ap, eLst_ap, eCall_ap, eCallL_ap, lNil_ap, lSh_ap, lLe_ap, lstAt_ap, eOwn2_ap, eSl_ap, pNo_ap, pSome_ap, eLstRg1_ap, eTupRg1_ap, eApp_ap, eExtend_ap, iOf_ap, iEnum_ap, iZip2_ap, iRng1_ap, eLc_ap, keep_nil, keep_zero, opI, opIc, opB, opAdd, opLen, opNeg, opMax, opMin, opAbs, opInt, opIx, opIsNotN, opIsN, isNon, opTuple, opList, opRev, opSl, opSlL, isi_int, isi_boolint, isi_tuple, items?, opEq_int, opNe_int, setAll, forgetAll, wipeE, backE, lentAt, fill, List.cons_append, List.nil_append, List.append_nil, List.replicate_succ, List.replicate_zero, List.getElem?_cons_zero, List.getElem?_cons_succ, List.set_cons_zero, List.set_cons_succ, List.map_cons, List.map_nil, List.length_cons, List.length_nil, List.length_map, List.length_replicate, List.all_nil, List.all_cons, Option.isSome, Option.bind_some, Option.map_some, Option.getD_some, Option.bind_none, Option.map_none, Nat.reduceAdd, Nat.zero_add, beq_self_eq_true, Bool.and_true, Bool.true_and, Bool.false_eq_true, reduceIte, reduceCtorEq, if_true, if_false, Bool.not_true, Bool.not_false, decide_true, decide_false]⟩
    have e : one.map PV.int ++ [PV.int x] = (one ++ [x]).map .int := by simp
    simp -implicitDefEqProofs only [semDef_ap, sSeq_ap, sSet_ap, sRet_ap, sIf_ap, sExpr_ap, sNil_ap, sNever_ap, sAug_ap, sPar_ap, sAsgT_ap, sStore_ap, sAugStore_ap, sFor_ap, sForO_ap, sWhile_ap, turn_ap, gNm_ap, gsNil_ap, gsCons_ap, gTp_ap, eVar_ap, eMove_ap, eC_ap, eBin_ap, eUn_ap, tOf_ap, tvAnd_ap, tvOr_ap, tvNot_ap, eAnd_ap, eOr_ap, eNot_ap, eIf_ap, eChain_ap, aNil_ap, aCons_ap, aStar_ap, eTup_ap, eLst_ap, eCall_ap, eCallL_ap, lNil_ap, lSh_ap, lLe_ap, lstAt_ap, eOwn2_ap, eSl_ap, pNo_ap, pSome_ap, eLstRg1_ap, eTupRg1_ap, eApp_ap, eExtend_ap, iOf_ap, iEnum_ap, iZip2_ap, iRng1_ap, eLc_ap, keep_nil, keep_zero, opI, opIc, opB, opAdd, opLen, opNeg, opMax, opMin, opAbs, opInt, opIx, opIsNotN, opIsN, isNon, opTuple, opList, opRev, opSl, opSlL, isi_int, isi_boolint, isi_tuple, items?, opEq_int, opNe_int, setAll, forgetAll, wipeE, backE, lentAt, fill, List.cons_append, List.nil_append, List.append_nil, List.replicate_succ, List.replicate_zero, List.getElem?_cons_zero, List.getElem?_cons_succ, List.set_cons_zero, List.set_cons_succ, List.map_cons, List.map_nil, List.length_cons, List.length_nil, List.length_map, List.length_replicate, List.all_nil, List.all_cons, Option.isSome, Option.bind_some, Option.map_some, Option.getD_some, Option.bind_none, Option.map_none, Nat.reduceAdd, Nat.zero_add, beq_self_eq_true, Bool.and_true, Bool.true_and, Bool.false_eq_true, reduceIte, reduceCtorEq, if_true, if_false, Bool.not_true, Bool.not_false, decide_true, decide_false, f1, fits_of (show one.length + 1 ≤ 16777216 by omega), e]
    rfl
  have inner : ∀ (b c d : Option PV) (rest later : List (List Int)), (∀ r ∈ rest, r.length ≤ 1000) → later.length + rest.length * ns.length ≤ 1000000 → forL (turn (gNm 5) (sExpr (eExtend 4 (eLc (iOf (eVar 0)) (gNm 6) tYes' (eBin opAdd (eVar 5) (eTup (aCons (eVar 6) aNil))) [6]))) [5]) (rest.map tI) [some (lI ns), b, c, d, some (lT later), none, none]
      = some (.nx, [some (lI ns), b, c, d, some (lT (later ++ grow ns rest)), none, none]) := by
    intro b c d rest
    induction rest with
    | nil =>
      intro later _ _
      show some _ = some _
      rw [show grow ns [] = [] from rfl, List.append_nil]
    | cons r rest ih =>
      intro later hr hb
      simp only [List.length_cons, Nat.add_mul, Nat.one_mul] at hb
      have h1 := hr r List.mem_cons_self
      have e2 := ih (later ++ ns.map fun x => r ++ [x]) (fun q hq => hr q (List.mem_cons_of_mem _ hq)) (by rw [List.length_append, List.length_map]; omega)
      rw [List.map_cons]
      unfold forL
      have e1 : turn (gNm 5) (sExpr (eExtend 4 (eLc (iOf (eVar 0)) (gNm 6) tYes' (eBin opAdd (eVar 5) (eTup (aCons (eVar 6) aNil))) [6]))) [5] (tI r) [some (lI ns), b, c, d, some (lT later), none, none]
          = some (.nx, [some (lI ns), b, c, d, some (lT (later ++ ns.map fun x => r ++ [x])), none, none]) := by
        have ea : later.map tI ++ (ns.map fun x => r ++ [x]).map tI = (later ++ ns.map fun x => r ++ [x]).map tI := by rw [List.map_append]
        simp -implicitDefEqProofs only [semDef_ap, sSeq_ap, sSet_ap, sRet_ap, sIf_ap, sExpr_ap, sNil_ap, sNever_ap, sAug_ap, sPar_ap, sAsgT_ap, sStore_ap, sAugStore_ap, sFor_ap, sForO_ap, sWhile_ap, turn_ap, gNm_ap, gsNil_ap, gsCons_ap, gTp_ap, eVar_ap, eMove_ap, eC_ap, eBin_ap, eUn_ap, tOf_ap, tvAnd_ap, tvOr_ap, tvNot_ap, eAnd_ap, eOr_ap, eNot_ap, eIf_ap, eChain_ap, aNil_ap, aCons_ap, aStar_ap, eTup_ap, eLst_ap, eCall_ap, eCallL_ap, lNil_ap, lSh_ap, lLe_ap, lstAt_ap, eOwn2_ap, eSl_ap, pNo_ap, pSome_ap, eLstRg1_ap, eTupRg1_ap, eApp_ap, eExtend_ap, iOf_ap, iEnum_ap, iZip2_ap, iRng1_ap, eLc_ap, keep_nil, keep_zero, opI, opIc, opB, opAdd, opLen, opNeg, opMax, opMin, opAbs, opInt, opIx, opIsNotN, opIsN, isNon, opTuple, opList, opRev, opSl, opSlL, isi_int, isi_boolint, isi_tuple, items?, opEq_int, opNe_int, setAll, forgetAll, wipeE, backE, lentAt, fill, List.cons_append, List.nil_append, List.append_nil, List.replicate_succ, List.replicate_zero, List.getElem?_cons_zero, List.getElem?_cons_succ, List.set_cons_zero, List.set_cons_succ, List.map_cons, List.map_nil, List.length_cons, List.length_nil, List.length_map, List.length_replicate, List.all_nil, List.all_cons, Option.isSome, Option.bind_some, Option.map_some, Option.getD_some, Option.bind_none, Option.map_none, Nat.reduceAdd, Nat.zero_add, beq_self_eq_true, Bool.and_true, Bool.true_and, Bool.false_eq_true, reduceIte, reduceCtorEq, if_true, if_false, Bool.not_true, Bool.not_false, decide_true, decide_false, fits_of (show ns.length ≤ 16777216 by omega), lc _ _ _ _ _ r h1, fits_of (show later.length + ns.length ≤ 16777216 by omega), ea]
      rw [e1]
      show forL _ _ _ = _
      rw [e2, List.append_assoc]
      rfl
  have outer : ∀ (b : Option PV) (k m : Nat), k + m ≤ n → forL (turn (gNm 3) (sSeq (sSet 4 (eLst aNil))
    (sSeq (sFor (iOf (eVar 2)) (gNm 5) (sExpr (eExtend 4 (eLc (iOf (eVar 0)) (gNm 6) tYes' (eBin opAdd (eVar 5) (eTup (aCons (eVar 6) aNil))) [6]))) [5])
    (sSet 2 (eMove 4)))) [3, 4, 5]) ((List.range' k m).map fun (i : Nat) => PV.int (i : Int)) [some (lI ns), b, some (lT (pts ns k)), none, none, none, none]
      = some (.nx, [some (lI ns), b, some (lT (pts ns (k + m))), none, none, none, none]) := by
    intro b k m
    induction m generalizing k with
    | zero => intro _; rfl
    | succ m ih =>
      intro hkm
      rw [List.range'_succ, List.map_cons]
      unfold forL
      have hr : ∀ r ∈ pts ns k, r.length ≤ 1000 := fun r hr => by
        have : ∀ (k : Nat) (r : List Int), r ∈ pts ns k → r.length = k := fun k => by
          induction k with
          | zero =>
            intro r h
            have h : r ∈ [[]] := h
            rw [List.mem_singleton.mp h]
            rfl
          | succ k ih =>
            intro r h
            obtain ⟨one, h1, h2⟩ := List.mem_flatMap.mp (show r ∈ grow _ (pts _ k) from h)
            obtain ⟨x, hx, rfl⟩ := List.mem_map.mp h2
            simp [ih one h1]
        rw [this k r hr]
        omega
      have hb := hs (k + 1) (by omega)
      rw [Nat.pow_succ] at hb
      have inn := fun c d => inner b c d (pts ns k) [] hr (by rw [pts_length]; simp; omega)
      have inn' : ∀ c d, forL (turn (gNm 5) (sExpr (eExtend 4 (eLc (iOf (eVar 0)) (gNm 6) tYes' (eBin opAdd (eVar 5) (eTup (aCons (eVar 6) aNil))) [6]))) [5]) ((pts ns k).map tI) [some (lI ns), b, c, d, some (.lst []), none, none]
          = some (.nx, [some (lI ns), b, c, d, some (lT (grow ns (pts ns k))), none, none]) := inn
      have e1 : turn (gNm 3) (sSeq (sSet 4 (eLst aNil))
        (sSeq (sFor (iOf (eVar 2)) (gNm 5) (sExpr (eExtend 4 (eLc (iOf (eVar 0)) (gNm 6) tYes' (eBin opAdd (eVar 5) (eTup (aCons (eVar 6) aNil))) [6]))) [5])
        (sSet 2 (eMove 4)))) [3, 4, 5] (.int (k : Nat)) [some (lI ns), b, some (lT (pts ns k)), none, none, none, none] = some (.nx, [some (lI ns), b, some (lT (pts ns (k + 1))), none, none, none, none]) := by
        simp -implicitDefEqProofs only [semDef_ap, sSeq_ap, sSet_ap, sRet_ap, sIf_ap, sExpr_ap, sNil_ap, sNever_ap, sAug_ap, sPar_ap, sAsgT_ap, sStore_ap, sAugStore_ap, sFor_ap, sForO_ap, sWhile_ap, turn_ap, gNm_ap, gsNil_ap, gsCons_ap, gTp_ap, eVar_ap, eMove_ap, eC_ap, eBin_ap, eUn_ap, tOf_ap, tvAnd_ap, tvOr_ap, tvNot_ap, eAnd_ap, eOr_ap, eNot_ap, eIf_ap, eChain_ap, aNil_ap, aCons_ap, aStar_ap, eTup_ap, eLst_ap, eCall_ap, eCallL_ap, lNil_ap, lSh_ap, lLe_ap, lstAt_ap, eOwn2_ap, eSl_ap, pNo_ap, pSome_ap, eLstRg1_ap, eTupRg1_ap, eApp_ap, eExtend_ap, iOf_ap, iEnum_ap, iZip2_ap, iRng1_ap, eLc_ap, keep_nil, keep_zero, opI, opIc, opB, opAdd, opLen, opNeg, opMax, opMin, opAbs, opInt, opIx, opIsNotN, opIsN, isNon, opTuple, opList, opRev, opSl, opSlL, isi_int, isi_boolint, isi_tuple, items?, opEq_int, opNe_int, setAll, forgetAll, wipeE, backE, lentAt, fill, List.cons_append, List.nil_append, List.append_nil, List.replicate_succ, List.replicate_zero, List.getElem?_cons_zero, List.getElem?_cons_succ, List.set_cons_zero, List.set_cons_succ, List.map_cons, List.map_nil, List.length_cons, List.length_nil, List.length_map, List.length_replicate, List.all_nil, List.all_cons, Option.isSome, Option.bind_some, Option.map_some, Option.getD_some, Option.bind_none, Option.map_none, Nat.reduceAdd, Nat.zero_add, beq_self_eq_true, Bool.and_true, Bool.true_and, Bool.false_eq_true, reduceIte, reduceCtorEq, if_true, if_false, Bool.not_true, Bool.not_false, decide_true, decide_false, f0, inn', pts]
      rw [e1]
      have := ih (k + 1) (by omega)
      rw [show k + 1 + m = k + (m + 1) from by omega] at this
      exact this
  have o := outer (some (.int n)) 0 n (by omega)
  rw [Nat.zero_add, ← List.range_eq_range'] at o
  have o' : forL (turn (gNm 3) (sSeq (sSet 4 (eLst aNil))
    (sSeq (sFor (iOf (eVar 2)) (gNm 5) (sExpr (eExtend 4 (eLc (iOf (eVar 0)) (gNm 6) tYes' (eBin opAdd (eVar 5) (eTup (aCons (eVar 6) aNil))) [6]))) [5])
    (sSet 2 (eMove 4)))) [3, 4, 5]) ((List.range n).map fun (i : Nat) => PV.int (i : Int)) [some (lI ns), some (.int n), some (.lst [.tup []]), none, none, none, none]
      = some (.nx, [some (lI ns), some (.int n), some (lT (pts ns n)), none, none, none, none]) := o
  simp -implicitDefEqProofs only [m__law_points, b__law_points, semDef_ap, sSeq_ap, sSet_ap, sRet_ap, sIf_ap, sExpr_ap, sNil_ap, sNever_ap, sAug_ap, sPar_ap, sAsgT_ap, sStore_ap, sAugStore_ap, sFor_ap, sForO_ap, sWhile_ap, turn_ap, gNm_ap, gsNil_ap, gsCons_ap, gTp_ap, eVar_ap, eMove_ap, eC_ap, eBin_ap, eUn_ap, tOf_ap, tvAnd_ap, tvOr_ap, tvNot_ap, eAnd_ap, eOr_ap, eNot_ap, eIf_ap, eChain_ap, aNil_ap, aCons_ap, aStar_ap, eTup_ap, eLst_ap, eCall_ap, eCallL_ap, lNil_ap, lSh_ap, lLe_ap, lstAt_ap, eOwn2_ap, eSl_ap, pNo_ap, pSome_ap, eLstRg1_ap, eTupRg1_ap, eApp_ap, eExtend_ap, iOf_ap, iEnum_ap, iZip2_ap, iRng1_ap, eLc_ap, keep_nil, keep_zero, opI, opIc, opB, opAdd, opLen, opNeg, opMax, opMin, opAbs, opInt, opIx, opIsNotN, opIsN, isNon, opTuple, opList, opRev, opSl, opSlL, isi_int, isi_boolint, isi_tuple, items?, opEq_int, opNe_int, setAll, forgetAll, wipeE, backE, lentAt, fill, List.cons_append, List.nil_append, List.append_nil, List.replicate_succ, List.replicate_zero, List.getElem?_cons_zero, List.getElem?_cons_succ, List.set_cons_zero, List.set_cons_succ, List.map_cons, List.map_nil, List.length_cons, List.length_nil, List.length_map, List.length_replicate, List.all_nil, List.all_cons, Option.isSome, Option.bind_some, Option.map_some, Option.getD_some, Option.bind_none, Option.map_none, Nat.reduceAdd, Nat.zero_add, beq_self_eq_true, Bool.and_true, Bool.true_and, Bool.false_eq_true, reduceIte, reduceCtorEq, if_true, if_false, Bool.not_true, Bool.not_false, decide_true, decide_false, f0, f1, rg_ok (show n ≤ 16777216 by omega), rg_n, o']
/-! ### how many -/
def chF (n : Int) (k : Nat) : Int := (List.range k).foldl (fun (a : Int) (i : Nat) => a * (n - i) / ((i : Int) + 1)) 1
theorem s_choose (n : Int) (k : Nat) (h0 : -1000000 < n) (h1 : n < 1000000) (hk : k ≤ 1000) : m__law_choose [some (.int n), some (.int k)] = some (.int (chF n k), [none, none]) := by
  have lp := (forL_fold (f := turn (gNm 3) (sSet 2 (eBin opDiv (eBin opMul (eVar 2) (eBin opSub (eVar 0) (eVar 3))) (eBin opAdd (eVar 3) (eC (.int 1))))) [3]) (enc := fun (i : Nat) => PV.int (i : Int)) (emb := fun a : Int => [some (.int n), some (.int k), some (.int a), none])
    (step := fun (a : Int) (i : Nat) => a * (n - i) / ((i : Int) + 1)) (fun _ => True) (xs := List.range k) (s := 1) (fun a i _ hi => ⟨by
      have hi := List.mem_range.mp hi
      have m1 : mulOk a (n - (i : Int)) = true := mulOk_right (by omega) (by omega)
      have d1 : divOk ((i : Int) + 1) = true := divOk_of (by omega) (by omega)
      simp -implicitDefEqProofs only [semDef_ap, sSeq_ap, sSet_ap, sRet_ap, sIf_ap, sExpr_ap, sNil_ap, sNever_ap, sAug_ap, sPar_ap, sAsgT_ap, sStore_ap, sAugStore_ap, sFor_ap, sForO_ap, sWhile_ap, turn_ap, gNm_ap, gsNil_ap, gsCons_ap, gTp_ap, eVar_ap, eMove_ap, eC_ap, eBin_ap, eUn_ap, tOf_ap, tvAnd_ap, tvOr_ap, tvNot_ap, eAnd_ap, eOr_ap, eNot_ap, eIf_ap, eChain_ap, aNil_ap, aCons_ap, aStar_ap, eTup_ap, eLst_ap, eCall_ap, eCallL_ap, lNil_ap, lSh_ap, lLe_ap, lstAt_ap, eOwn2_ap, eSl_ap, pNo_ap, pSome_ap, eLstRg1_ap, eTupRg1_ap, eApp_ap, eExtend_ap, iOf_ap, iEnum_ap, iZip2_ap, iRng1_ap, eLc_ap, keep_nil, keep_zero, opI, opIc, opB, opAdd, opLen, opNeg, opMax, opMin, opAbs, opInt, opIx, opIsNotN, opIsN, isNon, opTuple, opList, opRev, opSl, opSlL, isi_int, isi_boolint, isi_tuple, items?, opEq_int, opNe_int, setAll, forgetAll, wipeE, backE, lentAt, fill, List.cons_append, List.nil_append, List.append_nil, List.replicate_succ, List.replicate_zero, List.getElem?_cons_zero, List.getElem?_cons_succ, List.set_cons_zero, List.set_cons_succ, List.map_cons, List.map_nil, List.length_cons, List.length_nil, List.length_map, List.length_replicate, List.all_nil, List.all_cons, Option.isSome, Option.bind_some, Option.map_some, Option.getD_some, Option.bind_none, Option.map_none, Nat.reduceAdd, Nat.zero_add, beq_self_eq_true, Bool.and_true, Bool.true_and, Bool.false_eq_true, reduceIte, reduceCtorEq, if_true, if_false, Bool.not_true, Bool.not_false, decide_true, decide_false, m1, d1], trivial⟩) trivial).1
  simp -implicitDefEqProofs only [m__law_choose, b__law_choose, semDef_ap, sSeq_ap, sSet_ap, sRet_ap, sIf_ap, sExpr_ap, sNil_ap, sNever_ap, sAug_ap, sPar_ap, sAsgT_ap, sStore_ap, sAugStore_ap, sFor_ap, sForO_ap, sWhile_ap, turn_ap, gNm_ap, gsNil_ap, gsCons_ap, gTp_ap, eVar_ap, eMove_ap, eC_ap, eBin_ap, eUn_ap, tOf_ap, tvAnd_ap, tvOr_ap, tvNot_ap, eAnd_ap, eOr_ap, eNot_ap, eIf_ap, eChain_ap, aNil_ap, aCons_ap, aStar_ap, eTup_ap, eLst_ap, eCall_ap, eCallL_ap, lNil_ap, lSh_ap, lLe_ap, lstAt_ap, eOwn2_ap, eSl_ap, pNo_ap, pSome_ap, eLstRg1_ap, eTupRg1_ap, eApp_ap, eExtend_ap, iOf_ap, iEnum_ap, iZip2_ap, iRng1_ap, eLc_ap, keep_nil, keep_zero, opI, opIc, opB, opAdd, opLen, opNeg, opMax, opMin, opAbs, opInt, opIx, opIsNotN, opIsN, isNon, opTuple, opList, opRev, opSl, opSlL, isi_int, isi_boolint, isi_tuple, items?, opEq_int, opNe_int, setAll, forgetAll, wipeE, backE, lentAt, fill, List.cons_append, List.nil_append, List.append_nil, List.replicate_succ, List.replicate_zero, List.getElem?_cons_zero, List.getElem?_cons_succ, List.set_cons_zero, List.set_cons_succ, List.map_cons, List.map_nil, List.length_cons, List.length_nil, List.length_map, List.length_replicate, List.all_nil, List.all_cons, Option.isSome, Option.bind_some, Option.map_some, Option.getD_some, Option.bind_none, Option.map_none, Nat.reduceAdd, Nat.zero_add, beq_self_eq_true, Bool.and_true, Bool.true_and, Bool.false_eq_true, reduceIte, reduceCtorEq, if_true, if_false, Bool.not_true, Bool.not_false, decide_true, decide_false, rg_ok (show k ≤ 16777216 by omega), rg_n, lp, chF]
/-- d at most far, far at most 13, p at most 13 -/
def kcF (p far w d : Nat) : Int := if d = 0 then 1 else chF far d * (List.range (d + w - far)).foldl (fun (f : Int) (j : Nat) => f + (if j % 2 = 0 then chF d j * ((p : Int) ^ (d + w - far - j) - 1) else 0 - chF d j * ((p : Int) ^ (d + w - far - j) - 1))) 0
theorem ch_small : ∀ far, far ≤ 13 → ∀ d, d ≤ 13 → -1000000 < chF (far : Nat) d ∧ chF (far : Nat) d < 1000000 := by decide +kernel

def kstep (p far w d : Nat) (f : Int) (j : Nat) : Int := f + (if j % 2 = 0 then chF d j * ((p : Int) ^ (d + w - far - j) - 1) else 0 - chF d j * ((p : Int) ^ (d + w - far - j) - 1))
theorem seq_step {x1 x2 : EvS} {ρ ρ1 : Env} {z : Option (Fl × Env)} (h1 : x1 ρ = some (.nx, ρ1)) (h2 : x2 ρ1 = z) : sSeq x1 x2 ρ = z := by
  rw [sSeq_ap, h1]
  exact h2
theorem turn_step {eg : EvG} {x : EvS} {fg : List Nat} {v : PV} {ρ ρ1 ρ2 : Env} (h1 : eg v ρ = some ρ1) (h2 : x ρ1 = some (.nx, ρ2)) : turn eg x fg v ρ = some (.nx, forgetAll fg ρ2) := by
  rw [turn_ap, h1, Option.bind_some, h2]
theorem q1 (p far w d j : Nat) (a : Int) (k : Nat) (C pw : Int) (L : Int) (e1 : m__law_choose [some (.int d), some (.int j)] = some (.int C, [none, none])) (ex : (d : Int) - L + 1 - (j : Int) = (k : Int)) (e2 : m__law_often [some (.int p), some (.int k)] = some (.int pw, [none, none])) (m1 : mulOk C (pw - 1) = true) : sSet 7 (eBin opMul (eCall 2 m__law_choose (aCons (eVar 3) (aCons (eVar 6) aNil))) (eBin opSub (eCall 2 m__law_often (aCons (eVar 0) (aCons (eBin opSub (eBin opAdd (eBin opSub (eVar 3) (eVar 4)) (eC (.int 1))) (eVar 6)) aNil))) (eC (.int 1)))) [some (.int p), some (.int far), some (.int w), some (.int d), some (.int L), some (.int a), some (.int j), none]
    = some (.nx, [some (.int p), some (.int far), some (.int w), some (.int d), some (.int L), some (.int a), some (.int j), some (.int (C * (pw - 1)))]) := by
  simp -implicitDefEqProofs only [semDef_ap, sSeq_ap, sSet_ap, sRet_ap, sIf_ap, sExpr_ap, sNil_ap, sNever_ap, sAug_ap, sPar_ap, sAsgT_ap, sStore_ap, sAugStore_ap, sFor_ap, sForO_ap, sWhile_ap, turn_ap, gNm_ap, gsNil_ap, gsCons_ap, gTp_ap, eVar_ap, eMove_ap, eC_ap, eBin_ap, eUn_ap, tOf_ap, tvAnd_ap, tvOr_ap, tvNot_ap, eAnd_ap, eOr_ap, eNot_ap, eIf_ap, eChain_ap, aNil_ap, aCons_ap, aStar_ap, eTup_ap, eLst_ap, eCall_ap, eCallL_ap, lNil_ap, lSh_ap, lLe_ap, lstAt_ap, eOwn2_ap, eSl_ap, pNo_ap, pSome_ap, eLstRg1_ap, eTupRg1_ap, eApp_ap, eExtend_ap, iOf_ap, iEnum_ap, iZip2_ap, iRng1_ap, eLc_ap, keep_nil, keep_zero, opI, opIc, opB, opAdd, opLen, opNeg, opMax, opMin, opAbs, opInt, opIx, opIsNotN, opIsN, isNon, opTuple, opList, opRev, opSl, opSlL, isi_int, isi_boolint, isi_tuple, items?, opEq_int, opNe_int, setAll, forgetAll, wipeE, backE, lentAt, fill, List.cons_append, List.nil_append, List.append_nil, List.replicate_succ, List.replicate_zero, List.getElem?_cons_zero, List.getElem?_cons_succ, List.set_cons_zero, List.set_cons_succ, List.map_cons, List.map_nil, List.length_cons, List.length_nil, List.length_map, List.length_replicate, List.all_nil, List.all_cons, Option.isSome, Option.bind_some, Option.map_some, Option.getD_some, Option.bind_none, Option.map_none, Nat.reduceAdd, Nat.zero_add, beq_self_eq_true, Bool.and_true, Bool.true_and, Bool.false_eq_true, reduceIte, reduceCtorEq, if_true, if_false, Bool.not_true, Bool.not_false, decide_true, decide_false, e1, ex, e2, m1]
theorem q2 (p far w d j : Nat) (a : Int) (Z : Int) (L : Int) (md : decide ((0 : Int) < 2) = true) : sSet 5 (eBin opAdd (eVar 5) (eIf (tOf (eBin opEq (eBin opMod (eUn opInt (eVar 6)) (eC (.int 2))) (eC (.int 0)))) (eVar 7) (eBin opSub (eC (.int 0)) (eVar 7)))) [some (.int p), some (.int far), some (.int w), some (.int d), some (.int L), some (.int a), some (.int j), some (.int Z)]
    = some (.nx, [some (.int p), some (.int far), some (.int w), some (.int d), some (.int L), some (.int (a + if j % 2 = 0 then Z else 0 - Z)), some (.int j), some (.int Z)]) := by
  by_cases q : j % 2 = 0
  · have hq : decide ((j : Int) % 2 = 0) = true := decide_eq_true (by omega)
    rw [if_pos q]
    simp -implicitDefEqProofs only [semDef_ap, sSeq_ap, sSet_ap, sRet_ap, sIf_ap, sExpr_ap, sNil_ap, sNever_ap, sAug_ap, sPar_ap, sAsgT_ap, sStore_ap, sAugStore_ap, sFor_ap, sForO_ap, sWhile_ap, turn_ap, gNm_ap, gsNil_ap, gsCons_ap, gTp_ap, eVar_ap, eMove_ap, eC_ap, eBin_ap, eUn_ap, tOf_ap, tvAnd_ap, tvOr_ap, tvNot_ap, eAnd_ap, eOr_ap, eNot_ap, eIf_ap, eChain_ap, aNil_ap, aCons_ap, aStar_ap, eTup_ap, eLst_ap, eCall_ap, eCallL_ap, lNil_ap, lSh_ap, lLe_ap, lstAt_ap, eOwn2_ap, eSl_ap, pNo_ap, pSome_ap, eLstRg1_ap, eTupRg1_ap, eApp_ap, eExtend_ap, iOf_ap, iEnum_ap, iZip2_ap, iRng1_ap, eLc_ap, keep_nil, keep_zero, opI, opIc, opB, opAdd, opLen, opNeg, opMax, opMin, opAbs, opInt, opIx, opIsNotN, opIsN, isNon, opTuple, opList, opRev, opSl, opSlL, isi_int, isi_boolint, isi_tuple, items?, opEq_int, opNe_int, setAll, forgetAll, wipeE, backE, lentAt, fill, List.cons_append, List.nil_append, List.append_nil, List.replicate_succ, List.replicate_zero, List.getElem?_cons_zero, List.getElem?_cons_succ, List.set_cons_zero, List.set_cons_succ, List.map_cons, List.map_nil, List.length_cons, List.length_nil, List.length_map, List.length_replicate, List.all_nil, List.all_cons, Option.isSome, Option.bind_some, Option.map_some, Option.getD_some, Option.bind_none, Option.map_none, Nat.reduceAdd, Nat.zero_add, beq_self_eq_true, Bool.and_true, Bool.true_and, Bool.false_eq_true, reduceIte, reduceCtorEq, if_true, if_false, Bool.not_true, Bool.not_false, decide_true, decide_false, hq, md]
  · have hq : decide ((j : Int) % 2 = 0) = false := decide_eq_false (by omega)
    rw [if_neg q]
    simp -implicitDefEqProofs only [semDef_ap, sSeq_ap, sSet_ap, sRet_ap, sIf_ap, sExpr_ap, sNil_ap, sNever_ap, sAug_ap, sPar_ap, sAsgT_ap, sStore_ap, sAugStore_ap, sFor_ap, sForO_ap, sWhile_ap, turn_ap, gNm_ap, gsNil_ap, gsCons_ap, gTp_ap, eVar_ap, eMove_ap, eC_ap, eBin_ap, eUn_ap, tOf_ap, tvAnd_ap, tvOr_ap, tvNot_ap, eAnd_ap, eOr_ap, eNot_ap, eIf_ap, eChain_ap, aNil_ap, aCons_ap, aStar_ap, eTup_ap, eLst_ap, eCall_ap, eCallL_ap, lNil_ap, lSh_ap, lLe_ap, lstAt_ap, eOwn2_ap, eSl_ap, pNo_ap, pSome_ap, eLstRg1_ap, eTupRg1_ap, eApp_ap, eExtend_ap, iOf_ap, iEnum_ap, iZip2_ap, iRng1_ap, eLc_ap, keep_nil, keep_zero, opI, opIc, opB, opAdd, opLen, opNeg, opMax, opMin, opAbs, opInt, opIx, opIsNotN, opIsN, isNon, opTuple, opList, opRev, opSl, opSlL, isi_int, isi_boolint, isi_tuple, items?, opEq_int, opNe_int, setAll, forgetAll, wipeE, backE, lentAt, fill, List.cons_append, List.nil_append, List.append_nil, List.replicate_succ, List.replicate_zero, List.getElem?_cons_zero, List.getElem?_cons_succ, List.set_cons_zero, List.set_cons_succ, List.map_cons, List.map_nil, List.length_cons, List.length_nil, List.length_map, List.length_replicate, List.all_nil, List.all_cons, Option.isSome, Option.bind_some, Option.map_some, Option.getD_some, Option.bind_none, Option.map_none, Nat.reduceAdd, Nat.zero_add, beq_self_eq_true, Bool.and_true, Bool.true_and, Bool.false_eq_true, reduceIte, reduceCtorEq, if_true, if_false, Bool.not_true, Bool.not_false, decide_true, decide_false, hq, md]
theorem k_bound (p k : Nat) (hp : p ≤ 13) (hk : k ≤ 3) : (0 : Int) ≤ (p : Int) ^ k ∧ (p : Int) ^ k ≤ 2197 := by
  have q1 : p ^ k ≤ 13 ^ k := Nat.pow_le_pow_left hp _
  have q2 : 13 ^ k ≤ 13 ^ 3 := Nat.pow_le_pow_right (by decide) hk
  have q3 : (13 : Nat) ^ 3 = 2197 := by decide
  rw [← Int.natCast_pow]
  omega
theorem k_step (p far w d j : Nat) (a : Int) (hp : p ≤ 13) (hf : far ≤ 13) (hd : d ≤ far) (hw1 : 1 ≤ w) (hw : w ≤ 3) (hwf : w ≤ far) (hj : j < d + w - far) (L : Int) (hL : L = (far : Int) - (w : Int) + 1) : turn (gNm 6) (sSeq (sSet 7 (eBin opMul (eCall 2 m__law_choose (aCons (eVar 3) (aCons (eVar 6) aNil))) (eBin opSub (eCall 2 m__law_often (aCons (eVar 0) (aCons (eBin opSub (eBin opAdd (eBin opSub (eVar 3) (eVar 4)) (eC (.int 1))) (eVar 6)) aNil))) (eC (.int 1)))))
    (sSet 5 (eBin opAdd (eVar 5) (eIf (tOf (eBin opEq (eBin opMod (eUn opInt (eVar 6)) (eC (.int 2))) (eC (.int 0)))) (eVar 7) (eBin opSub (eC (.int 0)) (eVar 7)))))) [6, 7] (.int j) [some (.int p), some (.int far), some (.int w), some (.int d), some (.int L), some (.int a), none, none]
    = some (.nx, [some (.int p), some (.int far), some (.int w), some (.int d), some (.int L), some (.int (kstep p far w d a j)), none, none]) := by
  obtain ⟨k, hk⟩ : ∃ k : Nat, d + w - far - j = k := ⟨_, rfl⟩
  have e1 := s_choose d j (by omega) (by omega) (by omega)
  have e2 := s_often p k (by omega) (by omega) (by omega)
  have pb := k_bound p k hp (by omega)
  have s1 := q1 p far w d j a k _ _ L e1 (by omega) e2 (mulOk_right (by omega) (by omega))
  have s2 := q2 p far w d j a (chF d j * ((p : Int) ^ k - 1)) L rfl
  have ks : kstep p far w d a j = a + if j % 2 = 0 then chF d j * ((p : Int) ^ k - 1) else 0 - chF d j * ((p : Int) ^ k - 1) := by
    unfold kstep
    rw [hk]
  rw [ks]
  exact turn_step (ρ1 := [some (.int p), some (.int far), some (.int w), some (.int d), some (.int L), some (.int a), some (.int j), none]) rfl (seq_step s1 s2)
theorem s_known_count (p far w d : Nat) (hp : p ≤ 13) (hf : far ≤ 13) (hd : d ≤ far) (hw1 : 1 ≤ w) (hw : w ≤ 3) (hwf : w ≤ far) : m__law_known_count [some (.int p), some (.int far), some (.int w), some (.int d)] = some (.int (kcF p far w d), [none, none, none, none]) := by
  by_cases h0 : d = 0
  · have z : decide ((d : Int) = 0) = true := decide_eq_true (by omega)
    simp -implicitDefEqProofs only [m__law_known_count, b__law_known_count, semDef_ap, sSeq_ap, sSet_ap, sRet_ap, sIf_ap, sExpr_ap, sNil_ap, sNever_ap, sAug_ap, sPar_ap, sAsgT_ap, sStore_ap, sAugStore_ap, sFor_ap, sForO_ap, sWhile_ap, turn_ap, gNm_ap, gsNil_ap, gsCons_ap, gTp_ap, eVar_ap, eMove_ap, eC_ap, eBin_ap, eUn_ap, tOf_ap, tvAnd_ap, tvOr_ap, tvNot_ap, eAnd_ap, eOr_ap, eNot_ap, eIf_ap, eChain_ap, aNil_ap, aCons_ap, aStar_ap, eTup_ap, eLst_ap, eCall_ap, eCallL_ap, lNil_ap, lSh_ap, lLe_ap, lstAt_ap, eOwn2_ap, eSl_ap, pNo_ap, pSome_ap, eLstRg1_ap, eTupRg1_ap, eApp_ap, eExtend_ap, iOf_ap, iEnum_ap, iZip2_ap, iRng1_ap, eLc_ap, keep_nil, keep_zero, opI, opIc, opB, opAdd, opLen, opNeg, opMax, opMin, opAbs, opInt, opIx, opIsNotN, opIsN, isNon, opTuple, opList, opRev, opSl, opSlL, isi_int, isi_boolint, isi_tuple, items?, opEq_int, opNe_int, setAll, forgetAll, wipeE, backE, lentAt, fill, List.cons_append, List.nil_append, List.append_nil, List.replicate_succ, List.replicate_zero, List.getElem?_cons_zero, List.getElem?_cons_succ, List.set_cons_zero, List.set_cons_succ, List.map_cons, List.map_nil, List.length_cons, List.length_nil, List.length_map, List.length_replicate, List.all_nil, List.all_cons, Option.isSome, Option.bind_some, Option.map_some, Option.getD_some, Option.bind_none, Option.map_none, Nat.reduceAdd, Nat.zero_add, beq_self_eq_true, Bool.and_true, Bool.true_and, Bool.false_eq_true, reduceIte, reduceCtorEq, if_true, if_false, Bool.not_true, Bool.not_false, decide_true, decide_false, z, kcF, if_pos h0]
  · have z : decide ((d : Int) = 0) = false := decide_eq_false (by omega)
    generalize hL : (far : Int) - (w : Int) + 1 = L
    obtain ⟨K, hK⟩ : ∃ K : Nat, d + w - far = K := ⟨_, rfl⟩
    have hm : (if (d : Int) - L + 1 > 0 then (d : Int) - L + 1 else 0) = (K : Int) := by
      split <;> omega
    have lp := (forL_fold (enc := fun (i : Nat) => PV.int (i : Int)) (emb := fun a : Int => [some (.int p), some (.int far), some (.int w), some (.int d), some (.int L), some (.int a), none, none])
      (step := kstep p far w d) (fun _ => True) (xs := List.range K) (s := 0) (fun a j _ hj => ⟨k_step p far w d j a hp hf hd hw1 hw hwf (by have := List.mem_range.mp hj; omega) L hL.symm, trivial⟩) trivial).1
    have e3 := s_choose far d (by omega) (by omega) (by omega)
    have cb := ch_small far hf d (by omega)
    have m2 : ∀ z, mulOk (chF far d) z = true := fun z => mulOk_left (by omega) (by omega)
    have fin : kcF p far w d = chF far d * (List.range K).foldl (kstep p far w d) 0 := by
      unfold kcF
      rw [if_neg h0, hK]
      rw [← hK]
      rfl
    rw [fin]
    have hk : K ≤ 16777216 := by omega
    generalize (List.range K).foldl (kstep p far w d) 0 = F at *
    generalize chF (far : Int) d = C at *
    simp -implicitDefEqProofs only [m__law_known_count, b__law_known_count, semDef_ap, sSeq_ap, sSet_ap, sRet_ap, sIf_ap, sExpr_ap, sNil_ap, sNever_ap, sAug_ap, sPar_ap, sAsgT_ap, sStore_ap, sAugStore_ap, sFor_ap, sForO_ap, sWhile_ap, turn_ap, gNm_ap, gsNil_ap, gsCons_ap, gTp_ap, eVar_ap, eMove_ap, eC_ap, eBin_ap, eUn_ap, tOf_ap, tvAnd_ap, tvOr_ap, tvNot_ap, eAnd_ap, eOr_ap, eNot_ap, eIf_ap, eChain_ap, aNil_ap, aCons_ap, aStar_ap, eTup_ap, eLst_ap, eCall_ap, eCallL_ap, lNil_ap, lSh_ap, lLe_ap, lstAt_ap, eOwn2_ap, eSl_ap, pNo_ap, pSome_ap, eLstRg1_ap, eTupRg1_ap, eApp_ap, eExtend_ap, iOf_ap, iEnum_ap, iZip2_ap, iRng1_ap, eLc_ap, keep_nil, keep_zero, opI, opIc, opB, opAdd, opLen, opNeg, opMax, opMin, opAbs, opInt, opIx, opIsNotN, opIsN, isNon, opTuple, opList, opRev, opSl, opSlL, isi_int, isi_boolint, isi_tuple, items?, opEq_int, opNe_int, setAll, forgetAll, wipeE, backE, lentAt, fill, List.cons_append, List.nil_append, List.append_nil, List.replicate_succ, List.replicate_zero, List.getElem?_cons_zero, List.getElem?_cons_succ, List.set_cons_zero, List.set_cons_succ, List.map_cons, List.map_nil, List.length_cons, List.length_nil, List.length_map, List.length_replicate, List.all_nil, List.all_cons, Option.isSome, Option.bind_some, Option.map_some, Option.getD_some, Option.bind_none, Option.map_none, Nat.reduceAdd, Nat.zero_add, beq_self_eq_true, Bool.and_true, Bool.true_and, Bool.false_eq_true, reduceIte, reduceCtorEq, if_true, if_false, Bool.not_true, Bool.not_false, decide_true, decide_false, hL, z, hm, rg_ok hk, rg_n, lp, e3, m2]
end Hd

namespace Hd
open PL PM
def shf (p : Int) (l : List Int) (x : Int) : List Int := List.zipWith (fun a b => (a - x * b) % p) (0 :: l.dropLast) l
theorem shf_length (p : Int) (l : List Int) (x : Int) (h : 0 < l.length) : (shf p l x).length = l.length := by
  unfold shf
  rw [List.length_zipWith, List.length_cons, List.length_dropLast]
  omega
theorem s_shifted (p : Int) (l : List Int) (x : Int) (hp : 0 < p) (h0 : -1000000 < x) (h1 : x < 1000000) (hl : 0 < l.length) (hl2 : l.length ≤ 1000) : m_shifted [some (.int p), some (lI l), some (.int x)] = some (lI (shf p l x), [none, none, none]) := by
  have hpd : decide (0 < p) = true := decide_eq_true hp
  have lc : ∀ z : Option PV, lcL (gTp 2 (gsCons (gNm 4) (gsCons (gNm 5) gsNil))) tYes' (eBin opMod (eBin opSub (eVar 4) (eBin opMul (eVar 2) (eVar 5))) (eVar 0)) [4, 5] (((0 :: l.dropLast).zip l).map fun q : Int × Int => PV.tup [.int q.1, .int q.2]) [some (.int p), some (lI l), some (.int x), z, none, none]
      = some (((0 :: l.dropLast).zip l).map fun q : Int × Int => .int ((q.1 - x * q.2) % p), [some (.int p), some (lI l), some (.int x), z, none, none]) := fun z =>
    lcL_map fun q hq => ⟨[some (.int p), some (lI l), some (.int x), z, some (.int q.1), some (.int q.2)], [some (.int p), some (lI l), some (.int x), z, some (.int q.1), some (.int q.2)], by simp -implicitDefEqProofs only [semDef_ap, sSeq_ap, sSet_ap, sRet_ap, sIf_ap, sExpr_ap, sNil_ap, sNever_ap, sAug_ap, sPar_ap, sAsgT_ap, sStore_ap, sAugStore_ap, sFor_ap, sForO_ap, sWhile_ap, turn_ap, gNm_ap, gsNil_ap, gsCons_ap, gTp_ap, eVar_ap, eMove_ap, eC_ap, eBin_ap, eUn_ap, tOf_ap, tvAnd_ap, tvOr_ap, tvNot_ap, eAnd_ap, eOr_ap, eNot_ap, eIf_ap, eChain_ap, aNil_ap, aCons_ap, aStar_ap, eTup_ap, eLst_ap, eCall_ap, eCallL_ap, lNil_ap, lSh_ap, lLe_ap, lstAt_ap, eOwn2_ap, eSl_ap, pNo_ap, pSome_ap, eLstRg1_ap, eTupRg1_ap, eApp_ap, eExtend_ap, iOf_ap, iEnum_ap, iZip2_ap, iRng1_ap, eLc_ap, keep_nil, keep_zero, opI, opIc, opB, opAdd, opLen, opNeg, opMax, opMin, opAbs, opInt, opIx, opIsNotN, opIsN, isNon, opTuple, opList, opRev, opSl, opSlL, isi_int, isi_boolint, isi_tuple, items?, opEq_int, opNe_int, setAll, forgetAll, wipeE, backE, lentAt, fill, List.cons_append, List.nil_append, List.append_nil, List.replicate_succ, List.replicate_zero, List.getElem?_cons_zero, List.getElem?_cons_succ, List.set_cons_zero, List.set_cons_succ, List.map_cons, List.map_nil, List.length_cons, List.length_nil, List.length_map, List.length_replicate, List.all_nil, List.all_cons, Option.isSome, Option.bind_some, Option.map_some, Option.getD_some, Option.bind_none, Option.map_none, Nat.reduceAdd, Nat.zero_add, beq_self_eq_true, Bool.and_true, Bool.true_and, Bool.false_eq_true, reduceIte, reduceCtorEq, if_true, if_false, Bool.not_true, Bool.not_false, decide_true, decide_false], by
      simp -implicitDefEqProofs only [semDef_ap, sSeq_ap, sSet_ap, sRet_ap, sIf_ap, sExpr_ap, sNil_ap, sNever_ap, sAug_ap, sPar_ap, sAsgT_ap, sStore_ap, sAugStore_ap, sFor_ap, sForO_ap, sWhile_ap, turn_ap, gNm_ap, gsNil_ap, gsCons_ap, gTp_ap, eVar_ap, eMove_ap, eC_ap, eBin_ap, eUn_ap, tOf_ap, tvAnd_ap, tvOr_ap, tvNot_ap, eAnd_ap, eOr_ap, eNot_ap, eIf_ap, eChain_ap, aNil_ap, aCons_ap, aStar_ap, eTup_ap, eLst_ap, eCall_ap, eCallL_ap, lNil_ap, lSh_ap, lLe_ap, lstAt_ap, eOwn2_ap, eSl_ap, pNo_ap, pSome_ap, eLstRg1_ap, eTupRg1_ap, eApp_ap, eExtend_ap, iOf_ap, iEnum_ap, iZip2_ap, iRng1_ap, eLc_ap, keep_nil, keep_zero, opI, opIc, opB, opAdd, opLen, opNeg, opMax, opMin, opAbs, opInt, opIx, opIsNotN, opIsN, isNon, opTuple, opList, opRev, opSl, opSlL, isi_int, isi_boolint, isi_tuple, items?, opEq_int, opNe_int, setAll, forgetAll, wipeE, backE, lentAt, fill, List.cons_append, List.nil_append, List.append_nil, List.replicate_succ, List.replicate_zero, List.getElem?_cons_zero, List.getElem?_cons_succ, List.set_cons_zero, List.set_cons_succ, List.map_cons, List.map_nil, List.length_cons, List.length_nil, List.length_map, List.length_replicate, List.all_nil, List.all_cons, Option.isSome, Option.bind_some, Option.map_some, Option.getD_some, Option.bind_none, Option.map_none, Nat.reduceAdd, Nat.zero_add, beq_self_eq_true, Bool.and_true, Bool.true_and, Bool.false_eq_true, reduceIte, reduceCtorEq, if_true, if_false, Bool.not_true, Bool.not_false, decide_true, decide_false, mulOk_left (i := x) (j := q.2) (by omega) (by omega), hpd], by simp -implicitDefEqProofs only [semDef_ap, sSeq_ap, sSet_ap, sRet_ap, sIf_ap, sExpr_ap, sNil_ap, sNever_ap, sAug_ap, sPar_ap, sAsgT_ap, sStore_ap, sAugStore_ap, sFor_ap, sForO_ap, sWhile_ap, turn_ap, gNm_ap, gsNil_ap, gsCons_ap, gTp_ap, eVar_ap, eMove_ap, eC_ap, eBin_ap, eUn_ap, tOf_ap, tvAnd_ap, tvOr_ap, tvNot_ap, eAnd_ap, eOr_ap, eNot_ap, eIf_ap, eChain_ap, aNil_ap, aCons_ap, aStar_ap, eTup_ap, eLst_ap, eCall_ap, eCallL_ap, lNil_ap, lSh_ap, lLe_ap, lstAt_ap, eOwn2_ap, eSl_ap, pNo_ap, pSome_ap, eLstRg1_ap, eTupRg1_ap, eApp_ap, eExtend_ap, iOf_ap, iEnum_ap, iZip2_ap, iRng1_ap, eLc_ap, keep_nil, keep_zero, opI, opIc, opB, opAdd, opLen, opNeg, opMax, opMin, opAbs, opInt, opIx, opIsNotN, opIsN, isNon, opTuple, opList, opRev, opSl, opSlL, isi_int, isi_boolint, isi_tuple, items?, opEq_int, opNe_int, setAll, forgetAll, wipeE, backE, lentAt, fill, List.cons_append, List.nil_append, List.append_nil, List.replicate_succ, List.replicate_zero, List.getElem?_cons_zero, List.getElem?_cons_succ, List.set_cons_zero, List.set_cons_succ, List.map_cons, List.map_nil, List.length_cons, List.length_nil, List.length_map, List.length_replicate, List.all_nil, List.all_cons, Option.isSome, Option.bind_some, Option.map_some, Option.getD_some, Option.bind_none, Option.map_none, Nat.reduceAdd, Nat.zero_add, beq_self_eq_true, Bool.and_true, Bool.true_and, Bool.false_eq_true, reduceIte, reduceCtorEq, if_true, if_false, Bool.not_true, Bool.not_false, decide_true, decide_false]⟩
  have em : (((0 :: l.dropLast).zip l).map fun q : Int × Int => PV.int ((q.1 - x * q.2) % p)) = (shf p l x).map .int := by
    unfold shf
    rw [List.zip, List.map_zipWith, List.map_zipWith]
  have zp : zipP (PV.int 0 :: (l.map PV.int).dropLast) (l.map PV.int) = ((0 :: l.dropLast).zip l).map fun q : Int × Int => PV.tup [.int q.1, .int q.2] := by
    rw [← zipP_map, List.map_cons, List.map_dropLast]
  have ft : fits ((l.map PV.int).dropLast.length + 1) = true := fits_of (by rw [List.length_dropLast, List.length_map]; omega)
  have fz : fits ((0 :: l.dropLast).zip l).length = true := fits_of (by rw [List.length_zip]; omega)
  simp -implicitDefEqProofs only [m_shifted, b_shifted, semDef_ap, sSeq_ap, sSet_ap, sRet_ap, sIf_ap, sExpr_ap, sNil_ap, sNever_ap, sAug_ap, sPar_ap, sAsgT_ap, sStore_ap, sAugStore_ap, sFor_ap, sForO_ap, sWhile_ap, turn_ap, gNm_ap, gsNil_ap, gsCons_ap, gTp_ap, eVar_ap, eMove_ap, eC_ap, eBin_ap, eUn_ap, tOf_ap, tvAnd_ap, tvOr_ap, tvNot_ap, eAnd_ap, eOr_ap, eNot_ap, eIf_ap, eChain_ap, aNil_ap, aCons_ap, aStar_ap, eTup_ap, eLst_ap, eCall_ap, eCallL_ap, lNil_ap, lSh_ap, lLe_ap, lstAt_ap, eOwn2_ap, eSl_ap, pNo_ap, pSome_ap, eLstRg1_ap, eTupRg1_ap, eApp_ap, eExtend_ap, iOf_ap, iEnum_ap, iZip2_ap, iRng1_ap, eLc_ap, keep_nil, keep_zero, opI, opIc, opB, opAdd, opLen, opNeg, opMax, opMin, opAbs, opInt, opIx, opIsNotN, opIsN, isNon, opTuple, opList, opRev, opSl, opSlL, isi_int, isi_boolint, isi_tuple, items?, opEq_int, opNe_int, setAll, forgetAll, wipeE, backE, lentAt, fill, List.cons_append, List.nil_append, List.append_nil, List.replicate_succ, List.replicate_zero, List.getElem?_cons_zero, List.getElem?_cons_succ, List.set_cons_zero, List.set_cons_succ, List.map_cons, List.map_nil, List.length_cons, List.length_nil, List.length_map, List.length_replicate, List.all_nil, List.all_cons, Option.isSome, Option.bind_some, Option.map_some, Option.getD_some, Option.bind_none, Option.map_none, Nat.reduceAdd, Nat.zero_add, beq_self_eq_true, Bool.and_true, Bool.true_and, Bool.false_eq_true, reduceIte, reduceCtorEq, if_true, if_false, Bool.not_true, Bool.not_false, decide_true, decide_false, cut_init, ft, zp, fz, lc, em]
def nearF (p : Int) (w : Nat) : List Int := (List.range (w - 1)).foldl (fun (f : List Int) (x : Nat) => shf p f x) (1 :: List.replicate (w - 1) 0)
theorem s_near_row (p w : Nat) (hp : (p : Int) ∈ known) (h1 : 1 ≤ w) (h2 : w ≤ 16) (h3 : w ≤ p) : m_near_row [some (.int p), some (.int w)] = some (tI (nearF p w), [none, none]) := by
  have hb := known_b hp
  have e1 := s_require_number w 1 (if (16 : Int) < (p : Int) then (16 : Int) else (p : Int)) (by omega) (by omega) (by omega) (by split <;> omega)
  have ex : (w : Int) - 1 = ((w - 1 : Nat) : Int) := by omega
  have r1 : (decide (-(2 ^ 63) ≤ ((w - 1 : Nat) : Int) ∧ ((w - 1 : Nat) : Int) < 2 ^ 63) && fits (1 * (((w - 1 : Nat) : Int)).toNat)) = true := by
    rw [decide_eq_true (by omega), fits_of (by omega)]
    rfl
  have r2 : (List.replicate (((w - 1 : Nat) : Int)).toNat [PV.int 0]).flatten = (List.replicate (w - 1) (0 : Int)).map .int := by
    rw [Int.toNat_natCast]
    exact rep_zero _
  have one : fits 1 = true := by decide
  have fw : fits (w - 1 + 1) = true := fits_of (by omega)
  have lp := (forL_fold (f := turn (gNm 3) (sSet 2 (eCall 3 m_shifted (aCons (eVar 0) (aCons (eVar 2) (aCons (eVar 3) aNil))))) [3]) (enc := fun (i : Nat) => PV.int (i : Int)) (emb := fun f : List Int => [some (.int p), some (.int w), some (lI f), none])
    (step := fun (f : List Int) (x : Nat) => shf p f x) (fun f => f.length = w) (xs := List.range (w - 1)) (s := 1 :: List.replicate (w - 1) 0) (fun f x hf hx => ⟨by
      have hx := List.mem_range.mp hx
      have e := s_shifted p f x (by omega) (by omega) (by omega) (by omega) (by omega)
      simp -implicitDefEqProofs only [semDef_ap, sSeq_ap, sSet_ap, sRet_ap, sIf_ap, sExpr_ap, sNil_ap, sNever_ap, sAug_ap, sPar_ap, sAsgT_ap, sStore_ap, sAugStore_ap, sFor_ap, sForO_ap, sWhile_ap, turn_ap, gNm_ap, gsNil_ap, gsCons_ap, gTp_ap, eVar_ap, eMove_ap, eC_ap, eBin_ap, eUn_ap, tOf_ap, tvAnd_ap, tvOr_ap, tvNot_ap, eAnd_ap, eOr_ap, eNot_ap, eIf_ap, eChain_ap, aNil_ap, aCons_ap, aStar_ap, eTup_ap, eLst_ap, eCall_ap, eCallL_ap, lNil_ap, lSh_ap, lLe_ap, lstAt_ap, eOwn2_ap, eSl_ap, pNo_ap, pSome_ap, eLstRg1_ap, eTupRg1_ap, eApp_ap, eExtend_ap, iOf_ap, iEnum_ap, iZip2_ap, iRng1_ap, eLc_ap, keep_nil, keep_zero, opI, opIc, opB, opAdd, opLen, opNeg, opMax, opMin, opAbs, opInt, opIx, opIsNotN, opIsN, isNon, opTuple, opList, opRev, opSl, opSlL, isi_int, isi_boolint, isi_tuple, items?, opEq_int, opNe_int, setAll, forgetAll, wipeE, backE, lentAt, fill, List.cons_append, List.nil_append, List.append_nil, List.replicate_succ, List.replicate_zero, List.getElem?_cons_zero, List.getElem?_cons_succ, List.set_cons_zero, List.set_cons_succ, List.map_cons, List.map_nil, List.length_cons, List.length_nil, List.length_map, List.length_replicate, List.all_nil, List.all_cons, Option.isSome, Option.bind_some, Option.map_some, Option.getD_some, Option.bind_none, Option.map_none, Nat.reduceAdd, Nat.zero_add, beq_self_eq_true, Bool.and_true, Bool.true_and, Bool.false_eq_true, reduceIte, reduceCtorEq, if_true, if_false, Bool.not_true, Bool.not_false, decide_true, decide_false, e], by rw [shf_length _ _ _ (by omega)]; exact hf⟩) (by simp; omega)).1
  have lp' : forL (turn (gNm 3) (sSet 2 (eCall 3 m_shifted (aCons (eVar 0) (aCons (eVar 2) (aCons (eVar 3) aNil))))) [3]) ((List.range (w - 1)).map fun (i : Nat) => PV.int (i : Int)) [some (.int p), some (.int w), some (.lst (.int 1 :: (List.replicate (w - 1) (0 : Int)).map .int)), none] = some (.nx, [some (.int p), some (.int w), some (lI (nearF p w)), none]) := lp
  have e2 : m_near_row_in [some (.int p), some (.int w)] = some (tI (nearF p w), [none, none]) := by
    simp -implicitDefEqProofs only [m_near_row_in, b_near_row_in, semDef_ap, sSeq_ap, sSet_ap, sRet_ap, sIf_ap, sExpr_ap, sNil_ap, sNever_ap, sAug_ap, sPar_ap, sAsgT_ap, sStore_ap, sAugStore_ap, sFor_ap, sForO_ap, sWhile_ap, turn_ap, gNm_ap, gsNil_ap, gsCons_ap, gTp_ap, eVar_ap, eMove_ap, eC_ap, eBin_ap, eUn_ap, tOf_ap, tvAnd_ap, tvOr_ap, tvNot_ap, eAnd_ap, eOr_ap, eNot_ap, eIf_ap, eChain_ap, aNil_ap, aCons_ap, aStar_ap, eTup_ap, eLst_ap, eCall_ap, eCallL_ap, lNil_ap, lSh_ap, lLe_ap, lstAt_ap, eOwn2_ap, eSl_ap, pNo_ap, pSome_ap, eLstRg1_ap, eTupRg1_ap, eApp_ap, eExtend_ap, iOf_ap, iEnum_ap, iZip2_ap, iRng1_ap, eLc_ap, keep_nil, keep_zero, opI, opIc, opB, opAdd, opLen, opNeg, opMax, opMin, opAbs, opInt, opIx, opIsNotN, opIsN, isNon, opTuple, opList, opRev, opSl, opSlL, isi_int, isi_boolint, isi_tuple, items?, opEq_int, opNe_int, setAll, forgetAll, wipeE, backE, lentAt, fill, List.cons_append, List.nil_append, List.append_nil, List.replicate_succ, List.replicate_zero, List.getElem?_cons_zero, List.getElem?_cons_succ, List.set_cons_zero, List.set_cons_succ, List.map_cons, List.map_nil, List.length_cons, List.length_nil, List.length_map, List.length_replicate, List.all_nil, List.all_cons, Option.isSome, Option.bind_some, Option.map_some, Option.getD_some, Option.bind_none, Option.map_none, Nat.reduceAdd, Nat.zero_add, beq_self_eq_true, Bool.and_true, Bool.true_and, Bool.false_eq_true, reduceIte, reduceCtorEq, if_true, if_false, Bool.not_true, Bool.not_false, decide_true, decide_false, ex, one, opRep, r1, r2, fw, rg_ok (show w - 1 ≤ 16777216 by omega), rg_n, lp']
  simp -implicitDefEqProofs only [m_near_row, b_near_row, semDef_ap, sSeq_ap, sSet_ap, sRet_ap, sIf_ap, sExpr_ap, sNil_ap, sNever_ap, sAug_ap, sPar_ap, sAsgT_ap, sStore_ap, sAugStore_ap, sFor_ap, sForO_ap, sWhile_ap, turn_ap, gNm_ap, gsNil_ap, gsCons_ap, gTp_ap, eVar_ap, eMove_ap, eC_ap, eBin_ap, eUn_ap, tOf_ap, tvAnd_ap, tvOr_ap, tvNot_ap, eAnd_ap, eOr_ap, eNot_ap, eIf_ap, eChain_ap, aNil_ap, aCons_ap, aStar_ap, eTup_ap, eLst_ap, eCall_ap, eCallL_ap, lNil_ap, lSh_ap, lLe_ap, lstAt_ap, eOwn2_ap, eSl_ap, pNo_ap, pSome_ap, eLstRg1_ap, eTupRg1_ap, eApp_ap, eExtend_ap, iOf_ap, iEnum_ap, iZip2_ap, iRng1_ap, eLc_ap, keep_nil, keep_zero, opI, opIc, opB, opAdd, opLen, opNeg, opMax, opMin, opAbs, opInt, opIx, opIsNotN, opIsN, isNon, opTuple, opList, opRev, opSl, opSlL, isi_int, isi_boolint, isi_tuple, items?, opEq_int, opNe_int, setAll, forgetAll, wipeE, backE, lentAt, fill, List.cons_append, List.nil_append, List.append_nil, List.replicate_succ, List.replicate_zero, List.getElem?_cons_zero, List.getElem?_cons_succ, List.set_cons_zero, List.set_cons_succ, List.map_cons, List.map_nil, List.length_cons, List.length_nil, List.length_map, List.length_replicate, List.all_nil, List.all_cons, Option.isSome, Option.bind_some, Option.map_some, Option.getD_some, Option.bind_none, Option.map_none, Nat.reduceAdd, Nat.zero_add, beq_self_eq_true, Bool.and_true, Bool.true_and, Bool.false_eq_true, reduceIte, reduceCtorEq, if_true, if_false, Bool.not_true, Bool.not_false, decide_true, decide_false, s_require_prime p hp, e1, e2]
/-! ### the counts -/
def wt (p : Int) (r : List Int) (far : Nat) : Nat := ((code p r far).filter fun one => !decide (one = 0)).length
theorem wt_le (p : Int) (r : List Int) (far : Nat) : wt p r far ≤ far := by
  unfold wt
  have := List.length_filter_le (fun one : Int => !decide (one = 0)) (code p r far)
  rw [code_length] at this
  exact this
def cstep (p : Int) (far : Nat) (cs : List Int) (r : List Int) : List Int := cs.set (wt p r far) ((cs[wt p r far]?).getD 0 + 1)
def cntF (p w far : Nat) : List Int := (pts ((List.range p).map fun (i : Nat) => (i : Int)) w).foldl (cstep p far) (List.replicate (far + 1) 0)
def zeros (l : List Int) : List Int := ((l.zipIdx).filter fun q => decide (q.1 = 0)).map fun q => ((q.2 : Nat) : Int)
def okF (p w far : Nat) : Bool := decide (cntF p w far = (List.range (far + 1)).map fun d => kcF p far w d) && (decide (Nums p (nearF p w)) && (decide ((nearF p w).length = w) && decide (zeros (code p (nearF p w) far) = (List.range (w - 1)).map fun (i : Nat) => (i : Int))))
def menu : List (Nat × Nat) := [(3, 1), (3, 2), (3, 3), (5, 1), (5, 2), (5, 3), (7, 1), (7, 2), (11, 2), (13, 2)]
theorem ok_menu : ∀ q ∈ menu, ∀ r, r < q.1 - q.2 + 1 → okF q.1 q.2 (q.2 + r) = true := by decide +kernel
end Hd

namespace Hd
open PL PM
abbrev ALLB : EvS := (sSeq (sSet 6 (eCall 3 m_coded_row (aCons (eVar 1) (aCons (eVar 5) (aCons (eVar 3) aNil)))))
    (sSeq (sIf (tOf (eBin opNe (eUn opList (eVar 6)) (eLc (iRng1 (eVar 3)) (gNm 11) tYes' (eCall 3 m__law_po_worth (aCons (eVar 1) (aCons (eVar 5) (aCons (eVar 11) aNil)))) [11]))) (sRet (eC (.bl false))) sNil)
    (sSeq (sSet 7 (eUn opLen (eLc (iOf (eVar 6)) (gNm 10) (tOf (eBin opNe (eVar 10) (eC (.int 0)))) (eVar 10) [10])))
    (sStore 4 (eVar 7) (eBin opAdd (eOwn2 4 opIx (eVar 7)) (eC (.int 1)))))))
theorem a_turn (d : Int × Int × Int) (p w far : Nat) (cs r : List Int) (hk : (p : Int) ∈ known) (h1 : 1 ≤ w) (h2 : w ≤ 16) (h3 : w ≤ far) (h4 : far ≤ p) (h5 : far ≤ 64) (hl : r.length = w) (hr : Nums p r) (hc : cs.length = far + 1) :
    turn (gNm 5) ALLB [5, 6, 7] (tI r) [some (D d), some (.int p), some (.int w), some (.int far), some (lI cs), none, none, none, none, none, none, none] = some (.nx, [some (D d), some (.int p), some (.int w), some (.int far), some (lI (cstep p far cs r)), none, none, none, none, none, none, none]) := by
  have hb := known_b hk
  have e1 := s_coded_row p r far hk (by omega) (by omega) hr (by omega) (by omega) h5
  have l1 : lcL (gNm 11) tYes' (eCall 3 m__law_po_worth (aCons (eVar 1) (aCons (eVar 5) (aCons (eVar 11) aNil)))) [11] ((List.range far).map fun (i : Nat) => PV.int (i : Int)) [some (D d), some (.int p), some (.int w), some (.int far), some (lI cs), some (tI r), some (tI (code p r far)), none, none, none, none, none]
      = some ((code p r far).map .int, [some (D d), some (.int p), some (.int w), some (.int far), some (lI cs), some (tI r), some (tI (code p r far)), none, none, none, none, none]) := by
    have em : (code p r far).map PV.int = (List.range far).map fun (x : Nat) => PV.int (worth p r x) := by unfold code; rw [List.map_map]; rfl
    rw [em]
    exact lcL_map fun x hx => ⟨[some (D d), some (.int p), some (.int w), some (.int far), some (lI cs), some (tI r), some (tI (code p r far)), none, none, none, none, some (.int x)], [some (D d), some (.int p), some (.int w), some (.int far), some (lI cs), some (tI r), some (tI (code p r far)), none, none, none, none, some (.int x)], by simp -implicitDefEqProofs only [semDef_ap, sSeq_ap, sSet_ap, sRet_ap, sIf_ap, sExpr_ap, sNil_ap, sNever_ap, sAug_ap, sPar_ap, sAsgT_ap, sStore_ap, sAugStore_ap, sFor_ap, sForO_ap, sWhile_ap, turn_ap, gNm_ap, gsNil_ap, gsCons_ap, gTp_ap, eVar_ap, eMove_ap, eC_ap, eBin_ap, eUn_ap, tOf_ap, tvAnd_ap, tvOr_ap, tvNot_ap, eAnd_ap, eOr_ap, eNot_ap, eIf_ap, eChain_ap, aNil_ap, aCons_ap, aStar_ap, eTup_ap, eLst_ap, eCall_ap, eCallL_ap, lNil_ap, lSh_ap, lLe_ap, lstAt_ap, eOwn2_ap, eSl_ap, pNo_ap, pSome_ap, eLstRg1_ap, eTupRg1_ap, eApp_ap, eExtend_ap, iOf_ap, iEnum_ap, iZip2_ap, iRng1_ap, eLc_ap, keep_nil, keep_zero, opI, opIc, opB, opAdd, opLen, opNeg, opMax, opMin, opAbs, opInt, opIx, opIsNotN, opIsN, isNon, opTuple, opList, opRev, opSl, opSlL, isi_int, isi_boolint, isi_tuple, items?, opEq_int, opNe_int, setAll, forgetAll, wipeE, backE, lentAt, fill, List.cons_append, List.nil_append, List.append_nil, List.replicate_succ, List.replicate_zero, List.getElem?_cons_zero, List.getElem?_cons_succ, List.set_cons_zero, List.set_cons_succ, List.map_cons, List.map_nil, List.length_cons, List.length_nil, List.length_map, List.length_replicate, List.all_nil, List.all_cons, Option.isSome, Option.bind_some, Option.map_some, Option.getD_some, Option.bind_none, Option.map_none, Nat.reduceAdd, Nat.zero_add, beq_self_eq_true, Bool.and_true, Bool.true_and, Bool.false_eq_true, reduceIte, reduceCtorEq, if_true, if_false, Bool.not_true, Bool.not_false, decide_true, decide_false], by
      have hx := List.mem_range.mp hx
      simp -implicitDefEqProofs only [semDef_ap, sSeq_ap, sSet_ap, sRet_ap, sIf_ap, sExpr_ap, sNil_ap, sNever_ap, sAug_ap, sPar_ap, sAsgT_ap, sStore_ap, sAugStore_ap, sFor_ap, sForO_ap, sWhile_ap, turn_ap, gNm_ap, gsNil_ap, gsCons_ap, gTp_ap, eVar_ap, eMove_ap, eC_ap, eBin_ap, eUn_ap, tOf_ap, tvAnd_ap, tvOr_ap, tvNot_ap, eAnd_ap, eOr_ap, eNot_ap, eIf_ap, eChain_ap, aNil_ap, aCons_ap, aStar_ap, eTup_ap, eLst_ap, eCall_ap, eCallL_ap, lNil_ap, lSh_ap, lLe_ap, lstAt_ap, eOwn2_ap, eSl_ap, pNo_ap, pSome_ap, eLstRg1_ap, eTupRg1_ap, eApp_ap, eExtend_ap, iOf_ap, iEnum_ap, iZip2_ap, iRng1_ap, eLc_ap, keep_nil, keep_zero, opI, opIc, opB, opAdd, opLen, opNeg, opMax, opMin, opAbs, opInt, opIx, opIsNotN, opIsN, isNon, opTuple, opList, opRev, opSl, opSlL, isi_int, isi_boolint, isi_tuple, items?, opEq_int, opNe_int, setAll, forgetAll, wipeE, backE, lentAt, fill, List.cons_append, List.nil_append, List.append_nil, List.replicate_succ, List.replicate_zero, List.getElem?_cons_zero, List.getElem?_cons_succ, List.set_cons_zero, List.set_cons_succ, List.map_cons, List.map_nil, List.length_cons, List.length_nil, List.length_map, List.length_replicate, List.all_nil, List.all_cons, Option.isSome, Option.bind_some, Option.map_some, Option.getD_some, Option.bind_none, Option.map_none, Nat.reduceAdd, Nat.zero_add, beq_self_eq_true, Bool.and_true, Bool.true_and, Bool.false_eq_true, reduceIte, reduceCtorEq, if_true, if_false, Bool.not_true, Bool.not_false, decide_true, decide_false, s_po_worth p r x (by omega) (by omega) (by omega)], by simp -implicitDefEqProofs only [semDef_ap, sSeq_ap, sSet_ap, sRet_ap, sIf_ap, sExpr_ap, sNil_ap, sNever_ap, sAug_ap, sPar_ap, sAsgT_ap, sStore_ap, sAugStore_ap, sFor_ap, sForO_ap, sWhile_ap, turn_ap, gNm_ap, gsNil_ap, gsCons_ap, gTp_ap, eVar_ap, eMove_ap, eC_ap, eBin_ap, eUn_ap, tOf_ap, tvAnd_ap, tvOr_ap, tvNot_ap, eAnd_ap, eOr_ap, eNot_ap, eIf_ap, eChain_ap, aNil_ap, aCons_ap, aStar_ap, eTup_ap, eLst_ap, eCall_ap, eCallL_ap, lNil_ap, lSh_ap, lLe_ap, lstAt_ap, eOwn2_ap, eSl_ap, pNo_ap, pSome_ap, eLstRg1_ap, eTupRg1_ap, eApp_ap, eExtend_ap, iOf_ap, iEnum_ap, iZip2_ap, iRng1_ap, eLc_ap, keep_nil, keep_zero, opI, opIc, opB, opAdd, opLen, opNeg, opMax, opMin, opAbs, opInt, opIx, opIsNotN, opIsN, isNon, opTuple, opList, opRev, opSl, opSlL, isi_int, isi_boolint, isi_tuple, items?, opEq_int, opNe_int, setAll, forgetAll, wipeE, backE, lentAt, fill, List.cons_append, List.nil_append, List.append_nil, List.replicate_succ, List.replicate_zero, List.getElem?_cons_zero, List.getElem?_cons_succ, List.set_cons_zero, List.set_cons_succ, List.map_cons, List.map_nil, List.length_cons, List.length_nil, List.length_map, List.length_replicate, List.all_nil, List.all_cons, Option.isSome, Option.bind_some, Option.map_some, Option.getD_some, Option.bind_none, Option.map_none, Nat.reduceAdd, Nat.zero_add, beq_self_eq_true, Bool.and_true, Bool.true_and, Bool.false_eq_true, reduceIte, reduceCtorEq, if_true, if_false, Bool.not_true, Bool.not_false, decide_true, decide_false]⟩
  have l2 : lcL (gNm 10) (tOf (eBin opNe (eVar 10) (eC (.int 0)))) (eVar 10) [10] ((code p r far).map .int) [some (D d), some (.int p), some (.int w), some (.int far), some (lI cs), some (tI r), some (tI (code p r far)), none, none, none, none, none]
      = some (((code p r far).filter fun one => !decide (one = 0)).map .int, [some (D d), some (.int p), some (.int w), some (.int far), some (lI cs), some (tI r), some (tI (code p r far)), none, none, none, none, none]) :=
    lcL_filter fun x hx => ⟨[some (D d), some (.int p), some (.int w), some (.int far), some (lI cs), some (tI r), some (tI (code p r far)), none, none, none, some (.int x), none], [some (D d), some (.int p), some (.int w), some (.int far), some (lI cs), some (tI r), some (tI (code p r far)), none, none, none, some (.int x), none], by simp -implicitDefEqProofs only [semDef_ap, sSeq_ap, sSet_ap, sRet_ap, sIf_ap, sExpr_ap, sNil_ap, sNever_ap, sAug_ap, sPar_ap, sAsgT_ap, sStore_ap, sAugStore_ap, sFor_ap, sForO_ap, sWhile_ap, turn_ap, gNm_ap, gsNil_ap, gsCons_ap, gTp_ap, eVar_ap, eMove_ap, eC_ap, eBin_ap, eUn_ap, tOf_ap, tvAnd_ap, tvOr_ap, tvNot_ap, eAnd_ap, eOr_ap, eNot_ap, eIf_ap, eChain_ap, aNil_ap, aCons_ap, aStar_ap, eTup_ap, eLst_ap, eCall_ap, eCallL_ap, lNil_ap, lSh_ap, lLe_ap, lstAt_ap, eOwn2_ap, eSl_ap, pNo_ap, pSome_ap, eLstRg1_ap, eTupRg1_ap, eApp_ap, eExtend_ap, iOf_ap, iEnum_ap, iZip2_ap, iRng1_ap, eLc_ap, keep_nil, keep_zero, opI, opIc, opB, opAdd, opLen, opNeg, opMax, opMin, opAbs, opInt, opIx, opIsNotN, opIsN, isNon, opTuple, opList, opRev, opSl, opSlL, isi_int, isi_boolint, isi_tuple, items?, opEq_int, opNe_int, setAll, forgetAll, wipeE, backE, lentAt, fill, List.cons_append, List.nil_append, List.append_nil, List.replicate_succ, List.replicate_zero, List.getElem?_cons_zero, List.getElem?_cons_succ, List.set_cons_zero, List.set_cons_succ, List.map_cons, List.map_nil, List.length_cons, List.length_nil, List.length_map, List.length_replicate, List.all_nil, List.all_cons, Option.isSome, Option.bind_some, Option.map_some, Option.getD_some, Option.bind_none, Option.map_none, Nat.reduceAdd, Nat.zero_add, beq_self_eq_true, Bool.and_true, Bool.true_and, Bool.false_eq_true, reduceIte, reduceCtorEq, if_true, if_false, Bool.not_true, Bool.not_false, decide_true, decide_false], by simp -implicitDefEqProofs only [semDef_ap, sSeq_ap, sSet_ap, sRet_ap, sIf_ap, sExpr_ap, sNil_ap, sNever_ap, sAug_ap, sPar_ap, sAsgT_ap, sStore_ap, sAugStore_ap, sFor_ap, sForO_ap, sWhile_ap, turn_ap, gNm_ap, gsNil_ap, gsCons_ap, gTp_ap, eVar_ap, eMove_ap, eC_ap, eBin_ap, eUn_ap, tOf_ap, tvAnd_ap, tvOr_ap, tvNot_ap, eAnd_ap, eOr_ap, eNot_ap, eIf_ap, eChain_ap, aNil_ap, aCons_ap, aStar_ap, eTup_ap, eLst_ap, eCall_ap, eCallL_ap, lNil_ap, lSh_ap, lLe_ap, lstAt_ap, eOwn2_ap, eSl_ap, pNo_ap, pSome_ap, eLstRg1_ap, eTupRg1_ap, eApp_ap, eExtend_ap, iOf_ap, iEnum_ap, iZip2_ap, iRng1_ap, eLc_ap, keep_nil, keep_zero, opI, opIc, opB, opAdd, opLen, opNeg, opMax, opMin, opAbs, opInt, opIx, opIsNotN, opIsN, isNon, opTuple, opList, opRev, opSl, opSlL, isi_int, isi_boolint, isi_tuple, items?, opEq_int, opNe_int, setAll, forgetAll, wipeE, backE, lentAt, fill, List.cons_append, List.nil_append, List.append_nil, List.replicate_succ, List.replicate_zero, List.getElem?_cons_zero, List.getElem?_cons_succ, List.set_cons_zero, List.set_cons_succ, List.map_cons, List.map_nil, List.length_cons, List.length_nil, List.length_map, List.length_replicate, List.all_nil, List.all_cons, Option.isSome, Option.bind_some, Option.map_some, Option.getD_some, Option.bind_none, Option.map_none, Nat.reduceAdd, Nat.zero_add, beq_self_eq_true, Bool.and_true, Bool.true_and, Bool.false_eq_true, reduceIte, reduceCtorEq, if_true, if_false, Bool.not_true, Bool.not_false, decide_true, decide_false], fun _ => ⟨[some (D d), some (.int p), some (.int w), some (.int far), some (lI cs), some (tI r), some (tI (code p r far)), none, none, none, some (.int x), none], by simp -implicitDefEqProofs only [semDef_ap, sSeq_ap, sSet_ap, sRet_ap, sIf_ap, sExpr_ap, sNil_ap, sNever_ap, sAug_ap, sPar_ap, sAsgT_ap, sStore_ap, sAugStore_ap, sFor_ap, sForO_ap, sWhile_ap, turn_ap, gNm_ap, gsNil_ap, gsCons_ap, gTp_ap, eVar_ap, eMove_ap, eC_ap, eBin_ap, eUn_ap, tOf_ap, tvAnd_ap, tvOr_ap, tvNot_ap, eAnd_ap, eOr_ap, eNot_ap, eIf_ap, eChain_ap, aNil_ap, aCons_ap, aStar_ap, eTup_ap, eLst_ap, eCall_ap, eCallL_ap, lNil_ap, lSh_ap, lLe_ap, lstAt_ap, eOwn2_ap, eSl_ap, pNo_ap, pSome_ap, eLstRg1_ap, eTupRg1_ap, eApp_ap, eExtend_ap, iOf_ap, iEnum_ap, iZip2_ap, iRng1_ap, eLc_ap, keep_nil, keep_zero, opI, opIc, opB, opAdd, opLen, opNeg, opMax, opMin, opAbs, opInt, opIx, opIsNotN, opIsN, isNon, opTuple, opList, opRev, opSl, opSlL, isi_int, isi_boolint, isi_tuple, items?, opEq_int, opNe_int, setAll, forgetAll, wipeE, backE, lentAt, fill, List.cons_append, List.nil_append, List.append_nil, List.replicate_succ, List.replicate_zero, List.getElem?_cons_zero, List.getElem?_cons_succ, List.set_cons_zero, List.set_cons_succ, List.map_cons, List.map_nil, List.length_cons, List.length_nil, List.length_map, List.length_replicate, List.all_nil, List.all_cons, Option.isSome, Option.bind_some, Option.map_some, Option.getD_some, Option.bind_none, Option.map_none, Nat.reduceAdd, Nat.zero_add, beq_self_eq_true, Bool.and_true, Bool.true_and, Bool.false_eq_true, reduceIte, reduceCtorEq, if_true, if_false, Bool.not_true, Bool.not_false, decide_true, decide_false], by simp -implicitDefEqProofs only [semDef_ap, sSeq_ap, sSet_ap, sRet_ap, sIf_ap, sExpr_ap, sNil_ap, sNever_ap, sAug_ap, sPar_ap, sAsgT_ap, sStore_ap, sAugStore_ap, sFor_ap, sForO_ap, sWhile_ap, turn_ap, gNm_ap, gsNil_ap, gsCons_ap, gTp_ap, eVar_ap, eMove_ap, eC_ap, eBin_ap, eUn_ap, tOf_ap, tvAnd_ap, tvOr_ap, tvNot_ap, eAnd_ap, eOr_ap, eNot_ap, eIf_ap, eChain_ap, aNil_ap, aCons_ap, aStar_ap, eTup_ap, eLst_ap, eCall_ap, eCallL_ap, lNil_ap, lSh_ap, lLe_ap, lstAt_ap, eOwn2_ap, eSl_ap, pNo_ap, pSome_ap, eLstRg1_ap, eTupRg1_ap, eApp_ap, eExtend_ap, iOf_ap, iEnum_ap, iZip2_ap, iRng1_ap, eLc_ap, keep_nil, keep_zero, opI, opIc, opB, opAdd, opLen, opNeg, opMax, opMin, opAbs, opInt, opIx, opIsNotN, opIsN, isNon, opTuple, opList, opRev, opSl, opSlL, isi_int, isi_boolint, isi_tuple, items?, opEq_int, opNe_int, setAll, forgetAll, wipeE, backE, lentAt, fill, List.cons_append, List.nil_append, List.append_nil, List.replicate_succ, List.replicate_zero, List.getElem?_cons_zero, List.getElem?_cons_succ, List.set_cons_zero, List.set_cons_succ, List.map_cons, List.map_nil, List.length_cons, List.length_nil, List.length_map, List.length_replicate, List.all_nil, List.all_cons, Option.isSome, Option.bind_some, Option.map_some, Option.getD_some, Option.bind_none, Option.map_none, Nat.reduceAdd, Nat.zero_add, beq_self_eq_true, Bool.and_true, Bool.true_and, Bool.false_eq_true, reduceIte, reduceCtorEq, if_true, if_false, Bool.not_true, Bool.not_false, decide_true, decide_false]⟩, fun _ => by simp -implicitDefEqProofs only [semDef_ap, sSeq_ap, sSet_ap, sRet_ap, sIf_ap, sExpr_ap, sNil_ap, sNever_ap, sAug_ap, sPar_ap, sAsgT_ap, sStore_ap, sAugStore_ap, sFor_ap, sForO_ap, sWhile_ap, turn_ap, gNm_ap, gsNil_ap, gsCons_ap, gTp_ap, eVar_ap, eMove_ap, eC_ap, eBin_ap, eUn_ap, tOf_ap, tvAnd_ap, tvOr_ap, tvNot_ap, eAnd_ap, eOr_ap, eNot_ap, eIf_ap, eChain_ap, aNil_ap, aCons_ap, aStar_ap, eTup_ap, eLst_ap, eCall_ap, eCallL_ap, lNil_ap, lSh_ap, lLe_ap, lstAt_ap, eOwn2_ap, eSl_ap, pNo_ap, pSome_ap, eLstRg1_ap, eTupRg1_ap, eApp_ap, eExtend_ap, iOf_ap, iEnum_ap, iZip2_ap, iRng1_ap, eLc_ap, keep_nil, keep_zero, opI, opIc, opB, opAdd, opLen, opNeg, opMax, opMin, opAbs, opInt, opIx, opIsNotN, opIsN, isNon, opTuple, opList, opRev, opSl, opSlL, isi_int, isi_boolint, isi_tuple, items?, opEq_int, opNe_int, setAll, forgetAll, wipeE, backE, lentAt, fill, List.cons_append, List.nil_append, List.append_nil, List.replicate_succ, List.replicate_zero, List.getElem?_cons_zero, List.getElem?_cons_succ, List.set_cons_zero, List.set_cons_succ, List.map_cons, List.map_nil, List.length_cons, List.length_nil, List.length_map, List.length_replicate, List.all_nil, List.all_cons, Option.isSome, Option.bind_some, Option.map_some, Option.getD_some, Option.bind_none, Option.map_none, Nat.reduceAdd, Nat.zero_add, beq_self_eq_true, Bool.and_true, Bool.true_and, Bool.false_eq_true, reduceIte, reduceCtorEq, if_true, if_false, Bool.not_true, Bool.not_false, decide_true, decide_false]⟩
  have wl := wt_le p r far
  have hw : ((code p r far).filter fun one => !decide (one = 0)).length = wt p r far := rfl
  have hix : L2.atI (cs.map PV.int) ((wt p r far : Nat) : Int) = some (.int ((cs[wt p r far]?).getD 0)) := atI_nat (by rw [List.getElem?_map, List.getElem?_eq_getElem (show wt p r far < cs.length by omega)]; rfl)
  have hxn : L2.ixN (far + 1) ((wt p r far : Nat) : Int) = some (wt p r far) := by rw [ixN_of (by omega) (by omega)]; rfl
  have es : (cs.map PV.int).set (wt p r far) (.int ((cs[wt p r far]?).getD 0 + 1)) = (cstep p far cs r).map .int := by
    unfold cstep
    rw [List.map_set]
  have ne : opNe (lI (code p r far)) (lI (code p r far)) = some (.bl false) := opNe_self (Lay.lI _)
  refine turn_step (ρ1 := [some (D d), some (.int p), some (.int w), some (.int far), some (lI cs), some (tI r), none, none, none, none, none, none]) rfl (ρ2 := [some (D d), some (.int p), some (.int w), some (.int far), some (lI (cstep p far cs r)), some (tI r), some (tI (code p r far)), some (.int (wt p r far : Nat)), none, none, none, none]) ?_
  have s1 : sSet 6 (eCall 3 m_coded_row (aCons (eVar 1) (aCons (eVar 5) (aCons (eVar 3) aNil)))) [some (D d), some (.int p), some (.int w), some (.int far), some (lI cs), some (tI r), none, none, none, none, none, none] = some (.nx, [some (D d), some (.int p), some (.int w), some (.int far), some (lI cs), some (tI r), some (tI (code p r far)), none, none, none, none, none]) := by
    simp -implicitDefEqProofs only [semDef_ap, sSeq_ap, sSet_ap, sRet_ap, sIf_ap, sExpr_ap, sNil_ap, sNever_ap, sAug_ap, sPar_ap, sAsgT_ap, sStore_ap, sAugStore_ap, sFor_ap, sForO_ap, sWhile_ap, turn_ap, gNm_ap, gsNil_ap, gsCons_ap, gTp_ap, eVar_ap, eMove_ap, eC_ap, eBin_ap, eUn_ap, tOf_ap, tvAnd_ap, tvOr_ap, tvNot_ap, eAnd_ap, eOr_ap, eNot_ap, eIf_ap, eChain_ap, aNil_ap, aCons_ap, aStar_ap, eTup_ap, eLst_ap, eCall_ap, eCallL_ap, lNil_ap, lSh_ap, lLe_ap, lstAt_ap, eOwn2_ap, eSl_ap, pNo_ap, pSome_ap, eLstRg1_ap, eTupRg1_ap, eApp_ap, eExtend_ap, iOf_ap, iEnum_ap, iZip2_ap, iRng1_ap, eLc_ap, keep_nil, keep_zero, opI, opIc, opB, opAdd, opLen, opNeg, opMax, opMin, opAbs, opInt, opIx, opIsNotN, opIsN, isNon, opTuple, opList, opRev, opSl, opSlL, isi_int, isi_boolint, isi_tuple, items?, opEq_int, opNe_int, setAll, forgetAll, wipeE, backE, lentAt, fill, List.cons_append, List.nil_append, List.append_nil, List.replicate_succ, List.replicate_zero, List.getElem?_cons_zero, List.getElem?_cons_succ, List.set_cons_zero, List.set_cons_succ, List.map_cons, List.map_nil, List.length_cons, List.length_nil, List.length_map, List.length_replicate, List.all_nil, List.all_cons, Option.isSome, Option.bind_some, Option.map_some, Option.getD_some, Option.bind_none, Option.map_none, Nat.reduceAdd, Nat.zero_add, beq_self_eq_true, Bool.and_true, Bool.true_and, Bool.false_eq_true, reduceIte, reduceCtorEq, if_true, if_false, Bool.not_true, Bool.not_false, decide_true, decide_false, e1]
  have s2 : sIf (tOf (eBin opNe (eUn opList (eVar 6)) (eLc (iRng1 (eVar 3)) (gNm 11) tYes' (eCall 3 m__law_po_worth (aCons (eVar 1) (aCons (eVar 5) (aCons (eVar 11) aNil)))) [11]))) (sRet (eC (.bl false))) sNil [some (D d), some (.int p), some (.int w), some (.int far), some (lI cs), some (tI r), some (tI (code p r far)), none, none, none, none, none] = some (.nx, [some (D d), some (.int p), some (.int w), some (.int far), some (lI cs), some (tI r), some (tI (code p r far)), none, none, none, none, none]) := by
    simp -implicitDefEqProofs only [semDef_ap, sSeq_ap, sSet_ap, sRet_ap, sIf_ap, sExpr_ap, sNil_ap, sNever_ap, sAug_ap, sPar_ap, sAsgT_ap, sStore_ap, sAugStore_ap, sFor_ap, sForO_ap, sWhile_ap, turn_ap, gNm_ap, gsNil_ap, gsCons_ap, gTp_ap, eVar_ap, eMove_ap, eC_ap, eBin_ap, eUn_ap, tOf_ap, tvAnd_ap, tvOr_ap, tvNot_ap, eAnd_ap, eOr_ap, eNot_ap, eIf_ap, eChain_ap, aNil_ap, aCons_ap, aStar_ap, eTup_ap, eLst_ap, eCall_ap, eCallL_ap, lNil_ap, lSh_ap, lLe_ap, lstAt_ap, eOwn2_ap, eSl_ap, pNo_ap, pSome_ap, eLstRg1_ap, eTupRg1_ap, eApp_ap, eExtend_ap, iOf_ap, iEnum_ap, iZip2_ap, iRng1_ap, eLc_ap, keep_nil, keep_zero, opI, opIc, opB, opAdd, opLen, opNeg, opMax, opMin, opAbs, opInt, opIx, opIsNotN, opIsN, isNon, opTuple, opList, opRev, opSl, opSlL, isi_int, isi_boolint, isi_tuple, items?, opEq_int, opNe_int, setAll, forgetAll, wipeE, backE, lentAt, fill, List.cons_append, List.nil_append, List.append_nil, List.replicate_succ, List.replicate_zero, List.getElem?_cons_zero, List.getElem?_cons_succ, List.set_cons_zero, List.set_cons_succ, List.map_cons, List.map_nil, List.length_cons, List.length_nil, List.length_map, List.length_replicate, List.all_nil, List.all_cons, Option.isSome, Option.bind_some, Option.map_some, Option.getD_some, Option.bind_none, Option.map_none, Nat.reduceAdd, Nat.zero_add, beq_self_eq_true, Bool.and_true, Bool.true_and, Bool.false_eq_true, reduceIte, reduceCtorEq, if_true, if_false, Bool.not_true, Bool.not_false, decide_true, decide_false, rg_ok (show far ≤ 16777216 by omega), rg_n, List.length_range, fits_of (show far ≤ 16777216 by omega), l1, ne]
  have s3 : sSet 7 (eUn opLen (eLc (iOf (eVar 6)) (gNm 10) (tOf (eBin opNe (eVar 10) (eC (.int 0)))) (eVar 10) [10])) [some (D d), some (.int p), some (.int w), some (.int far), some (lI cs), some (tI r), some (tI (code p r far)), none, none, none, none, none] = some (.nx, [some (D d), some (.int p), some (.int w), some (.int far), some (lI cs), some (tI r), some (tI (code p r far)), some (.int (wt p r far : Nat)), none, none, none, none]) := by
    simp -implicitDefEqProofs only [semDef_ap, sSeq_ap, sSet_ap, sRet_ap, sIf_ap, sExpr_ap, sNil_ap, sNever_ap, sAug_ap, sPar_ap, sAsgT_ap, sStore_ap, sAugStore_ap, sFor_ap, sForO_ap, sWhile_ap, turn_ap, gNm_ap, gsNil_ap, gsCons_ap, gTp_ap, eVar_ap, eMove_ap, eC_ap, eBin_ap, eUn_ap, tOf_ap, tvAnd_ap, tvOr_ap, tvNot_ap, eAnd_ap, eOr_ap, eNot_ap, eIf_ap, eChain_ap, aNil_ap, aCons_ap, aStar_ap, eTup_ap, eLst_ap, eCall_ap, eCallL_ap, lNil_ap, lSh_ap, lLe_ap, lstAt_ap, eOwn2_ap, eSl_ap, pNo_ap, pSome_ap, eLstRg1_ap, eTupRg1_ap, eApp_ap, eExtend_ap, iOf_ap, iEnum_ap, iZip2_ap, iRng1_ap, eLc_ap, keep_nil, keep_zero, opI, opIc, opB, opAdd, opLen, opNeg, opMax, opMin, opAbs, opInt, opIx, opIsNotN, opIsN, isNon, opTuple, opList, opRev, opSl, opSlL, isi_int, isi_boolint, isi_tuple, items?, opEq_int, opNe_int, setAll, forgetAll, wipeE, backE, lentAt, fill, List.cons_append, List.nil_append, List.append_nil, List.replicate_succ, List.replicate_zero, List.getElem?_cons_zero, List.getElem?_cons_succ, List.set_cons_zero, List.set_cons_succ, List.map_cons, List.map_nil, List.length_cons, List.length_nil, List.length_map, List.length_replicate, List.all_nil, List.all_cons, Option.isSome, Option.bind_some, Option.map_some, Option.getD_some, Option.bind_none, Option.map_none, Nat.reduceAdd, Nat.zero_add, beq_self_eq_true, Bool.and_true, Bool.true_and, Bool.false_eq_true, reduceIte, reduceCtorEq, if_true, if_false, Bool.not_true, Bool.not_false, decide_true, decide_false, code_length, fits_of (show far ≤ 16777216 by omega), l2, hw]
  have s4 : sStore 4 (eVar 7) (eBin opAdd (eOwn2 4 opIx (eVar 7)) (eC (.int 1))) [some (D d), some (.int p), some (.int w), some (.int far), some (lI cs), some (tI r), some (tI (code p r far)), some (.int (wt p r far : Nat)), none, none, none, none] = some (.nx, [some (D d), some (.int p), some (.int w), some (.int far), some (lI (cstep p far cs r)), some (tI r), some (tI (code p r far)), some (.int (wt p r far : Nat)), none, none, none, none]) := by
    simp -implicitDefEqProofs only [semDef_ap, sSeq_ap, sSet_ap, sRet_ap, sIf_ap, sExpr_ap, sNil_ap, sNever_ap, sAug_ap, sPar_ap, sAsgT_ap, sStore_ap, sAugStore_ap, sFor_ap, sForO_ap, sWhile_ap, turn_ap, gNm_ap, gsNil_ap, gsCons_ap, gTp_ap, eVar_ap, eMove_ap, eC_ap, eBin_ap, eUn_ap, tOf_ap, tvAnd_ap, tvOr_ap, tvNot_ap, eAnd_ap, eOr_ap, eNot_ap, eIf_ap, eChain_ap, aNil_ap, aCons_ap, aStar_ap, eTup_ap, eLst_ap, eCall_ap, eCallL_ap, lNil_ap, lSh_ap, lLe_ap, lstAt_ap, eOwn2_ap, eSl_ap, pNo_ap, pSome_ap, eLstRg1_ap, eTupRg1_ap, eApp_ap, eExtend_ap, iOf_ap, iEnum_ap, iZip2_ap, iRng1_ap, eLc_ap, keep_nil, keep_zero, opI, opIc, opB, opAdd, opLen, opNeg, opMax, opMin, opAbs, opInt, opIx, opIsNotN, opIsN, isNon, opTuple, opList, opRev, opSl, opSlL, isi_int, isi_boolint, isi_tuple, items?, opEq_int, opNe_int, setAll, forgetAll, wipeE, backE, lentAt, fill, List.cons_append, List.nil_append, List.append_nil, List.replicate_succ, List.replicate_zero, List.getElem?_cons_zero, List.getElem?_cons_succ, List.set_cons_zero, List.set_cons_succ, List.map_cons, List.map_nil, List.length_cons, List.length_nil, List.length_map, List.length_replicate, List.all_nil, List.all_cons, Option.isSome, Option.bind_some, Option.map_some, Option.getD_some, Option.bind_none, Option.map_none, Nat.reduceAdd, Nat.zero_add, beq_self_eq_true, Bool.and_true, Bool.true_and, Bool.false_eq_true, reduceIte, reduceCtorEq, if_true, if_false, Bool.not_true, Bool.not_false, decide_true, decide_false, hix, hc, hxn, es]
  exact seq_step s1 (seq_step s2 (seq_step s3 s4))
theorem a_loop (d : Int × Int × Int) (p w far : Nat) (hk : (p : Int) ∈ known) (h1 : 1 ≤ w) (h2 : w ≤ 16) (h3 : w ≤ far) (h4 : far ≤ p) (h5 : far ≤ 64) : forL (turn (gNm 5) ALLB [5, 6, 7]) ((pts ((List.range p).map fun (i : Nat) => (i : Int)) w).map tI) [some (D d), some (.int p), some (.int w), some (.int far), some (lI (List.replicate (far + 1) 0)), none, none, none, none, none, none, none]
    = some (.nx, [some (D d), some (.int p), some (.int w), some (.int far), some (lI (cntF p w far)), none, none, none, none, none, none, none]) :=
  (forL_fold (enc := tI) (emb := fun cs : List Int => [some (D d), some (.int p), some (.int w), some (.int far), some (lI cs), none, none, none, none, none, none, none]) (step := cstep p far) (fun cs => cs.length = far + 1) (xs := pts ((List.range p).map fun (i : Nat) => (i : Int)) w) (s := List.replicate (far + 1) 0)
    (fun cs r hcs hr => ⟨a_turn d p w far cs r hk h1 h2 h3 h4 h5 (pts_row p w r hr).1 (pts_row p w r hr).2 hcs, by unfold cstep; rw [List.length_set]; exact hcs⟩) (by simp)).1
theorem sem_rt {n m : Nat} {L : List Nat} {fr : Bool} {x : EvS} {ρ ρ1 : Env} {v : PV} (h : x (ρ ++ List.replicate m none) = some (.rt v, ρ1)) : semDef n m L fr x ρ = some (v, keep L n ρ1) := by
  rw [semDef_ap, h]
theorem t_all (d : Int × Int × Int) : ∃ d', m__law_all_right [some (D d)] = some (.bl true, [some (D d')]) := by
  obtain ⟨x, d1, e1, hx⟩ := s_pick d (menu.map fun q => .tup [.int ((q.1 : Nat) : Int), .int ((q.2 : Nat) : Int)]) (by decide) (by decide)
  obtain ⟨q, hq, rfl⟩ := List.mem_map.mp hx
  have okm := ok_menu q hq
  have hq2 : ∀ q ∈ menu, ((q.1 : Nat) : Int) ∈ known ∧ 1 ≤ q.2 ∧ q.2 ≤ 3 ∧ q.2 ≤ q.1 ∧ q.1 ≤ 13 ∧ ∀ k, k ≤ q.2 → q.1 ^ k ≤ 100000 := by decide +kernel
  obtain ⟨hk, w1, w2, w3, w4, hsz⟩ := hq2 q hq
  obtain ⟨p, w⟩ := q
  simp only at okm hk w1 w2 w3 w4 hsz e1 hx
  obtain ⟨r, d2, e2, r0, r1⟩ := s_roll d1 ((p : Int) - (w : Int) + 1) (by omega) (by omega)
  obtain ⟨r, rfl⟩ := ex_nat r0
  have ok := okm r (by omega)
  obtain ⟨far, hfar⟩ : ∃ far : Nat, w + r = far := ⟨_, rfl⟩
  have hfi : (w : Int) + (r : Int) = (far : Int) := by omega
  rw [hfar] at ok
  unfold okF at ok
  simp only [Bool.and_eq_true, decide_eq_true_eq] at ok
  obtain ⟨o1, o2, o3, o4⟩ := ok
  have lp := a_loop d2 p w far hk w1 (by omega) (by omega) (by omega) (by omega)
  have ep := s_points ((List.range p).map fun (i : Nat) => (i : Int)) w (by omega) (fun k hk => by rw [List.length_map, List.length_range]; exact hsz k hk) (by rw [List.length_map, List.length_range]; omega)
  have en := s_near_row p w hk w1 (by omega) w3
  have ec := s_coded_row p (nearF p w) far hk (by omega) (by omega) o2 (by omega) (by omega) (by omega)
  have r1' : (decide (-(2 ^ 63) ≤ ((far + 1 : Nat) : Int) ∧ ((far + 1 : Nat) : Int) < 2 ^ 63) && fits (1 * (((far + 1 : Nat) : Int)).toNat)) = true := by
    rw [decide_eq_true (by omega), fits_of (by omega)]
    rfl
  have r2' : (List.replicate (((far + 1 : Nat) : Int)).toNat [PV.int 0]).flatten = (List.replicate (far + 1) (0 : Int)).map .int := by
    rw [Int.toNat_natCast]
    exact rep_zero _
  have one : fits 1 = true := by decide
  have two : fits 2 = true := by decide
  have ten : fits 10 = true := by decide
  have f1 : (far : Int) + 1 = ((far + 1 : Nat) : Int) := by omega
  have l3 : lcL (gNm 7) tYes' (eCall 4 m__law_known_count (aCons (eVar 1) (aCons (eVar 3) (aCons (eVar 2) (aCons (eVar 7) aNil))))) [7] ((List.range (far + 1)).map fun (i : Nat) => PV.int (i : Int)) [some (D d2), some (.int p), some (.int w), some (.int far), none, none, none, none, none, none, none, none]
      = some ((cntF p w far).map .int, [some (D d2), some (.int p), some (.int w), some (.int far), none, none, none, none, none, none, none, none]) := by
    rw [o1, List.map_map]
    exact lcL_map fun x hx => ⟨[some (D d2), some (.int p), some (.int w), some (.int far), none, none, none, some (.int x), none, none, none, none], [some (D d2), some (.int p), some (.int w), some (.int far), none, none, none, some (.int x), none, none, none, none], by simp -implicitDefEqProofs only [semDef_ap, sSeq_ap, sSet_ap, sRet_ap, sIf_ap, sExpr_ap, sNil_ap, sNever_ap, sAug_ap, sPar_ap, sAsgT_ap, sStore_ap, sAugStore_ap, sFor_ap, sForO_ap, sWhile_ap, turn_ap, gNm_ap, gsNil_ap, gsCons_ap, gTp_ap, eVar_ap, eMove_ap, eC_ap, eBin_ap, eUn_ap, tOf_ap, tvAnd_ap, tvOr_ap, tvNot_ap, eAnd_ap, eOr_ap, eNot_ap, eIf_ap, eChain_ap, aNil_ap, aCons_ap, aStar_ap, eTup_ap, eLst_ap, eCall_ap, eCallL_ap, lNil_ap, lSh_ap, lLe_ap, lstAt_ap, eOwn2_ap, eSl_ap, pNo_ap, pSome_ap, eLstRg1_ap, eTupRg1_ap, eApp_ap, eExtend_ap, iOf_ap, iEnum_ap, iZip2_ap, iRng1_ap, eLc_ap, keep_nil, keep_zero, opI, opIc, opB, opAdd, opLen, opNeg, opMax, opMin, opAbs, opInt, opIx, opIsNotN, opIsN, isNon, opTuple, opList, opRev, opSl, opSlL, isi_int, isi_boolint, isi_tuple, items?, opEq_int, opNe_int, setAll, forgetAll, wipeE, backE, lentAt, fill, List.cons_append, List.nil_append, List.append_nil, List.replicate_succ, List.replicate_zero, List.getElem?_cons_zero, List.getElem?_cons_succ, List.set_cons_zero, List.set_cons_succ, List.map_cons, List.map_nil, List.length_cons, List.length_nil, List.length_map, List.length_replicate, List.all_nil, List.all_cons, Option.isSome, Option.bind_some, Option.map_some, Option.getD_some, Option.bind_none, Option.map_none, Nat.reduceAdd, Nat.zero_add, beq_self_eq_true, Bool.and_true, Bool.true_and, Bool.false_eq_true, reduceIte, reduceCtorEq, if_true, if_false, Bool.not_true, Bool.not_false, decide_true, decide_false], by
      have hx := List.mem_range.mp hx
      have e := s_known_count p far w x (by omega) (by omega) (by omega) w1 w2 (by omega)
      simp -implicitDefEqProofs only [semDef_ap, sSeq_ap, sSet_ap, sRet_ap, sIf_ap, sExpr_ap, sNil_ap, sNever_ap, sAug_ap, sPar_ap, sAsgT_ap, sStore_ap, sAugStore_ap, sFor_ap, sForO_ap, sWhile_ap, turn_ap, gNm_ap, gsNil_ap, gsCons_ap, gTp_ap, eVar_ap, eMove_ap, eC_ap, eBin_ap, eUn_ap, tOf_ap, tvAnd_ap, tvOr_ap, tvNot_ap, eAnd_ap, eOr_ap, eNot_ap, eIf_ap, eChain_ap, aNil_ap, aCons_ap, aStar_ap, eTup_ap, eLst_ap, eCall_ap, eCallL_ap, lNil_ap, lSh_ap, lLe_ap, lstAt_ap, eOwn2_ap, eSl_ap, pNo_ap, pSome_ap, eLstRg1_ap, eTupRg1_ap, eApp_ap, eExtend_ap, iOf_ap, iEnum_ap, iZip2_ap, iRng1_ap, eLc_ap, keep_nil, keep_zero, opI, opIc, opB, opAdd, opLen, opNeg, opMax, opMin, opAbs, opInt, opIx, opIsNotN, opIsN, isNon, opTuple, opList, opRev, opSl, opSlL, isi_int, isi_boolint, isi_tuple, items?, opEq_int, opNe_int, setAll, forgetAll, wipeE, backE, lentAt, fill, List.cons_append, List.nil_append, List.append_nil, List.replicate_succ, List.replicate_zero, List.getElem?_cons_zero, List.getElem?_cons_succ, List.set_cons_zero, List.set_cons_succ, List.map_cons, List.map_nil, List.length_cons, List.length_nil, List.length_map, List.length_replicate, List.all_nil, List.all_cons, Option.isSome, Option.bind_some, Option.map_some, Option.getD_some, Option.bind_none, Option.map_none, Nat.reduceAdd, Nat.zero_add, beq_self_eq_true, Bool.and_true, Bool.true_and, Bool.false_eq_true, reduceIte, reduceCtorEq, if_true, if_false, Bool.not_true, Bool.not_false, decide_true, decide_false, e]
      rfl, by simp -implicitDefEqProofs only [semDef_ap, sSeq_ap, sSet_ap, sRet_ap, sIf_ap, sExpr_ap, sNil_ap, sNever_ap, sAug_ap, sPar_ap, sAsgT_ap, sStore_ap, sAugStore_ap, sFor_ap, sForO_ap, sWhile_ap, turn_ap, gNm_ap, gsNil_ap, gsCons_ap, gTp_ap, eVar_ap, eMove_ap, eC_ap, eBin_ap, eUn_ap, tOf_ap, tvAnd_ap, tvOr_ap, tvNot_ap, eAnd_ap, eOr_ap, eNot_ap, eIf_ap, eChain_ap, aNil_ap, aCons_ap, aStar_ap, eTup_ap, eLst_ap, eCall_ap, eCallL_ap, lNil_ap, lSh_ap, lLe_ap, lstAt_ap, eOwn2_ap, eSl_ap, pNo_ap, pSome_ap, eLstRg1_ap, eTupRg1_ap, eApp_ap, eExtend_ap, iOf_ap, iEnum_ap, iZip2_ap, iRng1_ap, eLc_ap, keep_nil, keep_zero, opI, opIc, opB, opAdd, opLen, opNeg, opMax, opMin, opAbs, opInt, opIx, opIsNotN, opIsN, isNon, opTuple, opList, opRev, opSl, opSlL, isi_int, isi_boolint, isi_tuple, items?, opEq_int, opNe_int, setAll, forgetAll, wipeE, backE, lentAt, fill, List.cons_append, List.nil_append, List.append_nil, List.replicate_succ, List.replicate_zero, List.getElem?_cons_zero, List.getElem?_cons_succ, List.set_cons_zero, List.set_cons_succ, List.map_cons, List.map_nil, List.length_cons, List.length_nil, List.length_map, List.length_replicate, List.all_nil, List.all_cons, Option.isSome, Option.bind_some, Option.map_some, Option.getD_some, Option.bind_none, Option.map_none, Nat.reduceAdd, Nat.zero_add, beq_self_eq_true, Bool.and_true, Bool.true_and, Bool.false_eq_true, reduceIte, reduceCtorEq, if_true, if_false, Bool.not_true, Bool.not_false, decide_true, decide_false]⟩
  have l4 : ∀ cs : Option PV, lcL (gTp 2 (gsCons (gNm 9) (gsCons (gNm 10) gsNil))) (tOf (eBin opEq (eVar 10) (eC (.int 0)))) (eVar 9) [9, 10] ((code p (nearF p w) far).zipIdx.map fun q => PV.tup [.int ((q.2 : Nat) : Int), .int q.1]) [some (D d2), some (.int p), some (.int w), some (.int far), cs, none, none, none, some (tI (code p (nearF p w) far)), none, none, none]
      = some ((zeros (code p (nearF p w) far)).map .int, [some (D d2), some (.int p), some (.int w), some (.int far), cs, none, none, none, some (tI (code p (nearF p w) far)), none, none, none]) := fun cs => by
    unfold zeros
    rw [List.map_map]
    exact lcL_filter fun x hx => ⟨[some (D d2), some (.int p), some (.int w), some (.int far), cs, none, none, none, some (tI (code p (nearF p w) far)), some (.int ((x.2 : Nat) : Int)), some (.int x.1), none], [some (D d2), some (.int p), some (.int w), some (.int far), cs, none, none, none, some (tI (code p (nearF p w) far)), some (.int ((x.2 : Nat) : Int)), some (.int x.1), none], by simp -implicitDefEqProofs only [semDef_ap, sSeq_ap, sSet_ap, sRet_ap, sIf_ap, sExpr_ap, sNil_ap, sNever_ap, sAug_ap, sPar_ap, sAsgT_ap, sStore_ap, sAugStore_ap, sFor_ap, sForO_ap, sWhile_ap, turn_ap, gNm_ap, gsNil_ap, gsCons_ap, gTp_ap, eVar_ap, eMove_ap, eC_ap, eBin_ap, eUn_ap, tOf_ap, tvAnd_ap, tvOr_ap, tvNot_ap, eAnd_ap, eOr_ap, eNot_ap, eIf_ap, eChain_ap, aNil_ap, aCons_ap, aStar_ap, eTup_ap, eLst_ap, eCall_ap, eCallL_ap, lNil_ap, lSh_ap, lLe_ap, lstAt_ap, eOwn2_ap, eSl_ap, pNo_ap, pSome_ap, eLstRg1_ap, eTupRg1_ap, eApp_ap, eExtend_ap, iOf_ap, iEnum_ap, iZip2_ap, iRng1_ap, eLc_ap, keep_nil, keep_zero, opI, opIc, opB, opAdd, opLen, opNeg, opMax, opMin, opAbs, opInt, opIx, opIsNotN, opIsN, isNon, opTuple, opList, opRev, opSl, opSlL, isi_int, isi_boolint, isi_tuple, items?, opEq_int, opNe_int, setAll, forgetAll, wipeE, backE, lentAt, fill, List.cons_append, List.nil_append, List.append_nil, List.replicate_succ, List.replicate_zero, List.getElem?_cons_zero, List.getElem?_cons_succ, List.set_cons_zero, List.set_cons_succ, List.map_cons, List.map_nil, List.length_cons, List.length_nil, List.length_map, List.length_replicate, List.all_nil, List.all_cons, Option.isSome, Option.bind_some, Option.map_some, Option.getD_some, Option.bind_none, Option.map_none, Nat.reduceAdd, Nat.zero_add, beq_self_eq_true, Bool.and_true, Bool.true_and, Bool.false_eq_true, reduceIte, reduceCtorEq, if_true, if_false, Bool.not_true, Bool.not_false, decide_true, decide_false], by simp -implicitDefEqProofs only [semDef_ap, sSeq_ap, sSet_ap, sRet_ap, sIf_ap, sExpr_ap, sNil_ap, sNever_ap, sAug_ap, sPar_ap, sAsgT_ap, sStore_ap, sAugStore_ap, sFor_ap, sForO_ap, sWhile_ap, turn_ap, gNm_ap, gsNil_ap, gsCons_ap, gTp_ap, eVar_ap, eMove_ap, eC_ap, eBin_ap, eUn_ap, tOf_ap, tvAnd_ap, tvOr_ap, tvNot_ap, eAnd_ap, eOr_ap, eNot_ap, eIf_ap, eChain_ap, aNil_ap, aCons_ap, aStar_ap, eTup_ap, eLst_ap, eCall_ap, eCallL_ap, lNil_ap, lSh_ap, lLe_ap, lstAt_ap, eOwn2_ap, eSl_ap, pNo_ap, pSome_ap, eLstRg1_ap, eTupRg1_ap, eApp_ap, eExtend_ap, iOf_ap, iEnum_ap, iZip2_ap, iRng1_ap, eLc_ap, keep_nil, keep_zero, opI, opIc, opB, opAdd, opLen, opNeg, opMax, opMin, opAbs, opInt, opIx, opIsNotN, opIsN, isNon, opTuple, opList, opRev, opSl, opSlL, isi_int, isi_boolint, isi_tuple, items?, opEq_int, opNe_int, setAll, forgetAll, wipeE, backE, lentAt, fill, List.cons_append, List.nil_append, List.append_nil, List.replicate_succ, List.replicate_zero, List.getElem?_cons_zero, List.getElem?_cons_succ, List.set_cons_zero, List.set_cons_succ, List.map_cons, List.map_nil, List.length_cons, List.length_nil, List.length_map, List.length_replicate, List.all_nil, List.all_cons, Option.isSome, Option.bind_some, Option.map_some, Option.getD_some, Option.bind_none, Option.map_none, Nat.reduceAdd, Nat.zero_add, beq_self_eq_true, Bool.and_true, Bool.true_and, Bool.false_eq_true, reduceIte, reduceCtorEq, if_true, if_false, Bool.not_true, Bool.not_false, decide_true, decide_false], fun _ => ⟨[some (D d2), some (.int p), some (.int w), some (.int far), cs, none, none, none, some (tI (code p (nearF p w) far)), some (.int ((x.2 : Nat) : Int)), some (.int x.1), none], by simp -implicitDefEqProofs only [semDef_ap, sSeq_ap, sSet_ap, sRet_ap, sIf_ap, sExpr_ap, sNil_ap, sNever_ap, sAug_ap, sPar_ap, sAsgT_ap, sStore_ap, sAugStore_ap, sFor_ap, sForO_ap, sWhile_ap, turn_ap, gNm_ap, gsNil_ap, gsCons_ap, gTp_ap, eVar_ap, eMove_ap, eC_ap, eBin_ap, eUn_ap, tOf_ap, tvAnd_ap, tvOr_ap, tvNot_ap, eAnd_ap, eOr_ap, eNot_ap, eIf_ap, eChain_ap, aNil_ap, aCons_ap, aStar_ap, eTup_ap, eLst_ap, eCall_ap, eCallL_ap, lNil_ap, lSh_ap, lLe_ap, lstAt_ap, eOwn2_ap, eSl_ap, pNo_ap, pSome_ap, eLstRg1_ap, eTupRg1_ap, eApp_ap, eExtend_ap, iOf_ap, iEnum_ap, iZip2_ap, iRng1_ap, eLc_ap, keep_nil, keep_zero, opI, opIc, opB, opAdd, opLen, opNeg, opMax, opMin, opAbs, opInt, opIx, opIsNotN, opIsN, isNon, opTuple, opList, opRev, opSl, opSlL, isi_int, isi_boolint, isi_tuple, items?, opEq_int, opNe_int, setAll, forgetAll, wipeE, backE, lentAt, fill, List.cons_append, List.nil_append, List.append_nil, List.replicate_succ, List.replicate_zero, List.getElem?_cons_zero, List.getElem?_cons_succ, List.set_cons_zero, List.set_cons_succ, List.map_cons, List.map_nil, List.length_cons, List.length_nil, List.length_map, List.length_replicate, List.all_nil, List.all_cons, Option.isSome, Option.bind_some, Option.map_some, Option.getD_some, Option.bind_none, Option.map_none, Nat.reduceAdd, Nat.zero_add, beq_self_eq_true, Bool.and_true, Bool.true_and, Bool.false_eq_true, reduceIte, reduceCtorEq, if_true, if_false, Bool.not_true, Bool.not_false, decide_true, decide_false]; rfl, by simp -implicitDefEqProofs only [semDef_ap, sSeq_ap, sSet_ap, sRet_ap, sIf_ap, sExpr_ap, sNil_ap, sNever_ap, sAug_ap, sPar_ap, sAsgT_ap, sStore_ap, sAugStore_ap, sFor_ap, sForO_ap, sWhile_ap, turn_ap, gNm_ap, gsNil_ap, gsCons_ap, gTp_ap, eVar_ap, eMove_ap, eC_ap, eBin_ap, eUn_ap, tOf_ap, tvAnd_ap, tvOr_ap, tvNot_ap, eAnd_ap, eOr_ap, eNot_ap, eIf_ap, eChain_ap, aNil_ap, aCons_ap, aStar_ap, eTup_ap, eLst_ap, eCall_ap, eCallL_ap, lNil_ap, lSh_ap, lLe_ap, lstAt_ap, eOwn2_ap, eSl_ap, pNo_ap, pSome_ap, eLstRg1_ap, eTupRg1_ap, eApp_ap, eExtend_ap, iOf_ap, iEnum_ap, iZip2_ap, iRng1_ap, eLc_ap, keep_nil, keep_zero, opI, opIc, opB, opAdd, opLen, opNeg, opMax, opMin, opAbs, opInt, opIx, opIsNotN, opIsN, isNon, opTuple, opList, opRev, opSl, opSlL, isi_int, isi_boolint, isi_tuple, items?, opEq_int, opNe_int, setAll, forgetAll, wipeE, backE, lentAt, fill, List.cons_append, List.nil_append, List.append_nil, List.replicate_succ, List.replicate_zero, List.getElem?_cons_zero, List.getElem?_cons_succ, List.set_cons_zero, List.set_cons_succ, List.map_cons, List.map_nil, List.length_cons, List.length_nil, List.length_map, List.length_replicate, List.all_nil, List.all_cons, Option.isSome, Option.bind_some, Option.map_some, Option.getD_some, Option.bind_none, Option.map_none, Nat.reduceAdd, Nat.zero_add, beq_self_eq_true, Bool.and_true, Bool.true_and, Bool.false_eq_true, reduceIte, reduceCtorEq, if_true, if_false, Bool.not_true, Bool.not_false, decide_true, decide_false]⟩, fun _ => by simp -implicitDefEqProofs only [semDef_ap, sSeq_ap, sSet_ap, sRet_ap, sIf_ap, sExpr_ap, sNil_ap, sNever_ap, sAug_ap, sPar_ap, sAsgT_ap, sStore_ap, sAugStore_ap, sFor_ap, sForO_ap, sWhile_ap, turn_ap, gNm_ap, gsNil_ap, gsCons_ap, gTp_ap, eVar_ap, eMove_ap, eC_ap, eBin_ap, eUn_ap, tOf_ap, tvAnd_ap, tvOr_ap, tvNot_ap, eAnd_ap, eOr_ap, eNot_ap, eIf_ap, eChain_ap, aNil_ap, aCons_ap, aStar_ap, eTup_ap, eLst_ap, eCall_ap, eCallL_ap, lNil_ap, lSh_ap, lLe_ap, lstAt_ap, eOwn2_ap, eSl_ap, pNo_ap, pSome_ap, eLstRg1_ap, eTupRg1_ap, eApp_ap, eExtend_ap, iOf_ap, iEnum_ap, iZip2_ap, iRng1_ap, eLc_ap, keep_nil, keep_zero, opI, opIc, opB, opAdd, opLen, opNeg, opMax, opMin, opAbs, opInt, opIx, opIsNotN, opIsN, isNon, opTuple, opList, opRev, opSl, opSlL, isi_int, isi_boolint, isi_tuple, items?, opEq_int, opNe_int, setAll, forgetAll, wipeE, backE, lentAt, fill, List.cons_append, List.nil_append, List.append_nil, List.replicate_succ, List.replicate_zero, List.getElem?_cons_zero, List.getElem?_cons_succ, List.set_cons_zero, List.set_cons_succ, List.map_cons, List.map_nil, List.length_cons, List.length_nil, List.length_map, List.length_replicate, List.all_nil, List.all_cons, Option.isSome, Option.bind_some, Option.map_some, Option.getD_some, Option.bind_none, Option.map_none, Nat.reduceAdd, Nat.zero_add, beq_self_eq_true, Bool.and_true, Bool.true_and, Bool.false_eq_true, reduceIte, reduceCtorEq, if_true, if_false, Bool.not_true, Bool.not_false, decide_true, decide_false]⟩
  have fz : fits (code p (nearF p w) far).zipIdx.length = true := fits_of (by rw [List.length_zipIdx, code_length]; omega)
  have w1i : (w : Int) - 1 = ((w - 1 : Nat) : Int) := by omega
  have nec : opNe (lI (cntF p w far)) (lI (cntF p w far)) = some (.bl false) := opNe_self (Lay.lI _)
  have eqz : opEq (lI ((List.range (w - 1)).map fun (i : Nat) => (i : Int))) (lI ((List.range (w - 1)).map fun (i : Nat) => (i : Int))) = some (.bl true) := opEq_self (Lay.lI _)
  have e1' : m__law_pick [some (D d), some (.lst [.tup [.int 3, .int 1], .tup [.int 3, .int 2], .tup [.int 3, .int 3], .tup [.int 5, .int 1], .tup [.int 5, .int 2], .tup [.int 5, .int 3], .tup [.int 7, .int 1], .tup [.int 7, .int 2], .tup [.int 11, .int 2], .tup [.int 13, .int 2]])] = some (.tup [.int p, .int w], [some (D d1), none]) := e1
  generalize hZ : List.replicate (far + 1) (0 : Int) = Z at *
  have s1 : (sAsgT (eCallL 2 0 0 m__law_pick (lLe 0 (lSh (eLst (aCons (eTup (aCons (eC (.int 3)) (aCons (eC (.int 1)) aNil))) (aCons (eTup (aCons (eC (.int 3)) (aCons (eC (.int 2)) aNil))) (aCons (eTup (aCons (eC (.int 3)) (aCons (eC (.int 3)) aNil))) (aCons (eTup (aCons (eC (.int 5)) (aCons (eC (.int 1)) aNil))) (aCons (eTup (aCons (eC (.int 5)) (aCons (eC (.int 2)) aNil))) (aCons (eTup (aCons (eC (.int 5)) (aCons (eC (.int 3)) aNil))) (aCons (eTup (aCons (eC (.int 7)) (aCons (eC (.int 1)) aNil))) (aCons (eTup (aCons (eC (.int 7)) (aCons (eC (.int 2)) aNil))) (aCons (eTup (aCons (eC (.int 11)) (aCons (eC (.int 2)) aNil))) (aCons (eTup (aCons (eC (.int 13)) (aCons (eC (.int 2)) aNil))) aNil))))))))))) lNil))) (gTp 2 (gsCons (gNm 1) (gsCons (gNm 2) gsNil)))) [some (D d), none, none, none, none, none, none, none, none, none, none, none] = some (.nx, [some (D d1), some (.int p), some (.int w), none, none, none, none, none, none, none, none, none]) := by
    simp -implicitDefEqProofs only [semDef_ap, sSeq_ap, sSet_ap, sRet_ap, sIf_ap, sExpr_ap, sNil_ap, sNever_ap, sAug_ap, sPar_ap, sAsgT_ap, sStore_ap, sAugStore_ap, sFor_ap, sForO_ap, sWhile_ap, turn_ap, gNm_ap, gsNil_ap, gsCons_ap, gTp_ap, eVar_ap, eMove_ap, eC_ap, eBin_ap, eUn_ap, tOf_ap, tvAnd_ap, tvOr_ap, tvNot_ap, eAnd_ap, eOr_ap, eNot_ap, eIf_ap, eChain_ap, aNil_ap, aCons_ap, aStar_ap, eTup_ap, eLst_ap, eCall_ap, eCallL_ap, lNil_ap, lSh_ap, lLe_ap, lstAt_ap, eOwn2_ap, eSl_ap, pNo_ap, pSome_ap, eLstRg1_ap, eTupRg1_ap, eApp_ap, eExtend_ap, iOf_ap, iEnum_ap, iZip2_ap, iRng1_ap, eLc_ap, keep_nil, keep_zero, opI, opIc, opB, opAdd, opLen, opNeg, opMax, opMin, opAbs, opInt, opIx, opIsNotN, opIsN, isNon, opTuple, opList, opRev, opSl, opSlL, isi_int, isi_boolint, isi_tuple, items?, opEq_int, opNe_int, setAll, forgetAll, wipeE, backE, lentAt, fill, List.cons_append, List.nil_append, List.append_nil, List.replicate_succ, List.replicate_zero, List.getElem?_cons_zero, List.getElem?_cons_succ, List.set_cons_zero, List.set_cons_succ, List.map_cons, List.map_nil, List.length_cons, List.length_nil, List.length_map, List.length_replicate, List.all_nil, List.all_cons, Option.isSome, Option.bind_some, Option.map_some, Option.getD_some, Option.bind_none, Option.map_none, Nat.reduceAdd, Nat.zero_add, beq_self_eq_true, Bool.and_true, Bool.true_and, Bool.false_eq_true, reduceIte, reduceCtorEq, if_true, if_false, Bool.not_true, Bool.not_false, decide_true, decide_false, two, ten, e1']
  have s2 : (sSet 3 (eBin opAdd (eVar 2) (eCallL 2 0 0 m__law_roll (lLe 0 (lSh (eBin opAdd (eBin opSub (eVar 1) (eVar 2)) (eC (.int 1))) lNil))))) [some (D d1), some (.int p), some (.int w), none, none, none, none, none, none, none, none, none] = some (.nx, [some (D d2), some (.int p), some (.int w), some (.int far), none, none, none, none, none, none, none, none]) := by
    simp -implicitDefEqProofs only [semDef_ap, sSeq_ap, sSet_ap, sRet_ap, sIf_ap, sExpr_ap, sNil_ap, sNever_ap, sAug_ap, sPar_ap, sAsgT_ap, sStore_ap, sAugStore_ap, sFor_ap, sForO_ap, sWhile_ap, turn_ap, gNm_ap, gsNil_ap, gsCons_ap, gTp_ap, eVar_ap, eMove_ap, eC_ap, eBin_ap, eUn_ap, tOf_ap, tvAnd_ap, tvOr_ap, tvNot_ap, eAnd_ap, eOr_ap, eNot_ap, eIf_ap, eChain_ap, aNil_ap, aCons_ap, aStar_ap, eTup_ap, eLst_ap, eCall_ap, eCallL_ap, lNil_ap, lSh_ap, lLe_ap, lstAt_ap, eOwn2_ap, eSl_ap, pNo_ap, pSome_ap, eLstRg1_ap, eTupRg1_ap, eApp_ap, eExtend_ap, iOf_ap, iEnum_ap, iZip2_ap, iRng1_ap, eLc_ap, keep_nil, keep_zero, opI, opIc, opB, opAdd, opLen, opNeg, opMax, opMin, opAbs, opInt, opIx, opIsNotN, opIsN, isNon, opTuple, opList, opRev, opSl, opSlL, isi_int, isi_boolint, isi_tuple, items?, opEq_int, opNe_int, setAll, forgetAll, wipeE, backE, lentAt, fill, List.cons_append, List.nil_append, List.append_nil, List.replicate_succ, List.replicate_zero, List.getElem?_cons_zero, List.getElem?_cons_succ, List.set_cons_zero, List.set_cons_succ, List.map_cons, List.map_nil, List.length_cons, List.length_nil, List.length_map, List.length_replicate, List.all_nil, List.all_cons, Option.isSome, Option.bind_some, Option.map_some, Option.getD_some, Option.bind_none, Option.map_none, Nat.reduceAdd, Nat.zero_add, beq_self_eq_true, Bool.and_true, Bool.true_and, Bool.false_eq_true, reduceIte, reduceCtorEq, if_true, if_false, Bool.not_true, Bool.not_false, decide_true, decide_false, e2, hfi]
  have s3 : (sSet 4 (eBin opRep (eLst (aCons (eC (.int 0)) aNil)) (eBin opAdd (eVar 3) (eC (.int 1))))) [some (D d2), some (.int p), some (.int w), some (.int far), none, none, none, none, none, none, none, none] = some (.nx, [some (D d2), some (.int p), some (.int w), some (.int far), some (lI Z), none, none, none, none, none, none, none]) := by
    simp -implicitDefEqProofs only [semDef_ap, sSeq_ap, sSet_ap, sRet_ap, sIf_ap, sExpr_ap, sNil_ap, sNever_ap, sAug_ap, sPar_ap, sAsgT_ap, sStore_ap, sAugStore_ap, sFor_ap, sForO_ap, sWhile_ap, turn_ap, gNm_ap, gsNil_ap, gsCons_ap, gTp_ap, eVar_ap, eMove_ap, eC_ap, eBin_ap, eUn_ap, tOf_ap, tvAnd_ap, tvOr_ap, tvNot_ap, eAnd_ap, eOr_ap, eNot_ap, eIf_ap, eChain_ap, aNil_ap, aCons_ap, aStar_ap, eTup_ap, eLst_ap, eCall_ap, eCallL_ap, lNil_ap, lSh_ap, lLe_ap, lstAt_ap, eOwn2_ap, eSl_ap, pNo_ap, pSome_ap, eLstRg1_ap, eTupRg1_ap, eApp_ap, eExtend_ap, iOf_ap, iEnum_ap, iZip2_ap, iRng1_ap, eLc_ap, keep_nil, keep_zero, opI, opIc, opB, opAdd, opLen, opNeg, opMax, opMin, opAbs, opInt, opIx, opIsNotN, opIsN, isNon, opTuple, opList, opRev, opSl, opSlL, isi_int, isi_boolint, isi_tuple, items?, opEq_int, opNe_int, setAll, forgetAll, wipeE, backE, lentAt, fill, List.cons_append, List.nil_append, List.append_nil, List.replicate_succ, List.replicate_zero, List.getElem?_cons_zero, List.getElem?_cons_succ, List.set_cons_zero, List.set_cons_succ, List.map_cons, List.map_nil, List.length_cons, List.length_nil, List.length_map, List.length_replicate, List.all_nil, List.all_cons, Option.isSome, Option.bind_some, Option.map_some, Option.getD_some, Option.bind_none, Option.map_none, Nat.reduceAdd, Nat.zero_add, beq_self_eq_true, Bool.and_true, Bool.true_and, Bool.false_eq_true, reduceIte, reduceCtorEq, if_true, if_false, Bool.not_true, Bool.not_false, decide_true, decide_false, f1, one, opRep, r1', r2']
  have s4 : (sFor (iOf (eCall 2 m__law_points (aCons (eLstRg1 (eVar 1)) (aCons (eVar 2) aNil)))) (gNm 5) (sSeq (sSet 6 (eCall 3 m_coded_row (aCons (eVar 1) (aCons (eVar 5) (aCons (eVar 3) aNil)))))
    (sSeq (sIf (tOf (eBin opNe (eUn opList (eVar 6)) (eLc (iRng1 (eVar 3)) (gNm 11) tYes' (eCall 3 m__law_po_worth (aCons (eVar 1) (aCons (eVar 5) (aCons (eVar 11) aNil)))) [11]))) (sRet (eC (.bl false))) sNil)
    (sSeq (sSet 7 (eUn opLen (eLc (iOf (eVar 6)) (gNm 10) (tOf (eBin opNe (eVar 10) (eC (.int 0)))) (eVar 10) [10])))
    (sStore 4 (eVar 7) (eBin opAdd (eOwn2 4 opIx (eVar 7)) (eC (.int 1))))))) [5, 6, 7]) [some (D d2), some (.int p), some (.int w), some (.int far), some (lI Z), none, none, none, none, none, none, none] = some (.nx, [some (D d2), some (.int p), some (.int w), some (.int far), some (lI (cntF p w far)), none, none, none, none, none, none, none]) := by
    simp -implicitDefEqProofs only [semDef_ap, sSeq_ap, sSet_ap, sRet_ap, sIf_ap, sExpr_ap, sNil_ap, sNever_ap, sAug_ap, sPar_ap, sAsgT_ap, sStore_ap, sAugStore_ap, sFor_ap, sForO_ap, sWhile_ap, turn_ap, gNm_ap, gsNil_ap, gsCons_ap, gTp_ap, eVar_ap, eMove_ap, eC_ap, eBin_ap, eUn_ap, tOf_ap, tvAnd_ap, tvOr_ap, tvNot_ap, eAnd_ap, eOr_ap, eNot_ap, eIf_ap, eChain_ap, aNil_ap, aCons_ap, aStar_ap, eTup_ap, eLst_ap, eCall_ap, eCallL_ap, lNil_ap, lSh_ap, lLe_ap, lstAt_ap, eOwn2_ap, eSl_ap, pNo_ap, pSome_ap, eLstRg1_ap, eTupRg1_ap, eApp_ap, eExtend_ap, iOf_ap, iEnum_ap, iZip2_ap, iRng1_ap, eLc_ap, keep_nil, keep_zero, opI, opIc, opB, opAdd, opLen, opNeg, opMax, opMin, opAbs, opInt, opIx, opIsNotN, opIsN, isNon, opTuple, opList, opRev, opSl, opSlL, isi_int, isi_boolint, isi_tuple, items?, opEq_int, opNe_int, setAll, forgetAll, wipeE, backE, lentAt, fill, List.cons_append, List.nil_append, List.append_nil, List.replicate_succ, List.replicate_zero, List.getElem?_cons_zero, List.getElem?_cons_succ, List.set_cons_zero, List.set_cons_succ, List.map_cons, List.map_nil, List.length_cons, List.length_nil, List.length_map, List.length_replicate, List.all_nil, List.all_cons, Option.isSome, Option.bind_some, Option.map_some, Option.getD_some, Option.bind_none, Option.map_none, Nat.reduceAdd, Nat.zero_add, beq_self_eq_true, Bool.and_true, Bool.true_and, Bool.false_eq_true, reduceIte, reduceCtorEq, if_true, if_false, Bool.not_true, Bool.not_false, decide_true, decide_false, rgOk_n (show p ≤ 16777216 by omega), rgP_n, ep, lp]
  have s5 : (sIf (tOf (eOwn2 4 opNe (eLc (iRng1 (eBin opAdd (eVar 3) (eC (.int 1)))) (gNm 7) tYes' (eCall 4 m__law_known_count (aCons (eVar 1) (aCons (eVar 3) (aCons (eVar 2) (aCons (eVar 7) aNil))))) [7]))) (sRet (eC (.bl false))) sNil) [some (D d2), some (.int p), some (.int w), some (.int far), some (lI (cntF p w far)), none, none, none, none, none, none, none] = some (.nx, [some (D d2), some (.int p), some (.int w), some (.int far), some (lI (cntF p w far)), none, none, none, none, none, none, none]) := by
    simp -implicitDefEqProofs only [semDef_ap, sSeq_ap, sSet_ap, sRet_ap, sIf_ap, sExpr_ap, sNil_ap, sNever_ap, sAug_ap, sPar_ap, sAsgT_ap, sStore_ap, sAugStore_ap, sFor_ap, sForO_ap, sWhile_ap, turn_ap, gNm_ap, gsNil_ap, gsCons_ap, gTp_ap, eVar_ap, eMove_ap, eC_ap, eBin_ap, eUn_ap, tOf_ap, tvAnd_ap, tvOr_ap, tvNot_ap, eAnd_ap, eOr_ap, eNot_ap, eIf_ap, eChain_ap, aNil_ap, aCons_ap, aStar_ap, eTup_ap, eLst_ap, eCall_ap, eCallL_ap, lNil_ap, lSh_ap, lLe_ap, lstAt_ap, eOwn2_ap, eSl_ap, pNo_ap, pSome_ap, eLstRg1_ap, eTupRg1_ap, eApp_ap, eExtend_ap, iOf_ap, iEnum_ap, iZip2_ap, iRng1_ap, eLc_ap, keep_nil, keep_zero, opI, opIc, opB, opAdd, opLen, opNeg, opMax, opMin, opAbs, opInt, opIx, opIsNotN, opIsN, isNon, opTuple, opList, opRev, opSl, opSlL, isi_int, isi_boolint, isi_tuple, items?, opEq_int, opNe_int, setAll, forgetAll, wipeE, backE, lentAt, fill, List.cons_append, List.nil_append, List.append_nil, List.replicate_succ, List.replicate_zero, List.getElem?_cons_zero, List.getElem?_cons_succ, List.set_cons_zero, List.set_cons_succ, List.map_cons, List.map_nil, List.length_cons, List.length_nil, List.length_map, List.length_replicate, List.all_nil, List.all_cons, Option.isSome, Option.bind_some, Option.map_some, Option.getD_some, Option.bind_none, Option.map_none, Nat.reduceAdd, Nat.zero_add, beq_self_eq_true, Bool.and_true, Bool.true_and, Bool.false_eq_true, reduceIte, reduceCtorEq, if_true, if_false, Bool.not_true, Bool.not_false, decide_true, decide_false, f1, rg_ok (show far + 1 ≤ 16777216 by omega), rg_n, List.length_range, fits_of (show far + 1 ≤ 16777216 by omega), l3, nec]
  have s6 : (sSet 8 (eCall 3 m_coded_row (aCons (eVar 1) (aCons (eCall 2 m_near_row (aCons (eVar 1) (aCons (eVar 2) aNil))) (aCons (eVar 3) aNil))))) [some (D d2), some (.int p), some (.int w), some (.int far), some (lI (cntF p w far)), none, none, none, none, none, none, none] = some (.nx, [some (D d2), some (.int p), some (.int w), some (.int far), some (lI (cntF p w far)), none, none, none, some (tI (code p (nearF p w) far)), none, none, none]) := by
    simp -implicitDefEqProofs only [semDef_ap, sSeq_ap, sSet_ap, sRet_ap, sIf_ap, sExpr_ap, sNil_ap, sNever_ap, sAug_ap, sPar_ap, sAsgT_ap, sStore_ap, sAugStore_ap, sFor_ap, sForO_ap, sWhile_ap, turn_ap, gNm_ap, gsNil_ap, gsCons_ap, gTp_ap, eVar_ap, eMove_ap, eC_ap, eBin_ap, eUn_ap, tOf_ap, tvAnd_ap, tvOr_ap, tvNot_ap, eAnd_ap, eOr_ap, eNot_ap, eIf_ap, eChain_ap, aNil_ap, aCons_ap, aStar_ap, eTup_ap, eLst_ap, eCall_ap, eCallL_ap, lNil_ap, lSh_ap, lLe_ap, lstAt_ap, eOwn2_ap, eSl_ap, pNo_ap, pSome_ap, eLstRg1_ap, eTupRg1_ap, eApp_ap, eExtend_ap, iOf_ap, iEnum_ap, iZip2_ap, iRng1_ap, eLc_ap, keep_nil, keep_zero, opI, opIc, opB, opAdd, opLen, opNeg, opMax, opMin, opAbs, opInt, opIx, opIsNotN, opIsN, isNon, opTuple, opList, opRev, opSl, opSlL, isi_int, isi_boolint, isi_tuple, items?, opEq_int, opNe_int, setAll, forgetAll, wipeE, backE, lentAt, fill, List.cons_append, List.nil_append, List.append_nil, List.replicate_succ, List.replicate_zero, List.getElem?_cons_zero, List.getElem?_cons_succ, List.set_cons_zero, List.set_cons_succ, List.map_cons, List.map_nil, List.length_cons, List.length_nil, List.length_map, List.length_replicate, List.all_nil, List.all_cons, Option.isSome, Option.bind_some, Option.map_some, Option.getD_some, Option.bind_none, Option.map_none, Nat.reduceAdd, Nat.zero_add, beq_self_eq_true, Bool.and_true, Bool.true_and, Bool.false_eq_true, reduceIte, reduceCtorEq, if_true, if_false, Bool.not_true, Bool.not_false, decide_true, decide_false, en, ec]
  have s7 : (sRet (eBin opEq (eLc (iEnum (eVar 8)) (gTp 2 (gsCons (gNm 9) (gsCons (gNm 10) gsNil))) (tOf (eBin opEq (eVar 10) (eC (.int 0)))) (eVar 9) [9, 10]) (eLstRg1 (eBin opSub (eVar 2) (eC (.int 1)))))) [some (D d2), some (.int p), some (.int w), some (.int far), some (lI (cntF p w far)), none, none, none, some (tI (code p (nearF p w) far)), none, none, none] = some (.rt (.bl true), [some (D d2), some (.int p), some (.int w), some (.int far), some (lI (cntF p w far)), none, none, none, some (tI (code p (nearF p w) far)), none, none, none]) := by
    simp -implicitDefEqProofs only [semDef_ap, sSeq_ap, sSet_ap, sRet_ap, sIf_ap, sExpr_ap, sNil_ap, sNever_ap, sAug_ap, sPar_ap, sAsgT_ap, sStore_ap, sAugStore_ap, sFor_ap, sForO_ap, sWhile_ap, turn_ap, gNm_ap, gsNil_ap, gsCons_ap, gTp_ap, eVar_ap, eMove_ap, eC_ap, eBin_ap, eUn_ap, tOf_ap, tvAnd_ap, tvOr_ap, tvNot_ap, eAnd_ap, eOr_ap, eNot_ap, eIf_ap, eChain_ap, aNil_ap, aCons_ap, aStar_ap, eTup_ap, eLst_ap, eCall_ap, eCallL_ap, lNil_ap, lSh_ap, lLe_ap, lstAt_ap, eOwn2_ap, eSl_ap, pNo_ap, pSome_ap, eLstRg1_ap, eTupRg1_ap, eApp_ap, eExtend_ap, iOf_ap, iEnum_ap, iZip2_ap, iRng1_ap, eLc_ap, keep_nil, keep_zero, opI, opIc, opB, opAdd, opLen, opNeg, opMax, opMin, opAbs, opInt, opIx, opIsNotN, opIsN, isNon, opTuple, opList, opRev, opSl, opSlL, isi_int, isi_boolint, isi_tuple, items?, opEq_int, opNe_int, setAll, forgetAll, wipeE, backE, lentAt, fill, List.cons_append, List.nil_append, List.append_nil, List.replicate_succ, List.replicate_zero, List.getElem?_cons_zero, List.getElem?_cons_succ, List.set_cons_zero, List.set_cons_succ, List.map_cons, List.map_nil, List.length_cons, List.length_nil, List.length_map, List.length_replicate, List.all_nil, List.all_cons, Option.isSome, Option.bind_some, Option.map_some, Option.getD_some, Option.bind_none, Option.map_none, Nat.reduceAdd, Nat.zero_add, beq_self_eq_true, Bool.and_true, Bool.true_and, Bool.false_eq_true, reduceIte, reduceCtorEq, if_true, if_false, Bool.not_true, Bool.not_false, decide_true, decide_false, enumP_map, fz, l4, o4, w1i, rgOk_n (show w - 1 ≤ 16777216 by omega), rgP_n, eqz]
  refine ⟨d2, sem_rt (L := [0]) (n := 1) (ρ := [some (D d)]) (seq_step s1 (seq_step s2 (seq_step s3 (seq_step s4 (seq_step s5 (seq_step s6 s7))))))⟩
end Hd

namespace Hd
open PL PM
theorem w_turn (ns : List Int) (spot : Nat) (d : Int × Int × Int) (x : PV) : ∃ d', turn (gNm 3) (sIf (tvOr (tvNot (tOf (eCallL 1 0 2 m__law_word_right (lLe 2 lNil)))) (tvOr (tvNot (tOf (eCallL 1 0 2 m__law_mixed_right (lLe 2 lNil)))) (tvNot (tOf (eCallL 1 0 2 m__law_tree_right (lLe 2 lNil)))))) (sRet (eC (.bl false))) sNil) [3] x [some (.scr ns), some (.int spot), some (D d), none, none, none] = some (.nx, [some (.scr ns), some (.int spot), some (D d'), none, none, none]) := by
  obtain ⟨d1, e1⟩ := t_word d
  obtain ⟨d2, e2⟩ := t_mixed d1
  obtain ⟨d3, e3⟩ := t_tree d2
  exact ⟨d3, by simp -implicitDefEqProofs only [semDef_ap, sSeq_ap, sSet_ap, sRet_ap, sIf_ap, sExpr_ap, sNil_ap, sNever_ap, sAug_ap, sPar_ap, sAsgT_ap, sStore_ap, sAugStore_ap, sFor_ap, sForO_ap, sWhile_ap, turn_ap, gNm_ap, gsNil_ap, gsCons_ap, gTp_ap, eVar_ap, eMove_ap, eC_ap, eBin_ap, eUn_ap, tOf_ap, tvAnd_ap, tvOr_ap, tvNot_ap, eAnd_ap, eOr_ap, eNot_ap, eIf_ap, eChain_ap, aNil_ap, aCons_ap, aStar_ap, eTup_ap, eLst_ap, eCall_ap, eCallL_ap, lNil_ap, lSh_ap, lLe_ap, lstAt_ap, eOwn2_ap, eSl_ap, pNo_ap, pSome_ap, eLstRg1_ap, eTupRg1_ap, eApp_ap, eExtend_ap, iOf_ap, iEnum_ap, iZip2_ap, iRng1_ap, eLc_ap, keep_nil, keep_zero, opI, opIc, opB, opAdd, opLen, opNeg, opMax, opMin, opAbs, opInt, opIx, opIsNotN, opIsN, isNon, opTuple, opList, opRev, opSl, opSlL, isi_int, isi_boolint, isi_tuple, items?, opEq_int, opNe_int, setAll, forgetAll, wipeE, backE, lentAt, fill, List.cons_append, List.nil_append, List.append_nil, List.replicate_succ, List.replicate_zero, List.getElem?_cons_zero, List.getElem?_cons_succ, List.set_cons_zero, List.set_cons_succ, List.map_cons, List.map_nil, List.length_cons, List.length_nil, List.length_map, List.length_replicate, List.all_nil, List.all_cons, Option.isSome, Option.bind_some, Option.map_some, Option.getD_some, Option.bind_none, Option.map_none, Nat.reduceAdd, Nat.zero_add, beq_self_eq_true, Bool.and_true, Bool.true_and, Bool.false_eq_true, reduceIte, reduceCtorEq, if_true, if_false, Bool.not_true, Bool.not_false, decide_true, decide_false, e1, e2, e3]⟩
theorem w_inner (ns : List Int) (spot : Nat) (d : Int × Int × Int) : ∃ d', forL (turn (gNm 3) (sIf (tvOr (tvNot (tOf (eCallL 1 0 2 m__law_word_right (lLe 2 lNil)))) (tvOr (tvNot (tOf (eCallL 1 0 2 m__law_mixed_right (lLe 2 lNil)))) (tvNot (tOf (eCallL 1 0 2 m__law_tree_right (lLe 2 lNil)))))) (sRet (eC (.bl false))) sNil) [3]) ((List.range 3).map fun (i : Nat) => PV.int (i : Int)) [some (.scr ns), some (.int spot), some (D d), none, none, none] = some (.nx, [some (.scr ns), some (.int spot), some (D d'), none, none, none]) := by
  obtain ⟨ρ', e, d', rfl⟩ := forL_inv (f := turn (gNm 3) (sIf (tvOr (tvNot (tOf (eCallL 1 0 2 m__law_word_right (lLe 2 lNil)))) (tvOr (tvNot (tOf (eCallL 1 0 2 m__law_mixed_right (lLe 2 lNil)))) (tvNot (tOf (eCallL 1 0 2 m__law_tree_right (lLe 2 lNil)))))) (sRet (eC (.bl false))) sNil) [3]) (xs := (List.range 3).map fun (i : Nat) => PV.int (i : Int)) (ρ := [some (.scr ns), some (.int spot), some (D d), none, none, none]) (fun _ ρ => ∃ d : Int × Int × Int, ρ = [some (.scr ns), some (.int spot), some (D d), none, none, none]) (fun i x ρ _ ⟨d, hd⟩ => by
    subst hd
    obtain ⟨d', e⟩ := w_turn ns spot d x
    exact ⟨_, e, d', rfl⟩) ⟨d, rfl⟩
  exact ⟨d', e⟩
theorem w_spot (ns : List Int) (spot : Nat) (hs : spot ≤ 100) : turn (gNm 1) (sSeq (sSet 2 (eCall 2 m__law_dice (aCons (eVar 0) (aCons (eVar 1) aNil))))
    (sSeq (sIf (tvNot (tOf (eCallL 1 0 2 m__law_all_right (lLe 2 lNil)))) (sRet (eC (.bl false))) sNil)
    (sFor (iRng1 (eC (.int 3))) (gNm 3) (sIf (tvOr (tvNot (tOf (eCallL 1 0 2 m__law_word_right (lLe 2 lNil)))) (tvOr (tvNot (tOf (eCallL 1 0 2 m__law_mixed_right (lLe 2 lNil)))) (tvNot (tOf (eCallL 1 0 2 m__law_tree_right (lLe 2 lNil)))))) (sRet (eC (.bl false))) sNil) [3]))) [1, 2, 3] (.int spot) [some (.scr ns), none, none, none, none, none] = some (.nx, [some (.scr ns), none, none, none, none, none]) := by
  obtain ⟨a, b, c, e0⟩ := s_dice ns spot hs
  obtain ⟨d1, e1⟩ := t_all (a, b, c)
  obtain ⟨d2, e2⟩ := w_inner ns spot d1
  have s1 : (sSet 2 (eCall 2 m__law_dice (aCons (eVar 0) (aCons (eVar 1) aNil)))) [some (.scr ns), some (.int spot), none, none, none, none] = some (.nx, [some (.scr ns), some (.int spot), some (D (a, b, c)), none, none, none]) := by
    simp -implicitDefEqProofs only [semDef_ap, sSeq_ap, sSet_ap, sRet_ap, sIf_ap, sExpr_ap, sNil_ap, sNever_ap, sAug_ap, sPar_ap, sAsgT_ap, sStore_ap, sAugStore_ap, sFor_ap, sForO_ap, sWhile_ap, turn_ap, gNm_ap, gsNil_ap, gsCons_ap, gTp_ap, eVar_ap, eMove_ap, eC_ap, eBin_ap, eUn_ap, tOf_ap, tvAnd_ap, tvOr_ap, tvNot_ap, eAnd_ap, eOr_ap, eNot_ap, eIf_ap, eChain_ap, aNil_ap, aCons_ap, aStar_ap, eTup_ap, eLst_ap, eCall_ap, eCallL_ap, lNil_ap, lSh_ap, lLe_ap, lstAt_ap, eOwn2_ap, eSl_ap, pNo_ap, pSome_ap, eLstRg1_ap, eTupRg1_ap, eApp_ap, eExtend_ap, iOf_ap, iEnum_ap, iZip2_ap, iRng1_ap, eLc_ap, keep_nil, keep_zero, opI, opIc, opB, opAdd, opLen, opNeg, opMax, opMin, opAbs, opInt, opIx, opIsNotN, opIsN, isNon, opTuple, opList, opRev, opSl, opSlL, isi_int, isi_boolint, isi_tuple, items?, opEq_int, opNe_int, setAll, forgetAll, wipeE, backE, lentAt, fill, List.cons_append, List.nil_append, List.append_nil, List.replicate_succ, List.replicate_zero, List.getElem?_cons_zero, List.getElem?_cons_succ, List.set_cons_zero, List.set_cons_succ, List.map_cons, List.map_nil, List.length_cons, List.length_nil, List.length_map, List.length_replicate, List.all_nil, List.all_cons, Option.isSome, Option.bind_some, Option.map_some, Option.getD_some, Option.bind_none, Option.map_none, Nat.reduceAdd, Nat.zero_add, beq_self_eq_true, Bool.and_true, Bool.true_and, Bool.false_eq_true, reduceIte, reduceCtorEq, if_true, if_false, Bool.not_true, Bool.not_false, decide_true, decide_false, e0]
  have s2 : (sIf (tvNot (tOf (eCallL 1 0 2 m__law_all_right (lLe 2 lNil)))) (sRet (eC (.bl false))) sNil) [some (.scr ns), some (.int spot), some (D (a, b, c)), none, none, none] = some (.nx, [some (.scr ns), some (.int spot), some (D d1), none, none, none]) := by
    simp -implicitDefEqProofs only [semDef_ap, sSeq_ap, sSet_ap, sRet_ap, sIf_ap, sExpr_ap, sNil_ap, sNever_ap, sAug_ap, sPar_ap, sAsgT_ap, sStore_ap, sAugStore_ap, sFor_ap, sForO_ap, sWhile_ap, turn_ap, gNm_ap, gsNil_ap, gsCons_ap, gTp_ap, eVar_ap, eMove_ap, eC_ap, eBin_ap, eUn_ap, tOf_ap, tvAnd_ap, tvOr_ap, tvNot_ap, eAnd_ap, eOr_ap, eNot_ap, eIf_ap, eChain_ap, aNil_ap, aCons_ap, aStar_ap, eTup_ap, eLst_ap, eCall_ap, eCallL_ap, lNil_ap, lSh_ap, lLe_ap, lstAt_ap, eOwn2_ap, eSl_ap, pNo_ap, pSome_ap, eLstRg1_ap, eTupRg1_ap, eApp_ap, eExtend_ap, iOf_ap, iEnum_ap, iZip2_ap, iRng1_ap, eLc_ap, keep_nil, keep_zero, opI, opIc, opB, opAdd, opLen, opNeg, opMax, opMin, opAbs, opInt, opIx, opIsNotN, opIsN, isNon, opTuple, opList, opRev, opSl, opSlL, isi_int, isi_boolint, isi_tuple, items?, opEq_int, opNe_int, setAll, forgetAll, wipeE, backE, lentAt, fill, List.cons_append, List.nil_append, List.append_nil, List.replicate_succ, List.replicate_zero, List.getElem?_cons_zero, List.getElem?_cons_succ, List.set_cons_zero, List.set_cons_succ, List.map_cons, List.map_nil, List.length_cons, List.length_nil, List.length_map, List.length_replicate, List.all_nil, List.all_cons, Option.isSome, Option.bind_some, Option.map_some, Option.getD_some, Option.bind_none, Option.map_none, Nat.reduceAdd, Nat.zero_add, beq_self_eq_true, Bool.and_true, Bool.true_and, Bool.false_eq_true, reduceIte, reduceCtorEq, if_true, if_false, Bool.not_true, Bool.not_false, decide_true, decide_false, e1]
  have r3 : decide (-(2 ^ 62) ≤ (3 : Int) ∧ (3 : Int) < 2 ^ 62) = true := by decide
  have l3 : rgL 0 (3 : Int).toNat = (List.range 3).map fun (i : Nat) => PV.int (i : Int) := rg_n 3
  have s3 : (sFor (iRng1 (eC (.int 3))) (gNm 3) (sIf (tvOr (tvNot (tOf (eCallL 1 0 2 m__law_word_right (lLe 2 lNil)))) (tvOr (tvNot (tOf (eCallL 1 0 2 m__law_mixed_right (lLe 2 lNil)))) (tvNot (tOf (eCallL 1 0 2 m__law_tree_right (lLe 2 lNil)))))) (sRet (eC (.bl false))) sNil) [3]) [some (.scr ns), some (.int spot), some (D d1), none, none, none] = some (.nx, [some (.scr ns), some (.int spot), some (D d2), none, none, none]) := by
    rw [sFor_ap, iRng1_ap, eC_ap]
    simp only [Option.bind_some, r3, if_true, l3]
    exact e2
  have z := turn_step (eg := (gNm 1)) (fg := [1, 2, 3]) (v := .int spot) (ρ := [some (.scr ns), none, none, none, none, none]) rfl (seq_step s1 (seq_step s2 s3))
  exact z
theorem s_share_same (t : Int) (h0 : 0 < t) (h1 : t < 4611686018427387904) : m_share_in_lowest [some (.int t), some (.int t)] = some (.tup [.int 1, .int 1], [none, none]) := by
  have hd : decide (0 < t) = true := decide_eq_true h0
  have dv : divOk t = true := divOk_of h0 (by omega)
  have w1 : whileL (tOf (eBin opGt (eVar 3) (eC (.int 0)))) (sPar [2, 3] (aCons (eVar 3) (aCons (eBin opMod (eVar 2) (eVar 3)) aNil))) (999998 + 1 + 1) [some (.int t), some (.int t), some (.int t), some (.int t)] = some (.nx, [some (.int t), some (.int t), some (.int t), some (.int 0)]) := by
    rw [whileL_t (ρ1 := [some (.int t), some (.int t), some (.int t), some (.int t)]) (ρ2 := [some (.int t), some (.int t), some (.int t), some (.int 0)])]
    · rw [whileL_f (ρ1 := [some (.int t), some (.int t), some (.int t), some (.int 0)])]
      simp -implicitDefEqProofs only [semDef_ap, sSeq_ap, sSet_ap, sRet_ap, sIf_ap, sExpr_ap, sNil_ap, sNever_ap, sAug_ap, sPar_ap, sAsgT_ap, sStore_ap, sAugStore_ap, sFor_ap, sForO_ap, sWhile_ap, turn_ap, gNm_ap, gsNil_ap, gsCons_ap, gTp_ap, eVar_ap, eMove_ap, eC_ap, eBin_ap, eUn_ap, tOf_ap, tvAnd_ap, tvOr_ap, tvNot_ap, eAnd_ap, eOr_ap, eNot_ap, eIf_ap, eChain_ap, aNil_ap, aCons_ap, aStar_ap, eTup_ap, eLst_ap, eCall_ap, eCallL_ap, lNil_ap, lSh_ap, lLe_ap, lstAt_ap, eOwn2_ap, eSl_ap, pNo_ap, pSome_ap, eLstRg1_ap, eTupRg1_ap, eApp_ap, eExtend_ap, iOf_ap, iEnum_ap, iZip2_ap, iRng1_ap, eLc_ap, keep_nil, keep_zero, opI, opIc, opB, opAdd, opLen, opNeg, opMax, opMin, opAbs, opInt, opIx, opIsNotN, opIsN, isNon, opTuple, opList, opRev, opSl, opSlL, isi_int, isi_boolint, isi_tuple, items?, opEq_int, opNe_int, setAll, forgetAll, wipeE, backE, lentAt, fill, List.cons_append, List.nil_append, List.append_nil, List.replicate_succ, List.replicate_zero, List.getElem?_cons_zero, List.getElem?_cons_succ, List.set_cons_zero, List.set_cons_succ, List.map_cons, List.map_nil, List.length_cons, List.length_nil, List.length_map, List.length_replicate, List.all_nil, List.all_cons, Option.isSome, Option.bind_some, Option.map_some, Option.getD_some, Option.bind_none, Option.map_none, Nat.reduceAdd, Nat.zero_add, beq_self_eq_true, Bool.and_true, Bool.true_and, Bool.false_eq_true, reduceIte, reduceCtorEq, if_true, if_false, Bool.not_true, Bool.not_false, decide_true, decide_false, show decide ((0 : Int) < 0) = false from rfl]
    · simp -implicitDefEqProofs only [semDef_ap, sSeq_ap, sSet_ap, sRet_ap, sIf_ap, sExpr_ap, sNil_ap, sNever_ap, sAug_ap, sPar_ap, sAsgT_ap, sStore_ap, sAugStore_ap, sFor_ap, sForO_ap, sWhile_ap, turn_ap, gNm_ap, gsNil_ap, gsCons_ap, gTp_ap, eVar_ap, eMove_ap, eC_ap, eBin_ap, eUn_ap, tOf_ap, tvAnd_ap, tvOr_ap, tvNot_ap, eAnd_ap, eOr_ap, eNot_ap, eIf_ap, eChain_ap, aNil_ap, aCons_ap, aStar_ap, eTup_ap, eLst_ap, eCall_ap, eCallL_ap, lNil_ap, lSh_ap, lLe_ap, lstAt_ap, eOwn2_ap, eSl_ap, pNo_ap, pSome_ap, eLstRg1_ap, eTupRg1_ap, eApp_ap, eExtend_ap, iOf_ap, iEnum_ap, iZip2_ap, iRng1_ap, eLc_ap, keep_nil, keep_zero, opI, opIc, opB, opAdd, opLen, opNeg, opMax, opMin, opAbs, opInt, opIx, opIsNotN, opIsN, isNon, opTuple, opList, opRev, opSl, opSlL, isi_int, isi_boolint, isi_tuple, items?, opEq_int, opNe_int, setAll, forgetAll, wipeE, backE, lentAt, fill, List.cons_append, List.nil_append, List.append_nil, List.replicate_succ, List.replicate_zero, List.getElem?_cons_zero, List.getElem?_cons_succ, List.set_cons_zero, List.set_cons_succ, List.map_cons, List.map_nil, List.length_cons, List.length_nil, List.length_map, List.length_replicate, List.all_nil, List.all_cons, Option.isSome, Option.bind_some, Option.map_some, Option.getD_some, Option.bind_none, Option.map_none, Nat.reduceAdd, Nat.zero_add, beq_self_eq_true, Bool.and_true, Bool.true_and, Bool.false_eq_true, reduceIte, reduceCtorEq, if_true, if_false, Bool.not_true, Bool.not_false, decide_true, decide_false, hd]
    · simp -implicitDefEqProofs only [semDef_ap, sSeq_ap, sSet_ap, sRet_ap, sIf_ap, sExpr_ap, sNil_ap, sNever_ap, sAug_ap, sPar_ap, sAsgT_ap, sStore_ap, sAugStore_ap, sFor_ap, sForO_ap, sWhile_ap, turn_ap, gNm_ap, gsNil_ap, gsCons_ap, gTp_ap, eVar_ap, eMove_ap, eC_ap, eBin_ap, eUn_ap, tOf_ap, tvAnd_ap, tvOr_ap, tvNot_ap, eAnd_ap, eOr_ap, eNot_ap, eIf_ap, eChain_ap, aNil_ap, aCons_ap, aStar_ap, eTup_ap, eLst_ap, eCall_ap, eCallL_ap, lNil_ap, lSh_ap, lLe_ap, lstAt_ap, eOwn2_ap, eSl_ap, pNo_ap, pSome_ap, eLstRg1_ap, eTupRg1_ap, eApp_ap, eExtend_ap, iOf_ap, iEnum_ap, iZip2_ap, iRng1_ap, eLc_ap, keep_nil, keep_zero, opI, opIc, opB, opAdd, opLen, opNeg, opMax, opMin, opAbs, opInt, opIx, opIsNotN, opIsN, isNon, opTuple, opList, opRev, opSl, opSlL, isi_int, isi_boolint, isi_tuple, items?, opEq_int, opNe_int, setAll, forgetAll, wipeE, backE, lentAt, fill, List.cons_append, List.nil_append, List.append_nil, List.replicate_succ, List.replicate_zero, List.getElem?_cons_zero, List.getElem?_cons_succ, List.set_cons_zero, List.set_cons_succ, List.map_cons, List.map_nil, List.length_cons, List.length_nil, List.length_map, List.length_replicate, List.all_nil, List.all_cons, Option.isSome, Option.bind_some, Option.map_some, Option.getD_some, Option.bind_none, Option.map_none, Nat.reduceAdd, Nat.zero_add, beq_self_eq_true, Bool.and_true, Bool.true_and, Bool.false_eq_true, reduceIte, reduceCtorEq, if_true, if_false, Bool.not_true, Bool.not_false, decide_true, decide_false, hd, Int.emod_self]
  have w2 : whileL (tOf (eBin opGt (eVar 3) (eC (.int 0)))) (sPar [2, 3] (aCons (eVar 3) (aCons (eBin opMod (eVar 2) (eVar 3)) aNil))) 1000000 [some (.int t), some (.int t), some (.int t), some (.int t)] = some (.nx, [some (.int t), some (.int t), some (.int t), some (.int 0)]) := w1
  have f2 : fits 2 = true := by decide
  have e1 : t / t = 1 := Int.ediv_self (by omega)
  simp -implicitDefEqProofs only [m_share_in_lowest, b_share_in_lowest, semDef_ap, sSeq_ap, sSet_ap, sRet_ap, sIf_ap, sExpr_ap, sNil_ap, sNever_ap, sAug_ap, sPar_ap, sAsgT_ap, sStore_ap, sAugStore_ap, sFor_ap, sForO_ap, sWhile_ap, turn_ap, gNm_ap, gsNil_ap, gsCons_ap, gTp_ap, eVar_ap, eMove_ap, eC_ap, eBin_ap, eUn_ap, tOf_ap, tvAnd_ap, tvOr_ap, tvNot_ap, eAnd_ap, eOr_ap, eNot_ap, eIf_ap, eChain_ap, aNil_ap, aCons_ap, aStar_ap, eTup_ap, eLst_ap, eCall_ap, eCallL_ap, lNil_ap, lSh_ap, lLe_ap, lstAt_ap, eOwn2_ap, eSl_ap, pNo_ap, pSome_ap, eLstRg1_ap, eTupRg1_ap, eApp_ap, eExtend_ap, iOf_ap, iEnum_ap, iZip2_ap, iRng1_ap, eLc_ap, keep_nil, keep_zero, opI, opIc, opB, opAdd, opLen, opNeg, opMax, opMin, opAbs, opInt, opIx, opIsNotN, opIsN, isNon, opTuple, opList, opRev, opSl, opSlL, isi_int, isi_boolint, isi_tuple, items?, opEq_int, opNe_int, setAll, forgetAll, wipeE, backE, lentAt, fill, List.cons_append, List.nil_append, List.append_nil, List.replicate_succ, List.replicate_zero, List.getElem?_cons_zero, List.getElem?_cons_succ, List.set_cons_zero, List.set_cons_succ, List.map_cons, List.map_nil, List.length_cons, List.length_nil, List.length_map, List.length_replicate, List.all_nil, List.all_cons, Option.isSome, Option.bind_some, Option.map_some, Option.getD_some, Option.bind_none, Option.map_none, Nat.reduceAdd, Nat.zero_add, beq_self_eq_true, Bool.and_true, Bool.true_and, Bool.false_eq_true, reduceIte, reduceCtorEq, if_true, if_false, Bool.not_true, Bool.not_false, decide_true, decide_false, w2, dv, e1, f2]
theorem s_lucky : m_lucky_share [some (.int 64), some (.int 8), some (.int 64)] = some (.tup [.int 1, .int 1], [none, none, none]) := by
  have e1 := s_require_number 64 0 64 (by decide) (by decide) (by decide) (by decide)
  have e2 := s_require_number 8 1 8 (by decide) (by decide) (by decide) (by decide)
  have e3 : m_is_within [some (.int 64), some (.int (if (64 : Int) > 1 then 64 else 1)), some (.int 64)] = some (.bl true, [none, none, none]) := s_is_within 64 64 64
  have e4 : m_raised_in [some (.int 64), some (.int 8)] = some (.int 281474976710656, [none, none]) := s_raised_in 64 8 (by decide) (by decide) (by decide)
  have e5 := s_share_same 281474976710656 (by decide) (by decide)
  simp only [m_lucky_share, b_lucky_share, semDef_ap, sSeq_ap, sExpr_ap, sIf_ap, sNil_ap, sRet_ap, eCall_ap, aCons_ap, aNil_ap, eVar_ap, eC_ap, eBin_ap, tOf_ap, tvNot_ap, keep_nil, opMax, List.cons_append, List.nil_append, List.append_nil, List.replicate_succ, List.replicate_zero, List.getElem?_cons_zero, List.getElem?_cons_succ, List.map_cons, List.map_nil, List.length_cons, List.length_nil, Option.bind_some, Option.map_some, Nat.reduceAdd, beq_self_eq_true, Bool.not_true, if_true, e1, e2, e3, e4, e5]
theorem sem_law (ns : List Int) : ∃ ρ', m_law [some (.scr ns)] = some (.bl true, ρ') := by
  have hm : ∃ n : Nat, (if (if (ns.length : Int) < 3 then (ns.length : Int) else 3) > 1 then (if (ns.length : Int) < 3 then (ns.length : Int) else 3) else 1) = (n : Int) ∧ n ≤ 3 := by
    by_cases h : (ns.length : Int) < 3
    · rw [if_pos h]
      by_cases h2 : (ns.length : Int) > 1
      · rw [if_pos h2]
        exact ⟨ns.length, rfl, by omega⟩
      · rw [if_neg h2]
        exact ⟨1, rfl, by omega⟩
    · rw [if_neg h]
      exact ⟨3, rfl, by omega⟩
  obtain ⟨n, hn, n3⟩ := hm
  obtain ⟨ρ', e, rfl⟩ := forL_inv (f := turn (gNm 1) (sSeq (sSet 2 (eCall 2 m__law_dice (aCons (eVar 0) (aCons (eVar 1) aNil))))
    (sSeq (sIf (tvNot (tOf (eCallL 1 0 2 m__law_all_right (lLe 2 lNil)))) (sRet (eC (.bl false))) sNil)
    (sFor (iRng1 (eC (.int 3))) (gNm 3) (sIf (tvOr (tvNot (tOf (eCallL 1 0 2 m__law_word_right (lLe 2 lNil)))) (tvOr (tvNot (tOf (eCallL 1 0 2 m__law_mixed_right (lLe 2 lNil)))) (tvNot (tOf (eCallL 1 0 2 m__law_tree_right (lLe 2 lNil)))))) (sRet (eC (.bl false))) sNil) [3]))) [1, 2, 3]) (xs := (List.range n).map fun (i : Nat) => PV.int (i : Int)) (ρ := [some (.scr ns), none, none, none, none, none]) (fun _ ρ => ρ = [some (.scr ns), none, none, none, none, none]) (fun i x ρ hx hρ => by
    subst hρ
    obtain ⟨j, hj, rfl⟩ := List.mem_map.mp (List.mem_of_getElem? hx)
    have := List.mem_range.mp hj
    exact ⟨_, w_spot ns j (by omega), rfl⟩) rfl
  have s1 : (sFor (iRng1 (eBin opMax (eC (.int 1)) (eBin opMin (eC (.int 3)) (eUn opLen (eVar 0))))) (gNm 1) (sSeq (sSet 2 (eCall 2 m__law_dice (aCons (eVar 0) (aCons (eVar 1) aNil))))
    (sSeq (sIf (tvNot (tOf (eCallL 1 0 2 m__law_all_right (lLe 2 lNil)))) (sRet (eC (.bl false))) sNil)
    (sFor (iRng1 (eC (.int 3))) (gNm 3) (sIf (tvOr (tvNot (tOf (eCallL 1 0 2 m__law_word_right (lLe 2 lNil)))) (tvOr (tvNot (tOf (eCallL 1 0 2 m__law_mixed_right (lLe 2 lNil)))) (tvNot (tOf (eCallL 1 0 2 m__law_tree_right (lLe 2 lNil)))))) (sRet (eC (.bl false))) sNil) [3]))) [1, 2, 3]) [some (.scr ns), none, none, none, none, none] = some (.nx, [some (.scr ns), none, none, none, none, none]) := by
    rw [sFor_ap, iRng1_ap]
    have h1 : eBin opMax (eC (.int 1)) (eBin opMin (eC (.int 3)) (eUn opLen (eVar 0))) [some (.scr ns), none, none, none, none, none] = some (.int n, [some (.scr ns), none, none, none, none, none]) := by
      simp only [eBin_ap, eC_ap, eUn_ap, eVar_ap, opLen, opMin, opMax, List.getElem?_cons_zero, Option.bind_some, Option.map_some, hn]
    rw [h1]
    simp only [rg_ok (show n ≤ 16777216 by omega), if_true, Option.bind_some, rg_n]
    exact e
  have l2 : lcL (gNm 5) tYes' (eCall 4 m__law_known_count (aCons (eC (.int 5)) (aCons (eC (.int 4)) (aCons (eC (.int 2)) (aCons (eVar 5) aNil))))) [5] ((List.range 5).map fun (i : Nat) => PV.int (i : Int)) [some (.scr ns), none, none, none, none, none] = some ((List.range 5).map fun d => .int (kcF 5 4 2 d), [some (.scr ns), none, none, none, none, none]) :=
    lcL_map fun x hx => ⟨[some (.scr ns), none, none, none, none, some (.int x)], [some (.scr ns), none, none, none, none, some (.int x)], by simp -implicitDefEqProofs only [semDef_ap, sSeq_ap, sSet_ap, sRet_ap, sIf_ap, sExpr_ap, sNil_ap, sNever_ap, sAug_ap, sPar_ap, sAsgT_ap, sStore_ap, sAugStore_ap, sFor_ap, sForO_ap, sWhile_ap, turn_ap, gNm_ap, gsNil_ap, gsCons_ap, gTp_ap, eVar_ap, eMove_ap, eC_ap, eBin_ap, eUn_ap, tOf_ap, tvAnd_ap, tvOr_ap, tvNot_ap, eAnd_ap, eOr_ap, eNot_ap, eIf_ap, eChain_ap, aNil_ap, aCons_ap, aStar_ap, eTup_ap, eLst_ap, eCall_ap, eCallL_ap, lNil_ap, lSh_ap, lLe_ap, lstAt_ap, eOwn2_ap, eSl_ap, pNo_ap, pSome_ap, eLstRg1_ap, eTupRg1_ap, eApp_ap, eExtend_ap, iOf_ap, iEnum_ap, iZip2_ap, iRng1_ap, eLc_ap, keep_nil, keep_zero, opI, opIc, opB, opAdd, opLen, opNeg, opMax, opMin, opAbs, opInt, opIx, opIsNotN, opIsN, isNon, opTuple, opList, opRev, opSl, opSlL, isi_int, isi_boolint, isi_tuple, items?, opEq_int, opNe_int, setAll, forgetAll, wipeE, backE, lentAt, fill, List.cons_append, List.nil_append, List.append_nil, List.replicate_succ, List.replicate_zero, List.getElem?_cons_zero, List.getElem?_cons_succ, List.set_cons_zero, List.set_cons_succ, List.map_cons, List.map_nil, List.length_cons, List.length_nil, List.length_map, List.length_replicate, List.all_nil, List.all_cons, Option.isSome, Option.bind_some, Option.map_some, Option.getD_some, Option.bind_none, Option.map_none, Nat.reduceAdd, Nat.zero_add, beq_self_eq_true, Bool.and_true, Bool.true_and, Bool.false_eq_true, reduceIte, reduceCtorEq, if_true, if_false, Bool.not_true, Bool.not_false, decide_true, decide_false], by
      have hx := List.mem_range.mp hx
      have e : m__law_known_count [some (.int 5), some (.int 4), some (.int 2), some (.int x)] = some (.int (kcF 5 4 2 x), [none, none, none, none]) := s_known_count 5 4 2 x (by decide) (by decide) (by omega) (by decide) (by decide) (by decide)
      simp -implicitDefEqProofs only [semDef_ap, sSeq_ap, sSet_ap, sRet_ap, sIf_ap, sExpr_ap, sNil_ap, sNever_ap, sAug_ap, sPar_ap, sAsgT_ap, sStore_ap, sAugStore_ap, sFor_ap, sForO_ap, sWhile_ap, turn_ap, gNm_ap, gsNil_ap, gsCons_ap, gTp_ap, eVar_ap, eMove_ap, eC_ap, eBin_ap, eUn_ap, tOf_ap, tvAnd_ap, tvOr_ap, tvNot_ap, eAnd_ap, eOr_ap, eNot_ap, eIf_ap, eChain_ap, aNil_ap, aCons_ap, aStar_ap, eTup_ap, eLst_ap, eCall_ap, eCallL_ap, lNil_ap, lSh_ap, lLe_ap, lstAt_ap, eOwn2_ap, eSl_ap, pNo_ap, pSome_ap, eLstRg1_ap, eTupRg1_ap, eApp_ap, eExtend_ap, iOf_ap, iEnum_ap, iZip2_ap, iRng1_ap, eLc_ap, keep_nil, keep_zero, opI, opIc, opB, opAdd, opLen, opNeg, opMax, opMin, opAbs, opInt, opIx, opIsNotN, opIsN, isNon, opTuple, opList, opRev, opSl, opSlL, isi_int, isi_boolint, isi_tuple, items?, opEq_int, opNe_int, setAll, forgetAll, wipeE, backE, lentAt, fill, List.cons_append, List.nil_append, List.append_nil, List.replicate_succ, List.replicate_zero, List.getElem?_cons_zero, List.getElem?_cons_succ, List.set_cons_zero, List.set_cons_succ, List.map_cons, List.map_nil, List.length_cons, List.length_nil, List.length_map, List.length_replicate, List.all_nil, List.all_cons, Option.isSome, Option.bind_some, Option.map_some, Option.getD_some, Option.bind_none, Option.map_none, Nat.reduceAdd, Nat.zero_add, beq_self_eq_true, Bool.and_true, Bool.true_and, Bool.false_eq_true, reduceIte, reduceCtorEq, if_true, if_false, Bool.not_true, Bool.not_false, decide_true, decide_false, e], by simp -implicitDefEqProofs only [semDef_ap, sSeq_ap, sSet_ap, sRet_ap, sIf_ap, sExpr_ap, sNil_ap, sNever_ap, sAug_ap, sPar_ap, sAsgT_ap, sStore_ap, sAugStore_ap, sFor_ap, sForO_ap, sWhile_ap, turn_ap, gNm_ap, gsNil_ap, gsCons_ap, gTp_ap, eVar_ap, eMove_ap, eC_ap, eBin_ap, eUn_ap, tOf_ap, tvAnd_ap, tvOr_ap, tvNot_ap, eAnd_ap, eOr_ap, eNot_ap, eIf_ap, eChain_ap, aNil_ap, aCons_ap, aStar_ap, eTup_ap, eLst_ap, eCall_ap, eCallL_ap, lNil_ap, lSh_ap, lLe_ap, lstAt_ap, eOwn2_ap, eSl_ap, pNo_ap, pSome_ap, eLstRg1_ap, eTupRg1_ap, eApp_ap, eExtend_ap, iOf_ap, iEnum_ap, iZip2_ap, iRng1_ap, eLc_ap, keep_nil, keep_zero, opI, opIc, opB, opAdd, opLen, opNeg, opMax, opMin, opAbs, opInt, opIx, opIsNotN, opIsN, isNon, opTuple, opList, opRev, opSl, opSlL, isi_int, isi_boolint, isi_tuple, items?, opEq_int, opNe_int, setAll, forgetAll, wipeE, backE, lentAt, fill, List.cons_append, List.nil_append, List.append_nil, List.replicate_succ, List.replicate_zero, List.getElem?_cons_zero, List.getElem?_cons_succ, List.set_cons_zero, List.set_cons_succ, List.map_cons, List.map_nil, List.length_cons, List.length_nil, List.length_map, List.length_replicate, List.all_nil, List.all_cons, Option.isSome, Option.bind_some, Option.map_some, Option.getD_some, Option.bind_none, Option.map_none, Nat.reduceAdd, Nat.zero_add, beq_self_eq_true, Bool.and_true, Bool.true_and, Bool.false_eq_true, reduceIte, reduceCtorEq, if_true, if_false, Bool.not_true, Bool.not_false, decide_true, decide_false]⟩
  have em : ((List.range 5).map fun d => PV.int (kcF 5 4 2 d)) = [.int 1, .int 0, .int 0, .int 16, .int 8] := by
    have : (List.range 5).map (fun d => kcF 5 4 2 d) = [1, 0, 0, 16, 8] := by decide +kernel
    have e2 : ((List.range 5).map fun d => PV.int (kcF 5 4 2 d)) = ((List.range 5).map fun d => kcF 5 4 2 d).map .int := by rw [List.map_map]; rfl
    rw [e2, this]
    rfl
  rw [em] at l2
  have r5 : decide (-(2 ^ 62) ≤ (5 : Int) ∧ (5 : Int) < 2 ^ 62) = true := by decide
  have l5 : rgL 0 (5 : Int).toNat = (List.range 5).map fun (i : Nat) => PV.int (i : Int) := rg_n 5
  have f5 : fits 5 = true := by decide
  have s2 : (sSet 4 (eLc (iRng1 (eC (.int 5))) (gNm 5) tYes' (eCall 4 m__law_known_count (aCons (eC (.int 5)) (aCons (eC (.int 4)) (aCons (eC (.int 2)) (aCons (eVar 5) aNil))))) [5])) [some (.scr ns), none, none, none, none, none] = some (.nx, [some (.scr ns), none, none, none, some (.lst [.int 1, .int 0, .int 0, .int 16, .int 8]), none]) := by
    rw [sSet_ap, eLc_ap, iRng1_ap, eC_ap]
    simp only [r5, if_true, Option.bind_some, l5, List.length_map, List.length_range, f5, wipeE, List.set_cons_succ, List.set_cons_zero, l2, Option.map_some, backE, List.getElem?_cons_succ, List.getElem?_cons_zero, Option.getD_some]
  have q1 : opEq (.lst [.int 1, .int 0, .int 0, .int 16, .int 8]) (.lst [.int 1, .int 0, .int 0, .int 16, .int 8]) = some (.bl true) := opEq_self (Lay.lI [1, 0, 0, 16, 8])
  have q2 : opEq (.tup [.int 1, .int 1]) (.tup [.int 1, .int 1]) = some (.bl true) := opEq_self (Lay.tI [1, 1])
  have f2 : fits 2 = true := by decide
  have s3 : (sRet (eAnd (eBin opEq (eVar 4) (eLst (aCons (eC (.int 1)) (aCons (eC (.int 0)) (aCons (eC (.int 0)) (aCons (eC (.int 16)) (aCons (eC (.int 8)) aNil))))))) (eBin opEq (eCall 3 m_lucky_share (aCons (eC (.int 64)) (aCons (eC (.int 8)) (aCons (eC (.int 64)) aNil)))) (eTup (aCons (eC (.int 1)) (aCons (eC (.int 1)) aNil)))))) [some (.scr ns), none, none, none, some (.lst [.int 1, .int 0, .int 0, .int 16, .int 8]), none] = some (.rt (.bl true), [some (.scr ns), none, none, none, some (.lst [.int 1, .int 0, .int 0, .int 16, .int 8]), none]) := by
    simp -implicitDefEqProofs only [semDef_ap, sSeq_ap, sSet_ap, sRet_ap, sIf_ap, sExpr_ap, sNil_ap, sNever_ap, sAug_ap, sPar_ap, sAsgT_ap, sStore_ap, sAugStore_ap, sFor_ap, sForO_ap, sWhile_ap, turn_ap, gNm_ap, gsNil_ap, gsCons_ap, gTp_ap, eVar_ap, eMove_ap, eC_ap, eBin_ap, eUn_ap, tOf_ap, tvAnd_ap, tvOr_ap, tvNot_ap, eAnd_ap, eOr_ap, eNot_ap, eIf_ap, eChain_ap, aNil_ap, aCons_ap, aStar_ap, eTup_ap, eLst_ap, eCall_ap, eCallL_ap, lNil_ap, lSh_ap, lLe_ap, lstAt_ap, eOwn2_ap, eSl_ap, pNo_ap, pSome_ap, eLstRg1_ap, eTupRg1_ap, eApp_ap, eExtend_ap, iOf_ap, iEnum_ap, iZip2_ap, iRng1_ap, eLc_ap, keep_nil, keep_zero, opI, opIc, opB, opAdd, opLen, opNeg, opMax, opMin, opAbs, opInt, opIx, opIsNotN, opIsN, isNon, opTuple, opList, opRev, opSl, opSlL, isi_int, isi_boolint, isi_tuple, items?, opEq_int, opNe_int, setAll, forgetAll, wipeE, backE, lentAt, fill, List.cons_append, List.nil_append, List.append_nil, List.replicate_succ, List.replicate_zero, List.getElem?_cons_zero, List.getElem?_cons_succ, List.set_cons_zero, List.set_cons_succ, List.map_cons, List.map_nil, List.length_cons, List.length_nil, List.length_map, List.length_replicate, List.all_nil, List.all_cons, Option.isSome, Option.bind_some, Option.map_some, Option.getD_some, Option.bind_none, Option.map_none, Nat.reduceAdd, Nat.zero_add, beq_self_eq_true, Bool.and_true, Bool.true_and, Bool.false_eq_true, reduceIte, reduceCtorEq, if_true, if_false, Bool.not_true, Bool.not_false, decide_true, decide_false, f5, q1, s_lucky, f2, q2]
  exact ⟨_, sem_rt (L := []) (n := 1) (ρ := [some (.scr ns)]) (seq_step s1 (seq_step s2 s3))⟩
end Hd

namespace Hd
open PySem PySem.Spec PyProof.Rows L2 PL
def top (i : Nat) : Stmt := PySem.Challenge.pw_roundsums_k92_whole_codes_of_all_rows.main.body.getD i (.Pass ⟨0, 0, 0, 0⟩)
abbrev DefAt (K : Frg) (mg : Str → Option Value) (x : Str) (i : Nat) : Prop := ∃ f, (∃ fd, FunD K x x (defArgs (top i)) (defBody (top i)) (defScope (top i)) [] [] f fd) ∧ mg x = some (.ref f)
structure Fx (K : Frg) (mg : Str → Option Value) : Prop where
  bi : Bi mg
  g_KNOWN_PRIMES : Glob K mg "KNOWN_PRIMES" k_KNOWN_PRIMES
  g_FAR : Glob K mg "FAR" k_FAR
  g_GREAT_PRIME : Glob K mg "GREAT_PRIME" k_GREAT_PRIME
  g_POWER : Glob K mg "POWER" k_POWER
  g_MORE : Glob K mg "MORE" k_MORE
  g_MOST_MEMBERS : Glob K mg "MOST_MEMBERS" k_MOST_MEMBERS
  g_MOST_LEAVES : Glob K mg "MOST_LEAVES" k_MOST_LEAVES
  g_MOST_ROW : Glob K mg "MOST_ROW" k_MOST_ROW
  g_MOST_CODED_ROWS : Glob K mg "MOST_CODED_ROWS" k_MOST_CODED_ROWS
  g_MOST_PLACES : Glob K mg "MOST_PLACES" k_MOST_PLACES
  g_MOST_PATH : Glob K mg "MOST_PATH" k_MOST_PATH
  g_MOST_ASKED : Glob K mg "MOST_ASKED" k_MOST_ASKED
  g_LEAF_COUNTS : Glob K mg "LEAF_COUNTS" k_LEAF_COUNTS
  g_TWO : Glob K mg "TWO" k_TWO
  d_is_whole : DefAt K mg "is_whole" 10
  d_is_near : DefAt K mg "is_near" 11
  d_is_within : DefAt K mg "is_within" 12
  d_is_number_by : DefAt K mg "is_number_by" 13
  d_are_numbers : DefAt K mg "are_numbers" 14
  d_is_prime_told : DefAt K mg "is_prime_told" 15
  d_require_prime : DefAt K mg "require_prime" 16
  d_require_number : DefAt K mg "require_number" 17
  d_raised_in : DefAt K mg "raised_in" 18
  d_trimmed : DefAt K mg "trimmed" 20
  d_power_in : DefAt K mg "power_in" 21
  d_back_in : DefAt K mg "back_in" 22
  d_worth_in : DefAt K mg "worth_in" 23
  d_added_in : DefAt K mg "added_in" 24
  d_scaled_in : DefAt K mg "scaled_in" 25
  d_product_in : DefAt K mg "product_in" 26
  d_through_in : DefAt K mg "through_in" 27
  d_digest_in : DefAt K mg "digest_in" 41
  d_digest_layers : DefAt K mg "digest_layers" 42
  d_root_in : DefAt K mg "root_in" 43
  d_path_in : DefAt K mg "path_in" 44
  d_root_by_path_in : DefAt K mg "root_by_path_in" 45
  d_coded_row_in : DefAt K mg "coded_row_in" 46
  d_coded_columns_in : DefAt K mg "coded_columns_in" 47
  d_row_through : DefAt K mg "row_through" 48
  d_shifted : DefAt K mg "shifted" 49
  d_row_of_code_in : DefAt K mg "row_of_code_in" 50
  d_near_row_in : DefAt K mg "near_row_in" 51
  d_mixed_row_in : DefAt K mg "mixed_row_in" 52
  d_mixed_column : DefAt K mg "mixed_column" 53
  d_agreeing_in : DefAt K mg "agreeing_in" 54
  d_share_in_lowest : DefAt K mg "share_in_lowest" 55
  d_are_members : DefAt K mg "are_members" 56
  d_are_digest_leaves : DefAt K mg "are_digest_leaves" 57
  d_is_row_in : DefAt K mg "is_row_in" 58
  d_are_rows_in : DefAt K mg "are_rows_in" 59
  d_are_told_columns : DefAt K mg "are_told_columns" 60
  d_require_members : DefAt K mg "require_members" 61
  d_require_digest_leaves : DefAt K mg "require_digest_leaves" 62
  d_require_coded_row : DefAt K mg "require_coded_row" 63
  d_require_coded_rows : DefAt K mg "require_coded_rows" 64
  d_require_factors : DefAt K mg "require_factors" 65
  d_digest : DefAt K mg "digest" 66
  d_tree_root : DefAt K mg "tree_root" 67
  d_path_of : DefAt K mg "path_of" 68
  d_root_by_path : DefAt K mg "root_by_path" 69
  d_coded_row : DefAt K mg "coded_row" 70
  d_coded_columns : DefAt K mg "coded_columns" 71
  d_row_of_code : DefAt K mg "row_of_code" 72
  d_near_row : DefAt K mg "near_row" 73
  d_mixed_row : DefAt K mg "mixed_row" 74
  d_agreeing_places : DefAt K mg "agreeing_places" 75
  d_lucky_share : DefAt K mg "lucky_share" 76
  d__law_dice : DefAt K mg "_law_dice" 78
  d__law_roll : DefAt K mg "_law_roll" 79
  d__law_pick : DefAt K mg "_law_pick" 80
  d__law_row : DefAt K mg "_law_row" 81
  d__law_po_worth : DefAt K mg "_law_po_worth" 82
  d__law_points : DefAt K mg "_law_points" 83
  d__law_often : DefAt K mg "_law_often" 84
  d__law_choose : DefAt K mg "_law_choose" 85
  d__law_known_count : DefAt K mg "_law_known_count" 86
  d__law_all_right : DefAt K mg "_law_all_right" 87
  d__law_word_right : DefAt K mg "_law_word_right" 88
  d__law_mixed_right : DefAt K mg "_law_mixed_right" 89
  d__law_divisor : DefAt K mg "_law_divisor" 90
  d__law_tree_right : DefAt K mg "_law_tree_right" 91
  d_law : DefAt K mg "law" 92
section
variable {P : Program} {w : World} {K : Frg} {mg : Str → Option Value} {base : Heap}
def N_is_whole : List Str := ["value"]
theorem nd_is_whole : N_is_whole.Nodup := by decide +kernel
theorem sc_is_whole : FnScope N_is_whole ["value"] (defScope (top 10)) := ⟨by kernel_rfl, by kernel_rfl, by kernel_rfl, nd_is_whole, by kernel_rfl, by decide +kernel, by decide +kernel⟩
theorem cal_is_whole (F : Fx K mg) : Cal P w K mg base 1 "is_whole" 1 [] false m_is_whole := by
  obtain ⟨f, F0, G0⟩ := F.d_is_whole
  refine cal_of (k := 0) (m := 0) (O := []) (ex := b_is_whole) F0 G0 sc_is_whole (by kernel_rfl) (by kernel_rfl) (fun _ _ _ _ _ _ us hl => match us, hl with | [_], _ => rfl) fun cdv A outer s H E hr => ?_
  exact (ss_one (s_ret (se_and (s_isi (T := "int") F.bi (SX.vw (s_var 0)) F.bi.int) (se_one (se_not (s_isi (T := "bool") F.bi (SX.vw (s_var 0)) F.bi.bool))))))
def N_is_near : List Str := ["value"]
theorem nd_is_near : N_is_near.Nodup := by decide +kernel
theorem sc_is_near : FnScope N_is_near ["value"] (defScope (top 11)) := ⟨by kernel_rfl, by kernel_rfl, by kernel_rfl, nd_is_near, by kernel_rfl, by decide +kernel, by decide +kernel⟩
theorem cal_is_near (F : Fx K mg) : Cal P w K mg base 2 "is_near" 1 [] false m_is_near := by
  obtain ⟨f, F0, G0⟩ := F.d_is_near
  refine cal_of (k := 1) (m := 0) (O := []) (ex := b_is_near) F0 G0 sc_is_near (by kernel_rfl) (by kernel_rfl) (fun _ _ _ _ _ _ us hl => match us, hl with | [_], _ => rfl) fun cdv A outer s H E hr => ?_
  exact (ss_one (s_ret (se_and (s_call (cal_is_whole F) hr (sa_cons (s_var 0) sa_nil)) (se_one (s_chain os_lt os_lt (s_un us_neg (SX.vw (s_glob F.g_FAR))) (s_var 0) (SX.vw (s_glob F.g_FAR)))))))
def N_is_within : List Str := ["value", "least", "most"]
theorem nd_is_within : N_is_within.Nodup := by decide +kernel
theorem sc_is_within : FnScope N_is_within ["value", "least", "most"] (defScope (top 12)) := ⟨by kernel_rfl, by kernel_rfl, by kernel_rfl, nd_is_within, by kernel_rfl, by decide +kernel, by decide +kernel⟩
theorem cal_is_within (F : Fx K mg) : Cal P w K mg base 2 "is_within" 3 [] false m_is_within := by
  obtain ⟨f, F0, G0⟩ := F.d_is_within
  refine cal_of (k := 1) (m := 0) (O := []) (ex := b_is_within) F0 G0 sc_is_within (by kernel_rfl) (by kernel_rfl) (fun _ _ _ _ _ _ us hl => match us, hl with | [_, _, _], _ => rfl) fun cdv A outer s H E hr => ?_
  exact (ss_one (s_ret (se_and (s_call (cal_is_whole F) hr (sa_cons (s_var 0) sa_nil)) (se_one (s_chain os_le os_le (s_var 1) (s_var 0) (SX.vw (s_var 2)))))))
def N_is_number_by : List Str := ["p", "value"]
theorem nd_is_number_by : N_is_number_by.Nodup := by decide +kernel
theorem sc_is_number_by : FnScope N_is_number_by ["p", "value"] (defScope (top 13)) := ⟨by kernel_rfl, by kernel_rfl, by kernel_rfl, nd_is_number_by, by kernel_rfl, by decide +kernel, by decide +kernel⟩
theorem cal_is_number_by (F : Fx K mg) : Cal P w K mg base 2 "is_number_by" 2 [] false m_is_number_by := by
  obtain ⟨f, F0, G0⟩ := F.d_is_number_by
  refine cal_of (k := 1) (m := 0) (O := []) (ex := b_is_number_by) F0 G0 sc_is_number_by (by kernel_rfl) (by kernel_rfl) (fun _ _ _ _ _ _ us hl => match us, hl with | [_, _], _ => rfl) fun cdv A outer s H E hr => ?_
  exact (ss_one (s_ret (se_and (s_call (cal_is_whole F) hr (sa_cons (s_var 1) sa_nil)) (se_one (s_chain os_le os_lt s_int (s_var 1) (SX.vw (s_var 0)))))))
def N_are_numbers : List Str := ["p", "value", "one"]
theorem nd_are_numbers : N_are_numbers.Nodup := by decide +kernel
theorem sc_are_numbers : FnScope N_are_numbers ["p", "value"] (defScope (top 14)) := ⟨by kernel_rfl, by kernel_rfl, by kernel_rfl, nd_are_numbers, by kernel_rfl, by decide +kernel, by decide +kernel⟩
theorem cal_are_numbers (F : Fx K mg) : Cal P w K mg base 3 "are_numbers" 2 [] false m_are_numbers := by
  obtain ⟨f, F0, G0⟩ := F.d_are_numbers
  refine cal_of (k := 2) (m := 1) (O := []) (ex := b_are_numbers) F0 G0 sc_are_numbers (by kernel_rfl) (by kernel_rfl) (fun _ _ _ _ _ _ us hl => match us, hl with | [_, _], _ => rfl) fun cdv A outer s H E hr => ?_
  exact (ss_one (s_ret (se_and (s_isi (T := "tuple") F.bi (SX.vw (s_var 1)) F.bi.tuple) (se_one (s_all F.bi (SX.vw (s_lc (own := [("one", 2)]) nd_are_numbers (si_any (s_var 1)) (blk_of (by kernel_rfl)) (fun _ _ _ _ _ => (sg_name 2 nd_are_numbers)) (fun _ _ _ _ _ => sts_nil) (fun _ _ _ _ _ => (s_call (cal_is_number_by F) hr (sa_cons (s_var 0) (sa_cons (s_var 2) sa_nil)))))))))))
def N_is_prime_told : List Str := ["value"]
theorem nd_is_prime_told : N_is_prime_told.Nodup := by decide +kernel
theorem sc_is_prime_told : FnScope N_is_prime_told ["value"] (defScope (top 15)) := ⟨by kernel_rfl, by kernel_rfl, by kernel_rfl, nd_is_prime_told, by kernel_rfl, by decide +kernel, by decide +kernel⟩
theorem cal_is_prime_told (F : Fx K mg) : Cal P w K mg base 2 "is_prime_told" 1 [] false m_is_prime_told := by
  obtain ⟨f, F0, G0⟩ := F.d_is_prime_told
  refine cal_of (k := 1) (m := 0) (O := []) (ex := b_is_prime_told) F0 G0 sc_is_prime_told (by kernel_rfl) (by kernel_rfl) (fun _ _ _ _ _ _ us hl => match us, hl with | [_], _ => rfl) fun cdv A outer s H E hr => ?_
  exact (ss_one (s_ret (se_and (s_call (cal_is_whole F) hr (sa_cons (s_var 0) sa_nil)) (se_one (s_cmp os_in (s_var 0) (SX.vw (s_glob F.g_KNOWN_PRIMES)))))))
def N_require_prime : List Str := ["p"]
theorem nd_require_prime : N_require_prime.Nodup := by decide +kernel
theorem sc_require_prime : FnScope N_require_prime ["p"] (defScope (top 16)) := ⟨by kernel_rfl, by kernel_rfl, by kernel_rfl, nd_require_prime, by kernel_rfl, by decide +kernel, by decide +kernel⟩
theorem cal_require_prime (F : Fx K mg) : Cal P w K mg base 3 "require_prime" 1 [] false m_require_prime := by
  obtain ⟨f, F0, G0⟩ := F.d_require_prime
  refine cal_of (k := 2) (m := 0) (O := []) (ex := b_require_prime) F0 G0 sc_require_prime (by kernel_rfl) (by kernel_rfl) (fun _ _ _ _ _ _ us hl => match us, hl with | [_], _ => rfl) fun cdv A outer s H E hr => ?_
  exact (ss_one (s_ifS (st_not (s_valT (s_call (cal_is_prime_told F) hr (sa_cons (s_var 0) sa_nil)))) (ss_one s_never) ss_nil))
def N_require_number : List Str := ["value", "least", "most"]
theorem nd_require_number : N_require_number.Nodup := by decide +kernel
theorem sc_require_number : FnScope N_require_number ["value", "least", "most"] (defScope (top 17)) := ⟨by kernel_rfl, by kernel_rfl, by kernel_rfl, nd_require_number, by kernel_rfl, by decide +kernel, by decide +kernel⟩
theorem cal_require_number (F : Fx K mg) : Cal P w K mg base 3 "require_number" 3 [] false m_require_number := by
  obtain ⟨f, F0, G0⟩ := F.d_require_number
  refine cal_of (k := 2) (m := 0) (O := []) (ex := b_require_number) F0 G0 sc_require_number (by kernel_rfl) (by kernel_rfl) (fun _ _ _ _ _ _ us hl => match us, hl with | [_, _, _], _ => rfl) fun cdv A outer s H E hr => ?_
  exact (ss_one (s_ifS (st_w (sw_or (st_not (s_valT (s_call (cal_is_near F) hr (sa_cons (s_var 0) sa_nil)))) (sw_or (st_w (sw_and (s_cmpT os_isNotN (s_var 1) (SX.vw s_non)) (sw_and1 (s_cmpT os_lt (s_var 0) (SX.vw (s_var 1)))))) (sw_or1 (st_w (sw_and (s_cmpT os_isNotN (s_var 2) (SX.vw s_non)) (sw_and1 (s_cmpT os_gt (s_var 0) (SX.vw (s_var 2)))))))))) (ss_one s_never) ss_nil))
def N_raised_in : List Str := ["base", "n", "found", "turn"]
theorem nd_raised_in : N_raised_in.Nodup := by decide +kernel
theorem sc_raised_in : FnScope N_raised_in ["base", "n"] (defScope (top 18)) := ⟨by kernel_rfl, by kernel_rfl, by kernel_rfl, nd_raised_in, by kernel_rfl, by decide +kernel, by decide +kernel⟩
theorem cal_raised_in (F : Fx K mg) : Cal P w K mg base 1 "raised_in" 2 [] false m_raised_in := by
  obtain ⟨f, F0, G0⟩ := F.d_raised_in
  refine cal_of (k := 0) (m := 2) (O := []) (ex := b_raised_in) F0 G0 sc_raised_in (by kernel_rfl) (by kernel_rfl) (fun _ _ _ _ _ _ us hl => match us, hl with | [_, _], _ => rfl) fun cdv A outer s H E hr => ?_
  exact (ss_cons (s_set 2 s_int nd_raised_in)
    (ss_cons (s_for [3] (si_rng1 F.bi (s_var 1)) (sg_name 3 nd_raised_in) (ss_one (s_aug 2 ip_mul (s_var 0) nd_raised_in)))
    (ss_one (s_ret (s_var 2)))))
def N_trimmed : List Str := ["p", "numbers", "rests", "many", "one"]
theorem nd_trimmed : N_trimmed.Nodup := by decide +kernel
theorem sc_trimmed : FnScope N_trimmed ["p", "numbers"] (defScope (top 20)) := ⟨by kernel_rfl, by kernel_rfl, by kernel_rfl, nd_trimmed, by kernel_rfl, by decide +kernel, by decide +kernel⟩
theorem cal_trimmed (F : Fx K mg) : Cal P w K mg base 1 "trimmed" 2 [] false m_trimmed := by
  obtain ⟨f, F0, G0⟩ := F.d_trimmed
  refine cal_of (k := 0) (m := 3) (O := []) (ex := b_trimmed) F0 G0 sc_trimmed (by kernel_rfl) (by kernel_rfl) (fun _ _ _ _ _ _ us hl => match us, hl with | [_, _], _ => rfl) fun cdv A outer s H E hr => ?_
  exact (ss_cons (s_setLc 2 (own := [("one", 4)]) nd_trimmed (si_any (s_var 1)) (blk_of (by kernel_rfl)) (fun _ _ _ _ _ => (sg_name 4 nd_trimmed)) (fun _ _ _ _ _ => sts_nil) (fun _ _ _ _ _ => (s_bin os_mod (s_var 4) (SX.vw (s_var 0)))))
    (ss_cons (s_set 3 (s_len F.bi (SX.vw (s_var 2))) nd_trimmed)
    (ss_cons (s_while (st_w (sw_and (s_cmpT os_gt (s_var 3) (SX.vw s_int)) (sw_and1 (s_cmpT (os_eq hr.units) (s_ix (s_var 2) (SX.vw (s_bin os_sub (s_var 3) (SX.vw s_int)))) (SX.vw s_int))))) (ss_one (s_aug 3 ip_subI s_int nd_trimmed)))
    (ss_one (s_ret (s_tuple F.bi (SX.vw (s_sl (s_var 2) sp_no (sp_some (s_var 3))))))))))
def N_power_in : List Str := ["p", "x", "n", "found", "square", "left"]
theorem nd_power_in : N_power_in.Nodup := by decide +kernel
theorem sc_power_in : FnScope N_power_in ["p", "x", "n"] (defScope (top 21)) := ⟨by kernel_rfl, by kernel_rfl, by kernel_rfl, nd_power_in, by kernel_rfl, by decide +kernel, by decide +kernel⟩
theorem cal_power_in (F : Fx K mg) : Cal P w K mg base 1 "power_in" 3 [] false m_power_in := by
  obtain ⟨f, F0, G0⟩ := F.d_power_in
  refine cal_of (k := 0) (m := 3) (O := []) (ex := b_power_in) F0 G0 sc_power_in (by kernel_rfl) (by kernel_rfl) (fun _ _ _ _ _ _ us hl => match us, hl with | [_, _, _], _ => rfl) fun cdv A outer s H E hr => ?_
  exact (ss_cons (s_par3 3 4 5 (saf_sh (s_bin os_mod s_int (SX.vw (s_var 0))) (saf_sh (s_bin os_mod (s_var 1) (SX.vw (s_var 0))) (saf_sh (s_var 2) saf_nil))) nd_power_in)
    (ss_cons (s_while (s_cmpT os_gt (s_var 5) (SX.vw s_int)) (ss_cons (s_ifS (s_cmpT (os_eq hr.units) (s_bin os_mod (s_var 5) (SX.vw s_int)) (SX.vw s_int)) (ss_one (s_set 3 (s_bin os_mod (s_bin os_mul (s_var 3) (SX.vw (s_var 4))) (SX.vw (s_var 0))) nd_power_in)) ss_nil)
    (ss_one (s_par2 4 5 (saf_sh (s_bin os_mod (s_bin os_mul (s_var 4) (SX.vw (s_var 4))) (SX.vw (s_var 0))) (saf_sh (s_bin os_div (s_var 5) (SX.vw s_int)) saf_nil)) nd_power_in))))
    (ss_one (s_ret (s_var 3)))))
def N_back_in : List Str := ["p", "x"]
theorem nd_back_in : N_back_in.Nodup := by decide +kernel
theorem sc_back_in : FnScope N_back_in ["p", "x"] (defScope (top 22)) := ⟨by kernel_rfl, by kernel_rfl, by kernel_rfl, nd_back_in, by kernel_rfl, by decide +kernel, by decide +kernel⟩
theorem cal_back_in (F : Fx K mg) : Cal P w K mg base 2 "back_in" 2 [] false m_back_in := by
  obtain ⟨f, F0, G0⟩ := F.d_back_in
  refine cal_of (k := 1) (m := 0) (O := []) (ex := b_back_in) F0 G0 sc_back_in (by kernel_rfl) (by kernel_rfl) (fun _ _ _ _ _ _ us hl => match us, hl with | [_, _], _ => rfl) fun cdv A outer s H E hr => ?_
  exact (ss_one (s_ret (s_call (cal_power_in F) hr (sa_cons (s_var 0) (sa_cons (s_var 1) (sa_cons (s_bin os_sub (s_var 0) (SX.vw s_int)) sa_nil))))))
def N_worth_in : List Str := ["p", "f", "x", "found", "one"]
theorem nd_worth_in : N_worth_in.Nodup := by decide +kernel
theorem sc_worth_in : FnScope N_worth_in ["p", "f", "x"] (defScope (top 23)) := ⟨by kernel_rfl, by kernel_rfl, by kernel_rfl, nd_worth_in, by kernel_rfl, by decide +kernel, by decide +kernel⟩
theorem cal_worth_in (F : Fx K mg) : Cal P w K mg base 1 "worth_in" 3 [] false m_worth_in := by
  obtain ⟨f, F0, G0⟩ := F.d_worth_in
  refine cal_of (k := 0) (m := 2) (O := []) (ex := b_worth_in) F0 G0 sc_worth_in (by kernel_rfl) (by kernel_rfl) (fun _ _ _ _ _ _ us hl => match us, hl with | [_, _, _], _ => rfl) fun cdv A outer s H E hr => ?_
  exact (ss_cons (s_set 3 s_int nd_worth_in)
    (ss_cons (s_for [4] (si_any (s_revT (s_var 1))) (sg_name 4 nd_worth_in) (ss_one (s_set 3 (s_bin os_mod (s_bin os_add (s_bin os_mul (s_var 3) (SX.vw (s_var 2))) (SX.vw (s_var 4))) (SX.vw (s_var 0))) nd_worth_in)))
    (ss_one (s_ret (s_var 3)))))
def N_added_in : List Str := ["p", "f", "g", "wide", "first", "second", "one", "other"]
theorem nd_added_in : N_added_in.Nodup := by decide +kernel
theorem sc_added_in : FnScope N_added_in ["p", "f", "g"] (defScope (top 24)) := ⟨by kernel_rfl, by kernel_rfl, by kernel_rfl, nd_added_in, by kernel_rfl, by decide +kernel, by decide +kernel⟩
theorem cal_added_in (F : Fx K mg) : Cal P w K mg base 2 "added_in" 3 [] false m_added_in := by
  obtain ⟨f, F0, G0⟩ := F.d_added_in
  refine cal_of (k := 1) (m := 5) (O := []) (ex := b_added_in) F0 G0 sc_added_in (by kernel_rfl) (by kernel_rfl) (fun _ _ _ _ _ _ us hl => match us, hl with | [_, _, _], _ => rfl) fun cdv A outer s H E hr => ?_
  exact (ss_cons (s_set 3 (s_max F.bi (s_len F.bi (SX.vw (s_var 1))) (SX.vw (s_len F.bi (SX.vw (s_var 2))))) nd_added_in)
    (ss_cons (s_par2 4 5 (saf_sh (SX.sh (fr := true) (s_lst (sa_star (s_var 1) (sa_star (SX.sh (fr := true) (s_bin os_rep (SX.sh (fr := true) (s_lst (sa_cons s_int sa_nil))) (SX.vw (s_bin os_sub (s_var 3) (SX.vw (s_len F.bi (SX.vw (s_var 1)))))))) sa_nil)))) (saf_sh (SX.sh (fr := true) (s_lst (sa_star (s_var 2) (sa_star (SX.sh (fr := true) (s_bin os_rep (SX.sh (fr := true) (s_lst (sa_cons s_int sa_nil))) (SX.vw (s_bin os_sub (s_var 3) (SX.vw (s_len F.bi (SX.vw (s_var 2)))))))) sa_nil)))) saf_nil)) nd_added_in)
    (ss_one (s_ret (s_call (cal_trimmed F) hr (sa_cons (s_var 0) (sa_cons (SX.sh (fr := true) (s_lc (own := [("one", 6), ("other", 7)]) nd_added_in (si_zip2 F.bi (s_var 4) (s_var 5)) (blk_of (by kernel_rfl)) (fun _ _ _ _ _ => (sg_tup (sgs_cons (sg_name 6 nd_added_in) (sgs_cons (sg_name 7 nd_added_in) sgs_nil)))) (fun _ _ _ _ _ => sts_nil) (fun _ _ _ _ _ => (s_bin os_add (s_var 6) (SX.vw (s_var 7)))))) sa_nil)))))))
def N_scaled_in : List Str := ["p", "f", "c", "one"]
theorem nd_scaled_in : N_scaled_in.Nodup := by decide +kernel
theorem sc_scaled_in : FnScope N_scaled_in ["p", "f", "c"] (defScope (top 25)) := ⟨by kernel_rfl, by kernel_rfl, by kernel_rfl, nd_scaled_in, by kernel_rfl, by decide +kernel, by decide +kernel⟩
theorem cal_scaled_in (F : Fx K mg) : Cal P w K mg base 2 "scaled_in" 3 [] false m_scaled_in := by
  obtain ⟨f, F0, G0⟩ := F.d_scaled_in
  refine cal_of (k := 1) (m := 1) (O := []) (ex := b_scaled_in) F0 G0 sc_scaled_in (by kernel_rfl) (by kernel_rfl) (fun _ _ _ _ _ _ us hl => match us, hl with | [_, _, _], _ => rfl) fun cdv A outer s H E hr => ?_
  exact (ss_one (s_ret (s_call (cal_trimmed F) hr (sa_cons (s_var 0) (sa_cons (SX.sh (fr := true) (s_lc (own := [("one", 3)]) nd_scaled_in (si_any (s_var 1)) (blk_of (by kernel_rfl)) (fun _ _ _ _ _ => (sg_name 3 nd_scaled_in)) (fun _ _ _ _ _ => sts_nil) (fun _ _ _ _ _ => (s_bin os_mul (s_var 2) (SX.vw (s_var 3)))))) sa_nil)))))
def N_product_in : List Str := ["p", "f", "g", "found", "i", "one", "j", "other"]
theorem nd_product_in : N_product_in.Nodup := by decide +kernel
theorem sc_product_in : FnScope N_product_in ["p", "f", "g"] (defScope (top 26)) := ⟨by kernel_rfl, by kernel_rfl, by kernel_rfl, nd_product_in, by kernel_rfl, by decide +kernel, by decide +kernel⟩
theorem cal_product_in (F : Fx K mg) : Cal P w K mg base 2 "product_in" 3 [] false m_product_in := by
  obtain ⟨f, F0, G0⟩ := F.d_product_in
  refine cal_of (k := 1) (m := 5) (O := [3]) (ex := b_product_in) F0 G0 sc_product_in (by kernel_rfl) (by kernel_rfl) (fun _ _ _ _ _ _ us hl => match us, hl with | [_, _, _], _ => rfl) fun cdv A outer s H E hr => ?_
  exact (ss_cons (s_ifS (st_w (sw_or (s_cmpT (os_eq hr.units) (s_var 1) (SX.vw (s_tup sa_nil))) (sw_or1 (s_cmpT (os_eq hr.units) (s_var 2) (SX.vw (s_tup sa_nil)))))) (ss_one (s_ret (s_tup sa_nil))) ss_nil)
    (ss_cons (s_setO 3 (s_bin os_rep (SX.sh (fr := true) (s_lst (sa_cons s_int sa_nil))) (SX.vw (s_bin os_sub (s_bin os_add (s_len F.bi (SX.vw (s_var 1))) (SX.vw (s_len F.bi (SX.vw (s_var 2))))) (SX.vw s_int)))) nd_product_in)
    (ss_cons (s_for [4, 5, 6, 7] (si_enum F.bi (s_var 1)) (sg_tup (sgs_cons (sg_name 4 nd_product_in) (sgs_cons (sg_name 5 nd_product_in) sgs_nil))) (ss_one (s_for [6, 7] (si_enum F.bi (s_var 2)) (sg_tup (sgs_cons (sg_name 6 nd_product_in) (sgs_cons (sg_name 7 nd_product_in) sgs_nil))) (ss_one (s_augStore 3 ip_addI (s_bin os_mul (s_var 5) (SX.vw (s_var 7))) (s_bin os_add (s_var 4) (SX.vw (s_var 6))))))))
    (ss_one (s_ret (s_call (cal_trimmed F) hr (sa_cons (s_var 0) (sa_cons (SX.sh (fr := true) (s_move 3)) sa_nil))))))))
def N_through_in : List Str := ["p", "values", "found", "ahead", "at", "value", "c"]
theorem nd_through_in : N_through_in.Nodup := by decide +kernel
theorem sc_through_in : FnScope N_through_in ["p", "values"] (defScope (top 27)) := ⟨by kernel_rfl, by kernel_rfl, by kernel_rfl, nd_through_in, by kernel_rfl, by decide +kernel, by decide +kernel⟩
theorem cal_through_in (F : Fx K mg) : Cal P w K mg base 3 "through_in" 2 [] false m_through_in := by
  obtain ⟨f, F0, G0⟩ := F.d_through_in
  refine cal_of (k := 2) (m := 5) (O := []) (ex := b_through_in) F0 G0 sc_through_in (by kernel_rfl) (by kernel_rfl) (fun _ _ _ _ _ _ us hl => match us, hl with | [_, _], _ => rfl) fun cdv A outer s H E hr => ?_
  exact (ss_cons (s_asgT (s_tup (sa_cons (s_tup sa_nil) (sa_cons (s_tup (sa_cons s_int sa_nil)) sa_nil))) (sg_tup (sgs_cons (sg_name 2 nd_through_in) (sgs_cons (sg_name 3 nd_through_in) sgs_nil))))
    (ss_cons (s_for [4, 5, 6] (si_enum F.bi (s_var 1)) (sg_tup (sgs_cons (sg_name 4 nd_through_in) (sgs_cons (sg_name 5 nd_through_in) sgs_nil))) (ss_cons (s_set 6 (s_bin os_mul (s_bin os_sub (s_var 5) (SX.vw (s_call (cal_worth_in F) hr (sa_cons (s_var 0) (sa_cons (s_var 2) (sa_cons (s_var 4) sa_nil)))))) (SX.vw (s_call (cal_back_in F) hr (sa_cons (s_var 0) (sa_cons (s_call (cal_worth_in F) hr (sa_cons (s_var 0) (sa_cons (s_var 3) (sa_cons (s_var 4) sa_nil)))) sa_nil))))) nd_through_in)
    (ss_cons (s_set 2 (s_call (cal_added_in F) hr (sa_cons (s_var 0) (sa_cons (s_var 2) (sa_cons (s_call (cal_scaled_in F) hr (sa_cons (s_var 0) (sa_cons (s_var 3) (sa_cons (s_var 6) sa_nil)))) sa_nil)))) nd_through_in)
    (ss_one (s_set 3 (s_call (cal_product_in F) hr (sa_cons (s_var 0) (sa_cons (s_var 3) (sa_cons (s_tup (sa_cons (s_bin os_mod (s_un us_neg (SX.vw (s_var 4))) (SX.vw (s_var 0))) (sa_cons s_int sa_nil))) sa_nil)))) nd_through_in)))))
    (ss_one (s_ret (s_var 2)))))
def N_digest_in : List Str := ["members", "state", "member"]
theorem nd_digest_in : N_digest_in.Nodup := by decide +kernel
theorem sc_digest_in : FnScope N_digest_in ["members"] (defScope (top 41)) := ⟨by kernel_rfl, by kernel_rfl, by kernel_rfl, nd_digest_in, by kernel_rfl, by decide +kernel, by decide +kernel⟩
theorem cal_digest_in (F : Fx K mg) : Cal P w K mg base 2 "digest_in" 1 [] false m_digest_in := by
  obtain ⟨f, F0, G0⟩ := F.d_digest_in
  refine cal_of (k := 1) (m := 2) (O := []) (ex := b_digest_in) F0 G0 sc_digest_in (by kernel_rfl) (by kernel_rfl) (fun _ _ _ _ _ _ us hl => match us, hl with | [_], _ => rfl) fun cdv A outer s H E hr => ?_
  exact (ss_cons (s_set 1 (s_len F.bi (SX.vw (s_var 0))) nd_digest_in)
    (ss_cons (s_for [2] (si_any (s_var 0)) (sg_name 2 nd_digest_in) (ss_one (s_set 1 (s_bin os_mod (s_bin os_add (s_call (cal_power_in F) hr (sa_cons (s_glob F.g_GREAT_PRIME) (sa_cons (s_bin os_add (s_var 1) (SX.vw (s_var 2))) (sa_cons (s_glob F.g_POWER) sa_nil)))) (SX.vw (s_glob F.g_MORE))) (SX.vw (s_glob F.g_GREAT_PRIME))) nd_digest_in)))
    (ss_one (s_ret (s_var 1)))))
def N_digest_layers : List Str := ["leaves", "found", "here", "leaf", "at"]
theorem nd_digest_layers : N_digest_layers.Nodup := by decide +kernel
theorem sc_digest_layers : FnScope N_digest_layers ["leaves"] (defScope (top 42)) := ⟨by kernel_rfl, by kernel_rfl, by kernel_rfl, nd_digest_layers, by kernel_rfl, by decide +kernel, by decide +kernel⟩
theorem cal_digest_layers (F : Fx K mg) : Cal P w K mg base 3 "digest_layers" 1 [] true m_digest_layers := by
  obtain ⟨f, F0, G0⟩ := F.d_digest_layers
  refine cal_of (k := 2) (m := 4) (O := [1]) (ex := b_digest_layers) F0 G0 sc_digest_layers (by kernel_rfl) (by kernel_rfl) (fun _ _ _ _ _ _ us hl => match us, hl with | [_], _ => rfl) fun cdv A outer s H E hr => ?_
  exact (ss_cons (s_setO 1 (s_lst (sa_cons (SX.sh (fr := true) (s_lc (own := [("leaf", 3)]) nd_digest_layers (si_any (s_var 0)) (blk_of (by kernel_rfl)) (fun _ _ _ _ _ => (sg_name 3 nd_digest_layers)) (fun _ _ _ _ _ => sts_nil) (fun _ _ _ _ _ => (s_call (cal_digest_in F) hr (sa_cons (s_var 3) sa_nil))))) sa_nil)) nd_digest_layers)
    (ss_cons (s_while (s_cmpT os_gt (s_len F.bi (SX.vw (s_ixO 1 (SX.vw (s_un us_neg (SX.vw s_int)))))) (SX.vw s_int)) (ss_cons (s_set 2 (s_ixO 1 (SX.vw (s_un us_neg (SX.vw s_int)))) nd_digest_layers)
    (ss_one (s_expr (s_app 1 (SX.sh (fr := true) (s_lc (own := [("at", 4)]) nd_digest_layers (si_rng3b F.bi s_int (s_len F.bi (SX.vw (s_var 2))) (s_glob F.g_TWO)) (blk_of (by kernel_rfl)) (fun _ _ _ _ _ => (sg_name 4 nd_digest_layers)) (fun _ _ _ _ _ => sts_nil) (fun _ _ _ _ _ => (s_call (cal_digest_in F) hr (sa_cons (s_tup (sa_cons (s_ix (s_var 2) (SX.vw (s_var 4))) (sa_cons (s_ix (s_var 2) (SX.vw (s_bin os_add (s_var 4) (SX.vw s_int)))) sa_nil))) sa_nil))))))))))
    (ss_one (s_ret (s_move 1)))))
def N_root_in : List Str := ["leaves"]
theorem nd_root_in : N_root_in.Nodup := by decide +kernel
theorem sc_root_in : FnScope N_root_in ["leaves"] (defScope (top 43)) := ⟨by kernel_rfl, by kernel_rfl, by kernel_rfl, nd_root_in, by kernel_rfl, by decide +kernel, by decide +kernel⟩
theorem cal_root_in (F : Fx K mg) : Cal P w K mg base 4 "root_in" 1 [] false m_root_in := by
  obtain ⟨f, F0, G0⟩ := F.d_root_in
  refine cal_of (k := 3) (m := 0) (O := []) (ex := b_root_in) F0 G0 sc_root_in (by kernel_rfl) (by kernel_rfl) (fun _ _ _ _ _ _ us hl => match us, hl with | [_], _ => rfl) fun cdv A outer s H E hr => ?_
  exact (ss_one (s_ret (s_ix (s_ix (SX.sh (fr := true) (s_call (cal_digest_layers F) hr (sa_cons (s_var 0) sa_nil))) (SX.vw (s_un us_neg (SX.vw s_int)))) (SX.vw s_int))))
def N_path_in : List Str := ["leaves", "at", "found", "layer"]
theorem nd_path_in : N_path_in.Nodup := by decide +kernel
theorem sc_path_in : FnScope N_path_in ["leaves", "at"] (defScope (top 44)) := ⟨by kernel_rfl, by kernel_rfl, by kernel_rfl, nd_path_in, by kernel_rfl, by decide +kernel, by decide +kernel⟩
theorem cal_path_in (F : Fx K mg) : Cal P w K mg base 4 "path_in" 2 [] false m_path_in := by
  obtain ⟨f, F0, G0⟩ := F.d_path_in
  refine cal_of (k := 3) (m := 2) (O := [2]) (ex := b_path_in) F0 G0 sc_path_in (by kernel_rfl) (by kernel_rfl) (fun _ _ _ _ _ _ us hl => match us, hl with | [_, _], _ => rfl) fun cdv A outer s H E hr => ?_
  exact (ss_cons (s_setO 2 (s_lst sa_nil) nd_path_in)
    (ss_cons (s_for [3] (si_any (SX.sh (fr := true) (s_slL (SX.sh (fr := true) (s_call (cal_digest_layers F) hr (sa_cons (s_var 0) sa_nil))) sp_no (sp_some (s_un us_neg (SX.vw s_int)))))) (sg_name 3 nd_path_in) (ss_cons (s_expr (s_app 2 (s_ix (s_var 3) (SX.vw (s_bin os_xor (s_var 1) (SX.vw s_int))))))
    (ss_one (s_aug 1 ip_div (s_glob F.g_TWO) nd_path_in))))
    (ss_one (s_ret (s_tuple F.bi (s_look 2))))))
def N_root_by_path_in : List Str := ["leaf", "at", "path", "here", "brother"]
theorem nd_root_by_path_in : N_root_by_path_in.Nodup := by decide +kernel
theorem sc_root_by_path_in : FnScope N_root_by_path_in ["leaf", "at", "path"] (defScope (top 45)) := ⟨by kernel_rfl, by kernel_rfl, by kernel_rfl, nd_root_by_path_in, by kernel_rfl, by decide +kernel, by decide +kernel⟩
theorem cal_root_by_path_in (F : Fx K mg) : Cal P w K mg base 3 "root_by_path_in" 3 [] false m_root_by_path_in := by
  obtain ⟨f, F0, G0⟩ := F.d_root_by_path_in
  refine cal_of (k := 2) (m := 2) (O := []) (ex := b_root_by_path_in) F0 G0 sc_root_by_path_in (by kernel_rfl) (by kernel_rfl) (fun _ _ _ _ _ _ us hl => match us, hl with | [_, _, _], _ => rfl) fun cdv A outer s H E hr => ?_
  exact (ss_cons (s_set 3 (s_call (cal_digest_in F) hr (sa_cons (s_var 0) sa_nil)) nd_root_by_path_in)
    (ss_cons (s_for [4] (si_any (s_var 2)) (sg_name 4 nd_root_by_path_in) (ss_cons (s_set 3 (s_if (s_cmpT (os_eq hr.units) (s_bin os_mod (s_var 1) (SX.vw (s_glob F.g_TWO))) (SX.vw s_int)) (s_call (cal_digest_in F) hr (sa_cons (s_tup (sa_cons (s_var 3) (sa_cons (s_var 4) sa_nil))) sa_nil)) (s_call (cal_digest_in F) hr (sa_cons (s_tup (sa_cons (s_var 4) (sa_cons (s_var 3) sa_nil))) sa_nil))) nd_root_by_path_in)
    (ss_one (s_aug 1 ip_div (s_glob F.g_TWO) nd_root_by_path_in))))
    (ss_one (s_ret (s_var 3)))))
def N_coded_row_in : List Str := ["p", "row", "many", "x"]
theorem nd_coded_row_in : N_coded_row_in.Nodup := by decide +kernel
theorem sc_coded_row_in : FnScope N_coded_row_in ["p", "row", "many"] (defScope (top 46)) := ⟨by kernel_rfl, by kernel_rfl, by kernel_rfl, nd_coded_row_in, by kernel_rfl, by decide +kernel, by decide +kernel⟩
theorem cal_coded_row_in (F : Fx K mg) : Cal P w K mg base 2 "coded_row_in" 3 [] false m_coded_row_in := by
  obtain ⟨f, F0, G0⟩ := F.d_coded_row_in
  refine cal_of (k := 1) (m := 1) (O := []) (ex := b_coded_row_in) F0 G0 sc_coded_row_in (by kernel_rfl) (by kernel_rfl) (fun _ _ _ _ _ _ us hl => match us, hl with | [_, _, _], _ => rfl) fun cdv A outer s H E hr => ?_
  exact (ss_one (s_ret (s_tuple F.bi (SX.vw (s_lc (own := [("x", 3)]) nd_coded_row_in (si_rng1 F.bi (s_var 2)) (blk_of (by kernel_rfl)) (fun _ _ _ _ _ => (sg_name 3 nd_coded_row_in)) (fun _ _ _ _ _ => sts_nil) (fun _ _ _ _ _ => (s_call (cal_worth_in F) hr (sa_cons (s_var 0) (sa_cons (s_var 1) (sa_cons (s_var 3) sa_nil))))))))))
def N_coded_columns_in : List Str := ["p", "rows", "many", "x", "row"]
theorem nd_coded_columns_in : N_coded_columns_in.Nodup := by decide +kernel
theorem sc_coded_columns_in : FnScope N_coded_columns_in ["p", "rows", "many"] (defScope (top 47)) := ⟨by kernel_rfl, by kernel_rfl, by kernel_rfl, nd_coded_columns_in, by kernel_rfl, by decide +kernel, by decide +kernel⟩
theorem cal_coded_columns_in (F : Fx K mg) : Cal P w K mg base 2 "coded_columns_in" 3 [] false m_coded_columns_in := by
  obtain ⟨f, F0, G0⟩ := F.d_coded_columns_in
  refine cal_of (k := 1) (m := 2) (O := []) (ex := b_coded_columns_in) F0 G0 sc_coded_columns_in (by kernel_rfl) (by kernel_rfl) (fun _ _ _ _ _ _ us hl => match us, hl with | [_, _, _], _ => rfl) fun cdv A outer s H E hr => ?_
  exact (ss_one (s_ret (s_tuple F.bi (SX.vw (s_lc (own := [("x", 3)]) nd_coded_columns_in (si_rng1 F.bi (s_var 2)) (blk_of (by kernel_rfl)) (fun _ _ _ _ _ => (sg_name 3 nd_coded_columns_in)) (fun _ _ _ _ _ => sts_nil) (fun _ _ _ _ _ => (s_tuple F.bi (SX.vw (s_lc (own := [("row", 4)]) nd_coded_columns_in (si_any (s_var 1)) (blk_of (by kernel_rfl)) (fun _ _ _ _ _ => (sg_name 4 nd_coded_columns_in)) (fun _ _ _ _ _ => sts_nil) (fun _ _ _ _ _ => (s_call (cal_worth_in F) hr (sa_cons (s_var 0) (sa_cons (s_var 4) (sa_cons (s_var 3) sa_nil))))))))))))))
def N_row_through : List Str := ["p", "values", "found"]
theorem nd_row_through : N_row_through.Nodup := by decide +kernel
theorem sc_row_through : FnScope N_row_through ["p", "values"] (defScope (top 48)) := ⟨by kernel_rfl, by kernel_rfl, by kernel_rfl, nd_row_through, by kernel_rfl, by decide +kernel, by decide +kernel⟩
theorem cal_row_through (F : Fx K mg) : Cal P w K mg base 4 "row_through" 2 [] false m_row_through := by
  obtain ⟨f, F0, G0⟩ := F.d_row_through
  refine cal_of (k := 3) (m := 1) (O := []) (ex := b_row_through) F0 G0 sc_row_through (by kernel_rfl) (by kernel_rfl) (fun _ _ _ _ _ _ us hl => match us, hl with | [_, _], _ => rfl) fun cdv A outer s H E hr => ?_
  exact (ss_cons (s_set 2 (s_call (cal_through_in F) hr (sa_cons (s_var 0) (sa_cons (s_var 1) sa_nil))) nd_row_through)
    (ss_one (s_ret (s_tup (sa_star (s_var 2) (sa_star (SX.sh (fr := true) (s_bin os_rep (SX.sh (fr := true) (s_lst (sa_cons s_int sa_nil))) (SX.vw (s_bin os_sub (s_len F.bi (SX.vw (s_var 1))) (SX.vw (s_len F.bi (SX.vw (s_var 2)))))))) sa_nil))))))
def N_shifted : List Str := ["p", "numbers", "x", "raised", "one", "other"]
theorem nd_shifted : N_shifted.Nodup := by decide +kernel
theorem sc_shifted : FnScope N_shifted ["p", "numbers", "x"] (defScope (top 49)) := ⟨by kernel_rfl, by kernel_rfl, by kernel_rfl, nd_shifted, by kernel_rfl, by decide +kernel, by decide +kernel⟩
theorem cal_shifted (F : Fx K mg) : Cal P w K mg base 1 "shifted" 3 [] true m_shifted := by
  obtain ⟨f, F0, G0⟩ := F.d_shifted
  refine cal_of (k := 0) (m := 3) (O := []) (ex := b_shifted) F0 G0 sc_shifted (by kernel_rfl) (by kernel_rfl) (fun _ _ _ _ _ _ us hl => match us, hl with | [_, _, _], _ => rfl) fun cdv A outer s H E hr => ?_
  exact (ss_cons (s_set 3 (SX.sh (fr := true) (s_lst (sa_cons s_int (sa_star (s_sl (s_var 1) sp_no (sp_some (s_un us_neg (SX.vw s_int)))) sa_nil)))) nd_shifted)
    (ss_one (s_ret (s_lc (own := [("one", 4), ("other", 5)]) nd_shifted (si_zip2 F.bi (s_var 3) (s_var 1)) (blk_of (by kernel_rfl)) (fun _ _ _ _ _ => (sg_tup (sgs_cons (sg_name 4 nd_shifted) (sgs_cons (sg_name 5 nd_shifted) sgs_nil)))) (fun _ _ _ _ _ => sts_nil) (fun _ _ _ _ _ => (s_bin os_mod (s_bin os_sub (s_var 4) (SX.vw (s_bin os_mul (s_var 2) (SX.vw (s_var 5))))) (SX.vw (s_var 0))))))))
def N_row_of_code_in : List Str := ["p", "word", "width", "row"]
theorem nd_row_of_code_in : N_row_of_code_in.Nodup := by decide +kernel
theorem sc_row_of_code_in : FnScope N_row_of_code_in ["p", "word", "width"] (defScope (top 50)) := ⟨by kernel_rfl, by kernel_rfl, by kernel_rfl, nd_row_of_code_in, by kernel_rfl, by decide +kernel, by decide +kernel⟩
theorem cal_row_of_code_in (F : Fx K mg) : Cal P w K mg base 5 "row_of_code_in" 3 [] false m_row_of_code_in := by
  obtain ⟨f, F0, G0⟩ := F.d_row_of_code_in
  refine cal_of (k := 4) (m := 1) (O := []) (ex := b_row_of_code_in) F0 G0 sc_row_of_code_in (by kernel_rfl) (by kernel_rfl) (fun _ _ _ _ _ _ us hl => match us, hl with | [_, _, _], _ => rfl) fun cdv A outer s H E hr => ?_
  exact (ss_cons (s_set 3 (s_call (cal_row_through F) hr (sa_cons (s_var 0) (sa_cons (s_sl (s_var 1) sp_no (sp_some (s_var 2))) sa_nil))) nd_row_of_code_in)
    (ss_one (s_ret (s_if (s_cmpT (os_eq hr.units) (s_call (cal_coded_row_in F) hr (sa_cons (s_var 0) (sa_cons (s_var 3) (sa_cons (s_len F.bi (SX.vw (s_var 1))) sa_nil)))) (SX.vw (s_tuple F.bi (SX.vw (s_var 1))))) (s_var 3) s_non))))
def N_near_row_in : List Str := ["p", "width", "found", "x"]
theorem nd_near_row_in : N_near_row_in.Nodup := by decide +kernel
theorem sc_near_row_in : FnScope N_near_row_in ["p", "width"] (defScope (top 51)) := ⟨by kernel_rfl, by kernel_rfl, by kernel_rfl, nd_near_row_in, by kernel_rfl, by decide +kernel, by decide +kernel⟩
theorem cal_near_row_in (F : Fx K mg) : Cal P w K mg base 2 "near_row_in" 2 [] false m_near_row_in := by
  obtain ⟨f, F0, G0⟩ := F.d_near_row_in
  refine cal_of (k := 1) (m := 2) (O := []) (ex := b_near_row_in) F0 G0 sc_near_row_in (by kernel_rfl) (by kernel_rfl) (fun _ _ _ _ _ _ us hl => match us, hl with | [_, _], _ => rfl) fun cdv A outer s H E hr => ?_
  exact (ss_cons (s_set 2 (SX.sh (fr := true) (s_lst (sa_cons s_int (sa_star (SX.sh (fr := true) (s_bin os_rep (SX.sh (fr := true) (s_lst (sa_cons s_int sa_nil))) (SX.vw (s_bin os_sub (s_var 1) (SX.vw s_int))))) sa_nil)))) nd_near_row_in)
    (ss_cons (s_for [3] (si_rng1 F.bi (s_bin os_sub (s_var 1) (SX.vw s_int))) (sg_name 3 nd_near_row_in) (ss_one (s_set 2 (SX.sh (fr := true) (s_call (cal_shifted F) hr (sa_cons (s_var 0) (sa_cons (s_var 2) (sa_cons (s_var 3) sa_nil))))) nd_near_row_in)))
    (ss_one (s_ret (s_tuple F.bi (SX.vw (s_var 2)))))))
def N_mixed_row_in : List Str := ["p", "rows", "factors", "found", "row", "factor", "one", "other"]
theorem nd_mixed_row_in : N_mixed_row_in.Nodup := by decide +kernel
theorem sc_mixed_row_in : FnScope N_mixed_row_in ["p", "rows", "factors"] (defScope (top 52)) := ⟨by kernel_rfl, by kernel_rfl, by kernel_rfl, nd_mixed_row_in, by kernel_rfl, by decide +kernel, by decide +kernel⟩
theorem cal_mixed_row_in (F : Fx K mg) : Cal P w K mg base 1 "mixed_row_in" 3 [] false m_mixed_row_in := by
  obtain ⟨f, F0, G0⟩ := F.d_mixed_row_in
  refine cal_of (k := 0) (m := 5) (O := []) (ex := b_mixed_row_in) F0 G0 sc_mixed_row_in (by kernel_rfl) (by kernel_rfl) (fun _ _ _ _ _ _ us hl => match us, hl with | [_, _, _], _ => rfl) fun cdv A outer s H E hr => ?_
  exact (ss_cons (s_set 3 (SX.sh (fr := true) (s_bin os_rep (SX.sh (fr := true) (s_lst (sa_cons s_int sa_nil))) (SX.vw (s_len F.bi (SX.vw (s_ix (s_var 1) (SX.vw s_int))))))) nd_mixed_row_in)
    (ss_cons (s_for [4, 5] (si_zip2 F.bi (s_var 1) (s_var 2)) (sg_tup (sgs_cons (sg_name 4 nd_mixed_row_in) (sgs_cons (sg_name 5 nd_mixed_row_in) sgs_nil))) (ss_one (s_setLc 3 (own := [("one", 6), ("other", 7)]) nd_mixed_row_in (si_zip2 F.bi (s_var 3) (s_var 4)) (blk_of (by kernel_rfl)) (fun _ _ _ _ _ => (sg_tup (sgs_cons (sg_name 6 nd_mixed_row_in) (sgs_cons (sg_name 7 nd_mixed_row_in) sgs_nil)))) (fun _ _ _ _ _ => sts_nil) (fun _ _ _ _ _ => (s_bin os_mod (s_bin os_add (s_var 6) (SX.vw (s_bin os_mul (s_var 5) (SX.vw (s_var 7))))) (SX.vw (s_var 0)))))))
    (ss_one (s_ret (s_tuple F.bi (SX.vw (s_var 3)))))))
def N_mixed_column : List Str := ["p", "column", "factors", "factor", "number"]
theorem nd_mixed_column : N_mixed_column.Nodup := by decide +kernel
theorem sc_mixed_column : FnScope N_mixed_column ["p", "column", "factors"] (defScope (top 53)) := ⟨by kernel_rfl, by kernel_rfl, by kernel_rfl, nd_mixed_column, by kernel_rfl, by decide +kernel, by decide +kernel⟩
theorem cal_mixed_column (F : Fx K mg) : Cal P w K mg base 1 "mixed_column" 3 [] false m_mixed_column := by
  obtain ⟨f, F0, G0⟩ := F.d_mixed_column
  refine cal_of (k := 0) (m := 2) (O := []) (ex := b_mixed_column) F0 G0 sc_mixed_column (by kernel_rfl) (by kernel_rfl) (fun _ _ _ _ _ _ us hl => match us, hl with | [_, _, _], _ => rfl) fun cdv A outer s H E hr => ?_
  exact (ss_one (s_ret (s_bin os_mod (s_sum F.bi (SX.vw (s_lc (own := [("factor", 3), ("number", 4)]) nd_mixed_column (si_zip2 F.bi (s_var 2) (s_var 1)) (blk_of (by kernel_rfl)) (fun _ _ _ _ _ => (sg_tup (sgs_cons (sg_name 3 nd_mixed_column) (sgs_cons (sg_name 4 nd_mixed_column) sgs_nil)))) (fun _ _ _ _ _ => sts_nil) (fun _ _ _ _ _ => (s_bin os_mul (s_var 3) (SX.vw (s_var 4))))))) (SX.vw (s_var 0)))))
def N_agreeing_in : List Str := ["p", "columns", "factors", "mixed", "code", "x", "column"]
theorem nd_agreeing_in : N_agreeing_in.Nodup := by decide +kernel
theorem sc_agreeing_in : FnScope N_agreeing_in ["p", "columns", "factors", "mixed"] (defScope (top 54)) := ⟨by kernel_rfl, by kernel_rfl, by kernel_rfl, nd_agreeing_in, by kernel_rfl, by decide +kernel, by decide +kernel⟩
theorem cal_agreeing_in (F : Fx K mg) : Cal P w K mg base 3 "agreeing_in" 4 [] false m_agreeing_in := by
  obtain ⟨f, F0, G0⟩ := F.d_agreeing_in
  refine cal_of (k := 2) (m := 3) (O := []) (ex := b_agreeing_in) F0 G0 sc_agreeing_in (by kernel_rfl) (by kernel_rfl) (fun _ _ _ _ _ _ us hl => match us, hl with | [_, _, _, _], _ => rfl) fun cdv A outer s H E hr => ?_
  exact (ss_cons (s_set 4 (s_call (cal_coded_row_in F) hr (sa_cons (s_var 0) (sa_cons (s_var 3) (sa_cons (s_len F.bi (SX.vw (s_var 1))) sa_nil)))) nd_agreeing_in)
    (ss_one (s_ret (s_tuple F.bi (SX.vw (s_lc (own := [("x", 5), ("column", 6)]) nd_agreeing_in (si_enum F.bi (s_var 1)) (blk_of (by kernel_rfl)) (fun _ _ _ _ _ => (sg_tup (sgs_cons (sg_name 5 nd_agreeing_in) (sgs_cons (sg_name 6 nd_agreeing_in) sgs_nil)))) (fun _ _ _ _ _ => (sts_one (s_cmpT (os_eq hr.units) (s_call (cal_mixed_column F) hr (sa_cons (s_var 0) (sa_cons (s_var 6) (sa_cons (s_var 2) sa_nil)))) (SX.vw (s_ix (s_var 4) (SX.vw (s_var 5))))))) (fun _ _ _ _ _ => (s_var 5))))))))
def N_share_in_lowest : List Str := ["top", "bottom", "shared", "rest"]
theorem nd_share_in_lowest : N_share_in_lowest.Nodup := by decide +kernel
theorem sc_share_in_lowest : FnScope N_share_in_lowest ["top", "bottom"] (defScope (top 55)) := ⟨by kernel_rfl, by kernel_rfl, by kernel_rfl, nd_share_in_lowest, by kernel_rfl, by decide +kernel, by decide +kernel⟩
theorem cal_share_in_lowest (F : Fx K mg) : Cal P w K mg base 1 "share_in_lowest" 2 [] false m_share_in_lowest := by
  obtain ⟨f, F0, G0⟩ := F.d_share_in_lowest
  refine cal_of (k := 0) (m := 2) (O := []) (ex := b_share_in_lowest) F0 G0 sc_share_in_lowest (by kernel_rfl) (by kernel_rfl) (fun _ _ _ _ _ _ us hl => match us, hl with | [_, _], _ => rfl) fun cdv A outer s H E hr => ?_
  exact (ss_cons (s_par2 2 3 (saf_sh (s_var 1) (saf_sh (s_var 0) saf_nil)) nd_share_in_lowest)
    (ss_cons (s_while (s_cmpT os_gt (s_var 3) (SX.vw s_int)) (ss_one (s_par2 2 3 (saf_sh (s_var 3) (saf_sh (s_bin os_mod (s_var 2) (SX.vw (s_var 3))) saf_nil)) nd_share_in_lowest)))
    (ss_one (s_ret (s_tup (sa_cons (s_bin os_div (s_var 0) (SX.vw (s_var 2))) (sa_cons (s_bin os_div (s_var 1) (SX.vw (s_var 2))) sa_nil)))))))
def N_are_members : List Str := ["value", "member"]
theorem nd_are_members : N_are_members.Nodup := by decide +kernel
theorem sc_are_members : FnScope N_are_members ["value"] (defScope (top 56)) := ⟨by kernel_rfl, by kernel_rfl, by kernel_rfl, nd_are_members, by kernel_rfl, by decide +kernel, by decide +kernel⟩
theorem cal_are_members (F : Fx K mg) : Cal P w K mg base 3 "are_members" 1 [] false m_are_members := by
  obtain ⟨f, F0, G0⟩ := F.d_are_members
  refine cal_of (k := 2) (m := 1) (O := []) (ex := b_are_members) F0 G0 sc_are_members (by kernel_rfl) (by kernel_rfl) (fun _ _ _ _ _ _ us hl => match us, hl with | [_], _ => rfl) fun cdv A outer s H E hr => ?_
  exact (ss_cons (s_ifS (st_w (sw_or (st_not (s_valT (s_isi (T := "tuple") F.bi (SX.vw (s_var 0)) F.bi.tuple))) (sw_or1 (s_cmpT os_gt (s_len F.bi (SX.vw (s_var 0))) (SX.vw (s_glob F.g_MOST_MEMBERS)))))) (ss_one (s_ret s_bl)) ss_nil)
    (ss_one (s_ret (s_all F.bi (SX.vw (s_lc (own := [("member", 1)]) nd_are_members (si_any (s_var 0)) (blk_of (by kernel_rfl)) (fun _ _ _ _ _ => (sg_name 1 nd_are_members)) (fun _ _ _ _ _ => sts_nil) (fun _ _ _ _ _ => (s_call (cal_is_within F) hr (sa_cons (s_var 1) (sa_cons s_int (sa_cons (s_bin os_sub (s_glob F.g_GREAT_PRIME) (SX.vw s_int)) sa_nil)))))))))))
def N_are_digest_leaves : List Str := ["value", "leaf"]
theorem nd_are_digest_leaves : N_are_digest_leaves.Nodup := by decide +kernel
theorem sc_are_digest_leaves : FnScope N_are_digest_leaves ["value"] (defScope (top 57)) := ⟨by kernel_rfl, by kernel_rfl, by kernel_rfl, nd_are_digest_leaves, by kernel_rfl, by decide +kernel, by decide +kernel⟩
theorem cal_are_digest_leaves (F : Fx K mg) : Cal P w K mg base 4 "are_digest_leaves" 1 [] false m_are_digest_leaves := by
  obtain ⟨f, F0, G0⟩ := F.d_are_digest_leaves
  refine cal_of (k := 3) (m := 1) (O := []) (ex := b_are_digest_leaves) F0 G0 sc_are_digest_leaves (by kernel_rfl) (by kernel_rfl) (fun _ _ _ _ _ _ us hl => match us, hl with | [_], _ => rfl) fun cdv A outer s H E hr => ?_
  exact (ss_cons (s_ifS (st_w (sw_or (st_not (s_valT (s_isi (T := "tuple") F.bi (SX.vw (s_var 0)) F.bi.tuple))) (sw_or1 (s_cmpT os_notIn (s_len F.bi (SX.vw (s_var 0))) (SX.vw (s_glob F.g_LEAF_COUNTS)))))) (ss_one (s_ret s_bl)) ss_nil)
    (ss_one (s_ret (s_all F.bi (SX.vw (s_lc (own := [("leaf", 1)]) nd_are_digest_leaves (si_any (s_var 0)) (blk_of (by kernel_rfl)) (fun _ _ _ _ _ => (sg_name 1 nd_are_digest_leaves)) (fun _ _ _ _ _ => sts_nil) (fun _ _ _ _ _ => (s_call (cal_are_members F) hr (sa_cons (s_var 1) sa_nil)))))))))
def N_is_row_in : List Str := ["p", "value"]
theorem nd_is_row_in : N_is_row_in.Nodup := by decide +kernel
theorem sc_is_row_in : FnScope N_is_row_in ["p", "value"] (defScope (top 58)) := ⟨by kernel_rfl, by kernel_rfl, by kernel_rfl, nd_is_row_in, by kernel_rfl, by decide +kernel, by decide +kernel⟩
theorem cal_is_row_in (F : Fx K mg) : Cal P w K mg base 4 "is_row_in" 2 [] false m_is_row_in := by
  obtain ⟨f, F0, G0⟩ := F.d_is_row_in
  refine cal_of (k := 3) (m := 0) (O := []) (ex := b_is_row_in) F0 G0 sc_is_row_in (by kernel_rfl) (by kernel_rfl) (fun _ _ _ _ _ _ us hl => match us, hl with | [_, _], _ => rfl) fun cdv A outer s H E hr => ?_
  exact (ss_one (s_ret (se_and (s_call (cal_are_numbers F) hr (sa_cons (s_var 0) (sa_cons (s_var 1) sa_nil))) (se_one (s_chain os_le os_le s_int (s_len F.bi (SX.vw (s_var 1))) (SX.vw (s_glob F.g_MOST_ROW)))))))
def N_are_rows_in : List Str := ["p", "value", "row"]
theorem nd_are_rows_in : N_are_rows_in.Nodup := by decide +kernel
theorem sc_are_rows_in : FnScope N_are_rows_in ["p", "value"] (defScope (top 59)) := ⟨by kernel_rfl, by kernel_rfl, by kernel_rfl, nd_are_rows_in, by kernel_rfl, by decide +kernel, by decide +kernel⟩
theorem cal_are_rows_in (F : Fx K mg) : Cal P w K mg base 5 "are_rows_in" 2 [] false m_are_rows_in := by
  obtain ⟨f, F0, G0⟩ := F.d_are_rows_in
  refine cal_of (k := 4) (m := 1) (O := []) (ex := b_are_rows_in) F0 G0 sc_are_rows_in (by kernel_rfl) (by kernel_rfl) (fun _ _ _ _ _ _ us hl => match us, hl with | [_, _], _ => rfl) fun cdv A outer s H E hr => ?_
  exact (ss_cons (s_ifS (st_w (sw_or (st_not (s_valT (s_isi (T := "tuple") F.bi (SX.vw (s_var 1)) F.bi.tuple))) (sw_or1 (st_not (s_chainT os_le os_le s_int (s_len F.bi (SX.vw (s_var 1))) (SX.vw (s_glob F.g_MOST_CODED_ROWS))))))) (ss_one (s_ret s_bl)) ss_nil)
    (ss_cons (s_ifS (st_not (s_valT (s_all F.bi (SX.vw (s_lc (own := [("row", 2)]) nd_are_rows_in (si_any (s_var 1)) (blk_of (by kernel_rfl)) (fun _ _ _ _ _ => (sg_name 2 nd_are_rows_in)) (fun _ _ _ _ _ => sts_nil) (fun _ _ _ _ _ => (s_call (cal_is_row_in F) hr (sa_cons (s_var 0) (sa_cons (s_var 2) sa_nil))))))))) (ss_one (s_ret s_bl)) ss_nil)
    (ss_one (s_ret (s_all F.bi (SX.vw (s_lc (own := [("row", 2)]) nd_are_rows_in (si_any (s_var 1)) (blk_of (by kernel_rfl)) (fun _ _ _ _ _ => (sg_name 2 nd_are_rows_in)) (fun _ _ _ _ _ => sts_nil) (fun _ _ _ _ _ => (s_cmp (os_eq hr.units) (s_len F.bi (SX.vw (s_var 2))) (SX.vw (s_len F.bi (SX.vw (s_ix (s_var 1) (SX.vw s_int))))))))))))))
def N_are_told_columns : List Str := ["p", "value", "column"]
theorem nd_are_told_columns : N_are_told_columns.Nodup := by decide +kernel
theorem sc_are_told_columns : FnScope N_are_told_columns ["p", "value"] (defScope (top 60)) := ⟨by kernel_rfl, by kernel_rfl, by kernel_rfl, nd_are_told_columns, by kernel_rfl, by decide +kernel, by decide +kernel⟩
theorem cal_are_told_columns (F : Fx K mg) : Cal P w K mg base 4 "are_told_columns" 2 [] false m_are_told_columns := by
  obtain ⟨f, F0, G0⟩ := F.d_are_told_columns
  refine cal_of (k := 3) (m := 1) (O := []) (ex := b_are_told_columns) F0 G0 sc_are_told_columns (by kernel_rfl) (by kernel_rfl) (fun _ _ _ _ _ _ us hl => match us, hl with | [_, _], _ => rfl) fun cdv A outer s H E hr => ?_
  exact (ss_cons (s_ifS (st_w (sw_or (st_not (s_valT (s_isi (T := "tuple") F.bi (SX.vw (s_var 1)) F.bi.tuple))) (sw_or1 (st_not (s_chainT os_le os_le s_int (s_len F.bi (SX.vw (s_var 1))) (SX.vw (s_min F.bi (s_var 0) (SX.vw (s_glob F.g_MOST_PLACES))))))))) (ss_one (s_ret s_bl)) ss_nil)
    (ss_cons (s_ifS (st_not (s_valT (s_all F.bi (SX.vw (s_lc (own := [("column", 2)]) nd_are_told_columns (si_any (s_var 1)) (blk_of (by kernel_rfl)) (fun _ _ _ _ _ => (sg_name 2 nd_are_told_columns)) (fun _ _ _ _ _ => sts_nil) (fun _ _ _ _ _ => (se_and (s_call (cal_are_numbers F) hr (sa_cons (s_var 0) (sa_cons (s_var 2) sa_nil))) (se_one (s_chain os_le os_le s_int (s_len F.bi (SX.vw (s_var 2))) (SX.vw (s_glob F.g_MOST_CODED_ROWS))))))))))) (ss_one (s_ret s_bl)) ss_nil)
    (ss_one (s_ret (s_all F.bi (SX.vw (s_lc (own := [("column", 2)]) nd_are_told_columns (si_any (s_var 1)) (blk_of (by kernel_rfl)) (fun _ _ _ _ _ => (sg_name 2 nd_are_told_columns)) (fun _ _ _ _ _ => sts_nil) (fun _ _ _ _ _ => (s_cmp (os_eq hr.units) (s_len F.bi (SX.vw (s_var 2))) (SX.vw (s_len F.bi (SX.vw (s_ix (s_var 1) (SX.vw s_int))))))))))))))
def N_require_members : List Str := ["members"]
theorem nd_require_members : N_require_members.Nodup := by decide +kernel
theorem sc_require_members : FnScope N_require_members ["members"] (defScope (top 61)) := ⟨by kernel_rfl, by kernel_rfl, by kernel_rfl, nd_require_members, by kernel_rfl, by decide +kernel, by decide +kernel⟩
theorem cal_require_members (F : Fx K mg) : Cal P w K mg base 4 "require_members" 1 [] false m_require_members := by
  obtain ⟨f, F0, G0⟩ := F.d_require_members
  refine cal_of (k := 3) (m := 0) (O := []) (ex := b_require_members) F0 G0 sc_require_members (by kernel_rfl) (by kernel_rfl) (fun _ _ _ _ _ _ us hl => match us, hl with | [_], _ => rfl) fun cdv A outer s H E hr => ?_
  exact (ss_one (s_ifS (st_not (s_valT (s_call (cal_are_members F) hr (sa_cons (s_var 0) sa_nil)))) (ss_one s_never) ss_nil))
def N_require_digest_leaves : List Str := ["leaves"]
theorem nd_require_digest_leaves : N_require_digest_leaves.Nodup := by decide +kernel
theorem sc_require_digest_leaves : FnScope N_require_digest_leaves ["leaves"] (defScope (top 62)) := ⟨by kernel_rfl, by kernel_rfl, by kernel_rfl, nd_require_digest_leaves, by kernel_rfl, by decide +kernel, by decide +kernel⟩
theorem cal_require_digest_leaves (F : Fx K mg) : Cal P w K mg base 5 "require_digest_leaves" 1 [] false m_require_digest_leaves := by
  obtain ⟨f, F0, G0⟩ := F.d_require_digest_leaves
  refine cal_of (k := 4) (m := 0) (O := []) (ex := b_require_digest_leaves) F0 G0 sc_require_digest_leaves (by kernel_rfl) (by kernel_rfl) (fun _ _ _ _ _ _ us hl => match us, hl with | [_], _ => rfl) fun cdv A outer s H E hr => ?_
  exact (ss_one (s_ifS (st_not (s_valT (s_call (cal_are_digest_leaves F) hr (sa_cons (s_var 0) sa_nil)))) (ss_one s_never) ss_nil))
def N_require_coded_row : List Str := ["p", "row"]
theorem nd_require_coded_row : N_require_coded_row.Nodup := by decide +kernel
theorem sc_require_coded_row : FnScope N_require_coded_row ["p", "row"] (defScope (top 63)) := ⟨by kernel_rfl, by kernel_rfl, by kernel_rfl, nd_require_coded_row, by kernel_rfl, by decide +kernel, by decide +kernel⟩
theorem cal_require_coded_row (F : Fx K mg) : Cal P w K mg base 5 "require_coded_row" 2 [] false m_require_coded_row := by
  obtain ⟨f, F0, G0⟩ := F.d_require_coded_row
  refine cal_of (k := 4) (m := 0) (O := []) (ex := b_require_coded_row) F0 G0 sc_require_coded_row (by kernel_rfl) (by kernel_rfl) (fun _ _ _ _ _ _ us hl => match us, hl with | [_, _], _ => rfl) fun cdv A outer s H E hr => ?_
  exact (ss_one (s_ifS (st_not (s_valT (s_call (cal_is_row_in F) hr (sa_cons (s_var 0) (sa_cons (s_var 1) sa_nil))))) (ss_one s_never) ss_nil))
def N_require_coded_rows : List Str := ["p", "rows"]
theorem nd_require_coded_rows : N_require_coded_rows.Nodup := by decide +kernel
theorem sc_require_coded_rows : FnScope N_require_coded_rows ["p", "rows"] (defScope (top 64)) := ⟨by kernel_rfl, by kernel_rfl, by kernel_rfl, nd_require_coded_rows, by kernel_rfl, by decide +kernel, by decide +kernel⟩
theorem cal_require_coded_rows (F : Fx K mg) : Cal P w K mg base 6 "require_coded_rows" 2 [] false m_require_coded_rows := by
  obtain ⟨f, F0, G0⟩ := F.d_require_coded_rows
  refine cal_of (k := 5) (m := 0) (O := []) (ex := b_require_coded_rows) F0 G0 sc_require_coded_rows (by kernel_rfl) (by kernel_rfl) (fun _ _ _ _ _ _ us hl => match us, hl with | [_, _], _ => rfl) fun cdv A outer s H E hr => ?_
  exact (ss_one (s_ifS (st_not (s_valT (s_call (cal_are_rows_in F) hr (sa_cons (s_var 0) (sa_cons (s_var 1) sa_nil))))) (ss_one s_never) ss_nil))
def N_require_factors : List Str := ["p", "factors", "many"]
theorem nd_require_factors : N_require_factors.Nodup := by decide +kernel
theorem sc_require_factors : FnScope N_require_factors ["p", "factors", "many"] (defScope (top 65)) := ⟨by kernel_rfl, by kernel_rfl, by kernel_rfl, nd_require_factors, by kernel_rfl, by decide +kernel, by decide +kernel⟩
theorem cal_require_factors (F : Fx K mg) : Cal P w K mg base 4 "require_factors" 3 [] false m_require_factors := by
  obtain ⟨f, F0, G0⟩ := F.d_require_factors
  refine cal_of (k := 3) (m := 0) (O := []) (ex := b_require_factors) F0 G0 sc_require_factors (by kernel_rfl) (by kernel_rfl) (fun _ _ _ _ _ _ us hl => match us, hl with | [_, _, _], _ => rfl) fun cdv A outer s H E hr => ?_
  exact (ss_one (s_ifS (st_w (sw_or (st_not (s_valT (s_call (cal_are_numbers F) hr (sa_cons (s_var 0) (sa_cons (s_var 1) sa_nil))))) (sw_or1 (s_cmpT (os_ne hr.units) (s_len F.bi (SX.vw (s_var 1))) (SX.vw (s_var 2)))))) (ss_one s_never) ss_nil))
def N_digest : List Str := ["members"]
theorem nd_digest : N_digest.Nodup := by decide +kernel
theorem sc_digest : FnScope N_digest ["members"] (defScope (top 66)) := ⟨by kernel_rfl, by kernel_rfl, by kernel_rfl, nd_digest, by kernel_rfl, by decide +kernel, by decide +kernel⟩
theorem cal_digest (F : Fx K mg) : Cal P w K mg base 5 "digest" 1 [] false m_digest := by
  obtain ⟨f, F0, G0⟩ := F.d_digest
  refine cal_of (k := 4) (m := 0) (O := []) (ex := b_digest) F0 G0 sc_digest (by kernel_rfl) (by kernel_rfl) (fun _ _ _ _ _ _ us hl => match us, hl with | [_], _ => rfl) fun cdv A outer s H E hr => ?_
  exact (ss_cons (s_expr (s_call (cal_require_members F) hr (sa_cons (s_var 0) sa_nil)))
    (ss_one (s_ret (s_call (cal_digest_in F) hr (sa_cons (s_var 0) sa_nil)))))
def N_tree_root : List Str := ["leaves"]
theorem nd_tree_root : N_tree_root.Nodup := by decide +kernel
theorem sc_tree_root : FnScope N_tree_root ["leaves"] (defScope (top 67)) := ⟨by kernel_rfl, by kernel_rfl, by kernel_rfl, nd_tree_root, by kernel_rfl, by decide +kernel, by decide +kernel⟩
theorem cal_tree_root (F : Fx K mg) : Cal P w K mg base 6 "tree_root" 1 [] false m_tree_root := by
  obtain ⟨f, F0, G0⟩ := F.d_tree_root
  refine cal_of (k := 5) (m := 0) (O := []) (ex := b_tree_root) F0 G0 sc_tree_root (by kernel_rfl) (by kernel_rfl) (fun _ _ _ _ _ _ us hl => match us, hl with | [_], _ => rfl) fun cdv A outer s H E hr => ?_
  exact (ss_cons (s_expr (s_call (cal_require_digest_leaves F) hr (sa_cons (s_var 0) sa_nil)))
    (ss_one (s_ret (s_call (cal_root_in F) hr (sa_cons (s_var 0) sa_nil)))))
def N_path_of : List Str := ["leaves", "at"]
theorem nd_path_of : N_path_of.Nodup := by decide +kernel
theorem sc_path_of : FnScope N_path_of ["leaves", "at"] (defScope (top 68)) := ⟨by kernel_rfl, by kernel_rfl, by kernel_rfl, nd_path_of, by kernel_rfl, by decide +kernel, by decide +kernel⟩
theorem cal_path_of (F : Fx K mg) : Cal P w K mg base 6 "path_of" 2 [] false m_path_of := by
  obtain ⟨f, F0, G0⟩ := F.d_path_of
  refine cal_of (k := 5) (m := 0) (O := []) (ex := b_path_of) F0 G0 sc_path_of (by kernel_rfl) (by kernel_rfl) (fun _ _ _ _ _ _ us hl => match us, hl with | [_, _], _ => rfl) fun cdv A outer s H E hr => ?_
  exact (ss_cons (s_expr (s_call (cal_require_digest_leaves F) hr (sa_cons (s_var 0) sa_nil)))
    (ss_cons (s_expr (s_call (cal_require_number F) hr (sa_cons (s_var 1) (sa_cons s_int (sa_cons (s_bin os_sub (s_len F.bi (SX.vw (s_var 0))) (SX.vw s_int)) sa_nil)))))
    (ss_one (s_ret (s_call (cal_path_in F) hr (sa_cons (s_var 0) (sa_cons (s_var 1) sa_nil)))))))
def N_root_by_path : List Str := ["leaf", "at", "path"]
theorem nd_root_by_path : N_root_by_path.Nodup := by decide +kernel
theorem sc_root_by_path : FnScope N_root_by_path ["leaf", "at", "path"] (defScope (top 69)) := ⟨by kernel_rfl, by kernel_rfl, by kernel_rfl, nd_root_by_path, by kernel_rfl, by decide +kernel, by decide +kernel⟩
theorem cal_root_by_path (F : Fx K mg) : Cal P w K mg base 5 "root_by_path" 3 [] false m_root_by_path := by
  obtain ⟨f, F0, G0⟩ := F.d_root_by_path
  refine cal_of (k := 4) (m := 0) (O := []) (ex := b_root_by_path) F0 G0 sc_root_by_path (by kernel_rfl) (by kernel_rfl) (fun _ _ _ _ _ _ us hl => match us, hl with | [_, _, _], _ => rfl) fun cdv A outer s H E hr => ?_
  exact (ss_cons (s_expr (s_call (cal_require_members F) hr (sa_cons (s_var 0) sa_nil)))
    (ss_cons (s_expr (s_call (cal_require_number F) hr (sa_cons (s_var 1) (sa_cons s_int (sa_cons (s_bin os_sub (s_glob F.g_MOST_LEAVES) (SX.vw s_int)) sa_nil)))))
    (ss_cons (s_ifS (st_w (sw_or (st_not (s_valT (s_call (cal_are_members F) hr (sa_cons (s_var 2) sa_nil)))) (sw_or (s_cmpT os_gt (s_len F.bi (SX.vw (s_var 2))) (SX.vw (s_glob F.g_MOST_PATH))) (sw_or1 (s_cmpT os_le (s_call (cal_raised_in F) hr (sa_cons (s_glob F.g_TWO) (sa_cons (s_len F.bi (SX.vw (s_var 2))) sa_nil))) (SX.vw (s_var 1))))))) (ss_one s_never) ss_nil)
    (ss_one (s_ret (s_call (cal_root_by_path_in F) hr (sa_cons (s_var 0) (sa_cons (s_var 1) (sa_cons (s_var 2) sa_nil)))))))))
def N_coded_row : List Str := ["p", "row", "M"]
theorem nd_coded_row : N_coded_row.Nodup := by decide +kernel
theorem sc_coded_row : FnScope N_coded_row ["p", "row", "M"] (defScope (top 70)) := ⟨by kernel_rfl, by kernel_rfl, by kernel_rfl, nd_coded_row, by kernel_rfl, by decide +kernel, by decide +kernel⟩
theorem cal_coded_row (F : Fx K mg) : Cal P w K mg base 6 "coded_row" 3 [] false m_coded_row := by
  obtain ⟨f, F0, G0⟩ := F.d_coded_row
  refine cal_of (k := 5) (m := 0) (O := []) (ex := b_coded_row) F0 G0 sc_coded_row (by kernel_rfl) (by kernel_rfl) (fun _ _ _ _ _ _ us hl => match us, hl with | [_, _, _], _ => rfl) fun cdv A outer s H E hr => ?_
  exact (ss_cons (s_expr (s_call (cal_require_prime F) hr (sa_cons (s_var 0) sa_nil)))
    (ss_cons (s_expr (s_call (cal_require_coded_row F) hr (sa_cons (s_var 0) (sa_cons (s_var 1) sa_nil))))
    (ss_cons (s_expr (s_call (cal_require_number F) hr (sa_cons (s_var 2) (sa_cons (s_len F.bi (SX.vw (s_var 1))) (sa_cons (s_min F.bi (s_var 0) (SX.vw (s_glob F.g_MOST_PLACES))) sa_nil)))))
    (ss_one (s_ret (s_call (cal_coded_row_in F) hr (sa_cons (s_var 0) (sa_cons (s_var 1) (sa_cons (s_var 2) sa_nil)))))))))
def N_coded_columns : List Str := ["p", "rows", "M"]
theorem nd_coded_columns : N_coded_columns.Nodup := by decide +kernel
theorem sc_coded_columns : FnScope N_coded_columns ["p", "rows", "M"] (defScope (top 71)) := ⟨by kernel_rfl, by kernel_rfl, by kernel_rfl, nd_coded_columns, by kernel_rfl, by decide +kernel, by decide +kernel⟩
theorem cal_coded_columns (F : Fx K mg) : Cal P w K mg base 7 "coded_columns" 3 [] false m_coded_columns := by
  obtain ⟨f, F0, G0⟩ := F.d_coded_columns
  refine cal_of (k := 6) (m := 0) (O := []) (ex := b_coded_columns) F0 G0 sc_coded_columns (by kernel_rfl) (by kernel_rfl) (fun _ _ _ _ _ _ us hl => match us, hl with | [_, _, _], _ => rfl) fun cdv A outer s H E hr => ?_
  exact (ss_cons (s_expr (s_call (cal_require_prime F) hr (sa_cons (s_var 0) sa_nil)))
    (ss_cons (s_expr (s_call (cal_require_coded_rows F) hr (sa_cons (s_var 0) (sa_cons (s_var 1) sa_nil))))
    (ss_cons (s_expr (s_call (cal_require_number F) hr (sa_cons (s_var 2) (sa_cons (s_len F.bi (SX.vw (s_ix (s_var 1) (SX.vw s_int)))) (sa_cons (s_min F.bi (s_var 0) (SX.vw (s_glob F.g_MOST_PLACES))) sa_nil)))))
    (ss_one (s_ret (s_call (cal_coded_columns_in F) hr (sa_cons (s_var 0) (sa_cons (s_var 1) (sa_cons (s_var 2) sa_nil)))))))))
def N_row_of_code : List Str := ["p", "word", "w"]
theorem nd_row_of_code : N_row_of_code.Nodup := by decide +kernel
theorem sc_row_of_code : FnScope N_row_of_code ["p", "word", "w"] (defScope (top 72)) := ⟨by kernel_rfl, by kernel_rfl, by kernel_rfl, nd_row_of_code, by kernel_rfl, by decide +kernel, by decide +kernel⟩
theorem cal_row_of_code (F : Fx K mg) : Cal P w K mg base 6 "row_of_code" 3 [] false m_row_of_code := by
  obtain ⟨f, F0, G0⟩ := F.d_row_of_code
  refine cal_of (k := 5) (m := 0) (O := []) (ex := b_row_of_code) F0 G0 sc_row_of_code (by kernel_rfl) (by kernel_rfl) (fun _ _ _ _ _ _ us hl => match us, hl with | [_, _, _], _ => rfl) fun cdv A outer s H E hr => ?_
  exact (ss_cons (s_expr (s_call (cal_require_prime F) hr (sa_cons (s_var 0) sa_nil)))
    (ss_cons (s_ifS (st_w (sw_or (st_not (s_valT (s_call (cal_are_numbers F) hr (sa_cons (s_var 0) (sa_cons (s_var 1) sa_nil))))) (sw_or1 (st_not (s_chainT os_le os_le s_int (s_len F.bi (SX.vw (s_var 1))) (SX.vw (s_min F.bi (s_var 0) (SX.vw (s_glob F.g_MOST_PLACES))))))))) (ss_one s_never) ss_nil)
    (ss_cons (s_expr (s_call (cal_require_number F) hr (sa_cons (s_var 2) (sa_cons s_int (sa_cons (s_min F.bi (s_len F.bi (SX.vw (s_var 1))) (SX.vw (s_glob F.g_MOST_ROW))) sa_nil)))))
    (ss_one (s_ret (s_call (cal_row_of_code_in F) hr (sa_cons (s_var 0) (sa_cons (s_var 1) (sa_cons (s_var 2) sa_nil)))))))))
def N_near_row : List Str := ["p", "w"]
theorem nd_near_row : N_near_row.Nodup := by decide +kernel
theorem sc_near_row : FnScope N_near_row ["p", "w"] (defScope (top 73)) := ⟨by kernel_rfl, by kernel_rfl, by kernel_rfl, nd_near_row, by kernel_rfl, by decide +kernel, by decide +kernel⟩
theorem cal_near_row (F : Fx K mg) : Cal P w K mg base 4 "near_row" 2 [] false m_near_row := by
  obtain ⟨f, F0, G0⟩ := F.d_near_row
  refine cal_of (k := 3) (m := 0) (O := []) (ex := b_near_row) F0 G0 sc_near_row (by kernel_rfl) (by kernel_rfl) (fun _ _ _ _ _ _ us hl => match us, hl with | [_, _], _ => rfl) fun cdv A outer s H E hr => ?_
  exact (ss_cons (s_expr (s_call (cal_require_prime F) hr (sa_cons (s_var 0) sa_nil)))
    (ss_cons (s_expr (s_call (cal_require_number F) hr (sa_cons (s_var 1) (sa_cons s_int (sa_cons (s_min F.bi (s_var 0) (SX.vw (s_glob F.g_MOST_ROW))) sa_nil)))))
    (ss_one (s_ret (s_call (cal_near_row_in F) hr (sa_cons (s_var 0) (sa_cons (s_var 1) sa_nil)))))))
def N_mixed_row : List Str := ["p", "rows", "factors"]
theorem nd_mixed_row : N_mixed_row.Nodup := by decide +kernel
theorem sc_mixed_row : FnScope N_mixed_row ["p", "rows", "factors"] (defScope (top 74)) := ⟨by kernel_rfl, by kernel_rfl, by kernel_rfl, nd_mixed_row, by kernel_rfl, by decide +kernel, by decide +kernel⟩
theorem cal_mixed_row (F : Fx K mg) : Cal P w K mg base 7 "mixed_row" 3 [] false m_mixed_row := by
  obtain ⟨f, F0, G0⟩ := F.d_mixed_row
  refine cal_of (k := 6) (m := 0) (O := []) (ex := b_mixed_row) F0 G0 sc_mixed_row (by kernel_rfl) (by kernel_rfl) (fun _ _ _ _ _ _ us hl => match us, hl with | [_, _, _], _ => rfl) fun cdv A outer s H E hr => ?_
  exact (ss_cons (s_expr (s_call (cal_require_prime F) hr (sa_cons (s_var 0) sa_nil)))
    (ss_cons (s_expr (s_call (cal_require_coded_rows F) hr (sa_cons (s_var 0) (sa_cons (s_var 1) sa_nil))))
    (ss_cons (s_expr (s_call (cal_require_factors F) hr (sa_cons (s_var 0) (sa_cons (s_var 2) (sa_cons (s_len F.bi (SX.vw (s_var 1))) sa_nil)))))
    (ss_one (s_ret (s_call (cal_mixed_row_in F) hr (sa_cons (s_var 0) (sa_cons (s_var 1) (sa_cons (s_var 2) sa_nil)))))))))
def N_agreeing_places : List Str := ["p", "columns", "factors", "mixed"]
theorem nd_agreeing_places : N_agreeing_places.Nodup := by decide +kernel
theorem sc_agreeing_places : FnScope N_agreeing_places ["p", "columns", "factors", "mixed"] (defScope (top 75)) := ⟨by kernel_rfl, by kernel_rfl, by kernel_rfl, nd_agreeing_places, by kernel_rfl, by decide +kernel, by decide +kernel⟩
theorem cal_agreeing_places (F : Fx K mg) : Cal P w K mg base 5 "agreeing_places" 4 [] false m_agreeing_places := by
  obtain ⟨f, F0, G0⟩ := F.d_agreeing_places
  refine cal_of (k := 4) (m := 0) (O := []) (ex := b_agreeing_places) F0 G0 sc_agreeing_places (by kernel_rfl) (by kernel_rfl) (fun _ _ _ _ _ _ us hl => match us, hl with | [_, _, _, _], _ => rfl) fun cdv A outer s H E hr => ?_
  exact (ss_cons (s_expr (s_call (cal_require_prime F) hr (sa_cons (s_var 0) sa_nil)))
    (ss_cons (s_ifS (st_not (s_valT (s_call (cal_are_told_columns F) hr (sa_cons (s_var 0) (sa_cons (s_var 1) sa_nil))))) (ss_one s_never) ss_nil)
    (ss_cons (s_expr (s_call (cal_require_factors F) hr (sa_cons (s_var 0) (sa_cons (s_var 2) (sa_cons (s_len F.bi (SX.vw (s_ix (s_var 1) (SX.vw s_int)))) sa_nil)))))
    (ss_cons (s_ifS (st_w (sw_or (st_not (s_valT (s_call (cal_is_row_in F) hr (sa_cons (s_var 0) (sa_cons (s_var 3) sa_nil))))) (sw_or1 (s_cmpT os_gt (s_len F.bi (SX.vw (s_var 3))) (SX.vw (s_len F.bi (SX.vw (s_var 1)))))))) (ss_one s_never) ss_nil)
    (ss_one (s_ret (s_call (cal_agreeing_in F) hr (sa_cons (s_var 0) (sa_cons (s_var 1) (sa_cons (s_var 2) (sa_cons (s_var 3) sa_nil)))))))))))
def N_lucky_share : List Str := ["agreeing", "asked", "M"]
theorem nd_lucky_share : N_lucky_share.Nodup := by decide +kernel
theorem sc_lucky_share : FnScope N_lucky_share ["agreeing", "asked", "M"] (defScope (top 76)) := ⟨by kernel_rfl, by kernel_rfl, by kernel_rfl, nd_lucky_share, by kernel_rfl, by decide +kernel, by decide +kernel⟩
theorem cal_lucky_share (F : Fx K mg) : Cal P w K mg base 4 "lucky_share" 3 [] false m_lucky_share := by
  obtain ⟨f, F0, G0⟩ := F.d_lucky_share
  refine cal_of (k := 3) (m := 0) (O := []) (ex := b_lucky_share) F0 G0 sc_lucky_share (by kernel_rfl) (by kernel_rfl) (fun _ _ _ _ _ _ us hl => match us, hl with | [_, _, _], _ => rfl) fun cdv A outer s H E hr => ?_
  exact (ss_cons (s_expr (s_call (cal_require_number F) hr (sa_cons (s_var 0) (sa_cons s_int (sa_cons (s_glob F.g_MOST_PLACES) sa_nil)))))
    (ss_cons (s_expr (s_call (cal_require_number F) hr (sa_cons (s_var 1) (sa_cons s_int (sa_cons (s_glob F.g_MOST_ASKED) sa_nil)))))
    (ss_cons (s_ifS (st_not (s_valT (s_call (cal_is_within F) hr (sa_cons (s_var 2) (sa_cons (s_max F.bi s_int (SX.vw (s_var 0))) (sa_cons (s_glob F.g_MOST_PLACES) sa_nil)))))) (ss_one s_never) ss_nil)
    (ss_one (s_ret (s_call (cal_share_in_lowest F) hr (sa_cons (s_call (cal_raised_in F) hr (sa_cons (s_var 0) (sa_cons (s_var 1) sa_nil))) (sa_cons (s_call (cal_raised_in F) hr (sa_cons (s_var 2) (sa_cons (s_var 1) sa_nil))) sa_nil))))))))
def N__law_dice : List Str := ["script", "spot", "cell", "left"]
theorem nd__law_dice : N__law_dice.Nodup := by decide +kernel
theorem sc__law_dice : FnScope N__law_dice ["script", "spot"] (defScope (top 78)) := ⟨by kernel_rfl, by kernel_rfl, by kernel_rfl, nd__law_dice, by kernel_rfl, by decide +kernel, by decide +kernel⟩
theorem cal__law_dice (F : Fx K mg) : Cal P w K mg base 1 "_law_dice" 2 [] true m__law_dice := by
  obtain ⟨f, F0, G0⟩ := F.d__law_dice
  refine cal_of (k := 0) (m := 2) (O := []) (ex := b__law_dice) F0 G0 sc__law_dice (by kernel_rfl) (by kernel_rfl) (fun _ _ _ _ _ _ us hl => match us, hl with | [_, _], _ => rfl) fun cdv A outer s H E hr => ?_
  exact (ss_cons (s_set 2 (s_if (s_cmpT os_lt (s_var 1) (SX.vw (s_len F.bi (SX.vw (s_var 0))))) (s_intc F.bi (SX.vw (s_ix (s_var 0) (SX.vw (s_var 1))))) (s_bin os_add (s_bin os_mul s_int (SX.vw (s_var 1))) (SX.vw s_int))) nd__law_dice)
    (ss_cons (s_set 3 (s_bin os_mod (s_max F.bi s_int (SX.vw (s_bin os_sub (s_abs F.bi (SX.vw (s_var 2))) (SX.vw (s_bin os_pow s_int (SX.vw s_int)))))) (SX.vw (s_bin os_mul (s_bin os_pow s_int (SX.vw s_int)) (SX.vw (s_bin os_pow s_int (SX.vw s_int)))))) nd__law_dice)
    (ss_one (s_ret (s_lst (sa_cons (s_var 3) (sa_cons (s_bin os_add (s_bin os_add (s_bin os_add (s_bin os_mul (s_bin os_mod (s_abs F.bi (SX.vw (s_var 2))) (SX.vw s_int)) (SX.vw s_int)) (SX.vw (s_bin os_mul s_int (SX.vw (s_var 1))))) (SX.vw (s_bin os_mul s_int (SX.vw (s_intc F.bi (SX.vw (s_cmp os_lt (s_var 2) (SX.vw s_int)))))))) (SX.vw s_int)) (sa_cons s_int sa_nil))))))))
def N__law_roll : List Str := ["dice", "total", "found", "one", "two"]
theorem nd__law_roll : N__law_roll.Nodup := by decide +kernel
theorem sc__law_roll : FnScope N__law_roll ["dice", "total"] (defScope (top 79)) := ⟨by kernel_rfl, by kernel_rfl, by kernel_rfl, nd__law_roll, by kernel_rfl, by decide +kernel, by decide +kernel⟩
theorem cal__law_roll (F : Fx K mg) : Cal P w K mg base 1 "_law_roll" 2 [0] false m__law_roll := by
  obtain ⟨f, F0, G0⟩ := F.d__law_roll
  refine cal_of (k := 0) (m := 3) (O := [0]) (ex := b__law_roll) F0 G0 sc__law_roll (by kernel_rfl) (by kernel_rfl) (fun _ _ _ _ _ _ us hl => match us, hl with | [_, _], _ => rfl) fun cdv A outer s H E hr => ?_
  exact (ss_cons (s_ifS (s_cmpT os_gt (s_ixO 0 (SX.vw s_int)) (SX.vw s_int)) (ss_cons (s_set 2 (s_bin os_mod (s_intc F.bi (SX.vw (s_ixO 0 (SX.vw s_int)))) (SX.vw (s_var 1))) nd__law_roll)
    (ss_cons (s_store 0 (s_bin os_div (s_ixO 0 (SX.vw s_int)) (SX.vw (s_var 1))) s_int)
    (ss_one (s_ret (s_var 2))))) ss_nil)
    (ss_cons (s_store 0 (s_bin os_add (s_ixO 0 (SX.vw s_int)) (SX.vw s_int)) s_int)
    (ss_cons (s_set 3 (s_bin os_mod (s_intc F.bi (SX.vw (s_bin os_add (s_ixO 0 (SX.vw s_int)) (SX.vw (s_bin os_mul s_int (SX.vw (s_ixO 0 (SX.vw s_int)))))))) (SX.vw s_int)) nd__law_roll)
    (ss_cons (s_set 4 (s_bin os_add (s_bin os_mul (s_bin os_mod (s_intc F.bi (SX.vw (s_bin os_add (s_bin os_mul (s_var 3) (SX.vw (s_var 3))) (SX.vw (s_bin os_mul s_int (SX.vw (s_ixO 0 (SX.vw s_int)))))))) (SX.vw s_int)) (SX.vw s_int)) (SX.vw (s_var 3))) nd__law_roll)
    (ss_one (s_ret (s_bin os_mod (s_intc F.bi (SX.vw (s_bin os_div (s_var 4) (SX.vw s_int)))) (SX.vw (s_var 1)))))))))
def N__law_pick : List Str := ["dice", "items"]
theorem nd__law_pick : N__law_pick.Nodup := by decide +kernel
theorem sc__law_pick : FnScope N__law_pick ["dice", "items"] (defScope (top 80)) := ⟨by kernel_rfl, by kernel_rfl, by kernel_rfl, nd__law_pick, by kernel_rfl, by decide +kernel, by decide +kernel⟩
theorem cal__law_pick (F : Fx K mg) : Cal P w K mg base 2 "_law_pick" 2 [0] false m__law_pick := by
  obtain ⟨f, F0, G0⟩ := F.d__law_pick
  refine cal_of (k := 1) (m := 0) (O := [0]) (ex := b__law_pick) F0 G0 sc__law_pick (by kernel_rfl) (by kernel_rfl) (fun _ _ _ _ _ _ us hl => match us, hl with | [_, _], _ => rfl) fun cdv A outer s H E hr => ?_
  exact (ss_one (s_ret (s_ix (s_var 1) (SX.vw (s_callL 0 (cal__law_roll F) hr (sl_le 0 (sl_sh (s_len F.bi (SX.vw (s_var 1))) sl_nil)))))))
def N__law_row : List Str := ["dice", "p", "n", "turn"]
theorem nd__law_row : N__law_row.Nodup := by decide +kernel
theorem sc__law_row : FnScope N__law_row ["dice", "p", "n"] (defScope (top 81)) := ⟨by kernel_rfl, by kernel_rfl, by kernel_rfl, nd__law_row, by kernel_rfl, by decide +kernel, by decide +kernel⟩
theorem cal__law_row (F : Fx K mg) : Cal P w K mg base 2 "_law_row" 3 [0] false m__law_row := by
  obtain ⟨f, F0, G0⟩ := F.d__law_row
  refine cal_of (k := 1) (m := 1) (O := [0]) (ex := b__law_row) F0 G0 sc__law_row (by kernel_rfl) (by kernel_rfl) (fun _ _ _ _ _ _ us hl => match us, hl with | [_, _, _], _ => rfl) fun cdv A outer s H E hr => ?_
  exact (ss_one (s_ret (s_tuple F.bi (SX.vw (s_lc (own := [("turn", 3)]) nd__law_row (si_rng1 F.bi (s_var 2)) (blk_of (by kernel_rfl)) (fun _ _ _ _ _ => (sg_name 3 nd__law_row)) (fun _ _ _ _ _ => sts_nil) (fun _ _ _ _ _ => (s_callL 0 (cal__law_roll F) hr (sl_le 0 (sl_sh (s_var 1) sl_nil)))))))))
def N__law_po_worth : List Str := ["p", "f", "x", "found", "one"]
theorem nd__law_po_worth : N__law_po_worth.Nodup := by decide +kernel
theorem sc__law_po_worth : FnScope N__law_po_worth ["p", "f", "x"] (defScope (top 82)) := ⟨by kernel_rfl, by kernel_rfl, by kernel_rfl, nd__law_po_worth, by kernel_rfl, by decide +kernel, by decide +kernel⟩
theorem cal__law_po_worth (F : Fx K mg) : Cal P w K mg base 1 "_law_po_worth" 3 [] false m__law_po_worth := by
  obtain ⟨f, F0, G0⟩ := F.d__law_po_worth
  refine cal_of (k := 0) (m := 2) (O := []) (ex := b__law_po_worth) F0 G0 sc__law_po_worth (by kernel_rfl) (by kernel_rfl) (fun _ _ _ _ _ _ us hl => match us, hl with | [_, _, _], _ => rfl) fun cdv A outer s H E hr => ?_
  exact (ss_cons (s_set 3 s_int nd__law_po_worth)
    (ss_cons (s_for [4] (si_any (s_revT (s_var 1))) (sg_name 4 nd__law_po_worth) (ss_one (s_set 3 (s_bin os_mod (s_intc F.bi (SX.vw (s_bin os_add (s_bin os_mul (s_var 3) (SX.vw (s_var 2))) (SX.vw (s_var 4))))) (SX.vw (s_var 0))) nd__law_po_worth)))
    (ss_one (s_ret (s_var 3)))))
def N__law_points : List Str := ["numbers", "n", "found", "turn", "later", "one", "x"]
theorem nd__law_points : N__law_points.Nodup := by decide +kernel
theorem sc__law_points : FnScope N__law_points ["numbers", "n"] (defScope (top 83)) := ⟨by kernel_rfl, by kernel_rfl, by kernel_rfl, nd__law_points, by kernel_rfl, by decide +kernel, by decide +kernel⟩
theorem cal__law_points (F : Fx K mg) : Cal P w K mg base 1 "_law_points" 2 [] false m__law_points := by
  obtain ⟨f, F0, G0⟩ := F.d__law_points
  refine cal_of (k := 0) (m := 5) (O := [4]) (ex := b__law_points) F0 G0 sc__law_points (by kernel_rfl) (by kernel_rfl) (fun _ _ _ _ _ _ us hl => match us, hl with | [_, _], _ => rfl) fun cdv A outer s H E hr => ?_
  exact (ss_cons (s_set 2 (SX.sh (fr := true) (s_lst (sa_cons (s_tup sa_nil) sa_nil))) nd__law_points)
    (ss_cons (s_for [3, 4, 5] (si_rng1 F.bi (s_var 1)) (sg_name 3 nd__law_points) (ss_cons (s_setO 4 (s_lst sa_nil) nd__law_points)
    (ss_cons (s_for [5] (si_any (s_var 2)) (sg_name 5 nd__law_points) (ss_one (s_expr (s_extend 4 (SX.sh (fr := true) (s_lc (own := [("x", 6)]) nd__law_points (si_any (s_var 0)) (blk_of (by kernel_rfl)) (fun _ _ _ _ _ => (sg_name 6 nd__law_points)) (fun _ _ _ _ _ => sts_nil) (fun _ _ _ _ _ => (s_bin os_add (s_var 5) (SX.vw (s_tup (sa_cons (s_var 6) sa_nil)))))))))))
    (ss_one (s_set 2 (SX.sh (fr := true) (s_move 4)) nd__law_points)))))
    (ss_one (s_ret (s_var 2)))))
def N__law_often : List Str := ["x", "n", "found", "turn"]
theorem nd__law_often : N__law_often.Nodup := by decide +kernel
theorem sc__law_often : FnScope N__law_often ["x", "n"] (defScope (top 84)) := ⟨by kernel_rfl, by kernel_rfl, by kernel_rfl, nd__law_often, by kernel_rfl, by decide +kernel, by decide +kernel⟩
theorem cal__law_often (F : Fx K mg) : Cal P w K mg base 1 "_law_often" 2 [] false m__law_often := by
  obtain ⟨f, F0, G0⟩ := F.d__law_often
  refine cal_of (k := 0) (m := 2) (O := []) (ex := b__law_often) F0 G0 sc__law_often (by kernel_rfl) (by kernel_rfl) (fun _ _ _ _ _ _ us hl => match us, hl with | [_, _], _ => rfl) fun cdv A outer s H E hr => ?_
  exact (ss_cons (s_set 2 s_int nd__law_often)
    (ss_cons (s_for [3] (si_rng1 F.bi (s_var 1)) (sg_name 3 nd__law_often) (ss_one (s_set 2 (s_bin os_mul (s_var 2) (SX.vw (s_var 0))) nd__law_often)))
    (ss_one (s_ret (s_var 2)))))
def N__law_choose : List Str := ["n", "k", "found", "i"]
theorem nd__law_choose : N__law_choose.Nodup := by decide +kernel
theorem sc__law_choose : FnScope N__law_choose ["n", "k"] (defScope (top 85)) := ⟨by kernel_rfl, by kernel_rfl, by kernel_rfl, nd__law_choose, by kernel_rfl, by decide +kernel, by decide +kernel⟩
theorem cal__law_choose (F : Fx K mg) : Cal P w K mg base 1 "_law_choose" 2 [] false m__law_choose := by
  obtain ⟨f, F0, G0⟩ := F.d__law_choose
  refine cal_of (k := 0) (m := 2) (O := []) (ex := b__law_choose) F0 G0 sc__law_choose (by kernel_rfl) (by kernel_rfl) (fun _ _ _ _ _ _ us hl => match us, hl with | [_, _], _ => rfl) fun cdv A outer s H E hr => ?_
  exact (ss_cons (s_set 2 s_int nd__law_choose)
    (ss_cons (s_for [3] (si_rng1 F.bi (s_var 1)) (sg_name 3 nd__law_choose) (ss_one (s_set 2 (s_bin os_div (s_bin os_mul (s_var 2) (SX.vw (s_bin os_sub (s_var 0) (SX.vw (s_var 3))))) (SX.vw (s_bin os_add (s_var 3) (SX.vw s_int)))) nd__law_choose)))
    (ss_one (s_ret (s_var 2)))))
def N__law_known_count : List Str := ["p", "far", "w", "d", "least", "found", "j", "part"]
theorem nd__law_known_count : N__law_known_count.Nodup := by decide +kernel
theorem sc__law_known_count : FnScope N__law_known_count ["p", "far", "w", "d"] (defScope (top 86)) := ⟨by kernel_rfl, by kernel_rfl, by kernel_rfl, nd__law_known_count, by kernel_rfl, by decide +kernel, by decide +kernel⟩
theorem cal__law_known_count (F : Fx K mg) : Cal P w K mg base 2 "_law_known_count" 4 [] false m__law_known_count := by
  obtain ⟨f, F0, G0⟩ := F.d__law_known_count
  refine cal_of (k := 1) (m := 4) (O := []) (ex := b__law_known_count) F0 G0 sc__law_known_count (by kernel_rfl) (by kernel_rfl) (fun _ _ _ _ _ _ us hl => match us, hl with | [_, _, _, _], _ => rfl) fun cdv A outer s H E hr => ?_
  exact (ss_cons (s_par2 4 5 (saf_sh (s_bin os_add (s_bin os_sub (s_var 1) (SX.vw (s_var 2))) (SX.vw s_int)) (saf_sh s_int saf_nil)) nd__law_known_count)
    (ss_cons (s_ifS (s_cmpT (os_eq hr.units) (s_var 3) (SX.vw s_int)) (ss_one (s_ret s_int)) ss_nil)
    (ss_cons (s_for [6, 7] (si_rng1 F.bi (s_max F.bi s_int (SX.vw (s_bin os_add (s_bin os_sub (s_var 3) (SX.vw (s_var 4))) (SX.vw s_int))))) (sg_name 6 nd__law_known_count) (ss_cons (s_set 7 (s_bin os_mul (s_call (cal__law_choose F) hr (sa_cons (s_var 3) (sa_cons (s_var 6) sa_nil))) (SX.vw (s_bin os_sub (s_call (cal__law_often F) hr (sa_cons (s_var 0) (sa_cons (s_bin os_sub (s_bin os_add (s_bin os_sub (s_var 3) (SX.vw (s_var 4))) (SX.vw s_int)) (SX.vw (s_var 6))) sa_nil))) (SX.vw s_int)))) nd__law_known_count)
    (ss_one (s_set 5 (s_bin os_add (s_var 5) (SX.vw (s_if (s_cmpT (os_eq hr.units) (s_bin os_mod (s_intc F.bi (SX.vw (s_var 6))) (SX.vw s_int)) (SX.vw s_int)) (s_var 7) (s_bin os_sub s_int (SX.vw (s_var 7)))))) nd__law_known_count))))
    (ss_one (s_ret (s_bin os_mul (s_call (cal__law_choose F) hr (sa_cons (s_var 1) (sa_cons (s_var 3) sa_nil))) (SX.vw (s_var 5))))))))
def N__law_all_right : List Str := ["dice", "p", "w", "far", "counts", "row", "word", "d", "near", "at", "one", "x"]
theorem nd__law_all_right : N__law_all_right.Nodup := by decide +kernel
theorem sc__law_all_right : FnScope N__law_all_right ["dice"] (defScope (top 87)) := ⟨by kernel_rfl, by kernel_rfl, by kernel_rfl, nd__law_all_right, by kernel_rfl, by decide +kernel, by decide +kernel⟩
theorem cal__law_all_right (F : Fx K mg) : Cal P w K mg base 7 "_law_all_right" 1 [0] false m__law_all_right := by
  obtain ⟨f, F0, G0⟩ := F.d__law_all_right
  refine cal_of (k := 6) (m := 11) (O := [0, 4]) (ex := b__law_all_right) F0 G0 sc__law_all_right (by kernel_rfl) (by kernel_rfl) (fun _ _ _ _ _ _ us hl => match us, hl with | [_], _ => rfl) fun cdv A outer s H E hr => ?_
  exact (ss_cons (s_asgT (s_callL 0 (cal__law_pick F) hr (sl_le 0 (sl_sh (SX.sh (fr := true) (s_lst (sa_cons (s_tup (sa_cons s_int (sa_cons s_int sa_nil))) (sa_cons (s_tup (sa_cons s_int (sa_cons s_int sa_nil))) (sa_cons (s_tup (sa_cons s_int (sa_cons s_int sa_nil))) (sa_cons (s_tup (sa_cons s_int (sa_cons s_int sa_nil))) (sa_cons (s_tup (sa_cons s_int (sa_cons s_int sa_nil))) (sa_cons (s_tup (sa_cons s_int (sa_cons s_int sa_nil))) (sa_cons (s_tup (sa_cons s_int (sa_cons s_int sa_nil))) (sa_cons (s_tup (sa_cons s_int (sa_cons s_int sa_nil))) (sa_cons (s_tup (sa_cons s_int (sa_cons s_int sa_nil))) (sa_cons (s_tup (sa_cons s_int (sa_cons s_int sa_nil))) sa_nil)))))))))))) sl_nil))) (sg_tup (sgs_cons (sg_name 1 nd__law_all_right) (sgs_cons (sg_name 2 nd__law_all_right) sgs_nil))))
    (ss_cons (s_set 3 (s_bin os_add (s_var 2) (SX.vw (s_callL 0 (cal__law_roll F) hr (sl_le 0 (sl_sh (s_bin os_add (s_bin os_sub (s_var 1) (SX.vw (s_var 2))) (SX.vw s_int)) sl_nil))))) nd__law_all_right)
    (ss_cons (s_setO 4 (s_bin os_rep (SX.sh (fr := true) (s_lst (sa_cons s_int sa_nil))) (SX.vw (s_bin os_add (s_var 3) (SX.vw s_int)))) nd__law_all_right)
    (ss_cons (s_for [5, 6, 7] (si_any (s_call (cal__law_points F) hr (sa_cons (SX.sh (fr := true) (s_lstRg1 F.bi (SX.vw (s_var 1)))) (sa_cons (s_var 2) sa_nil)))) (sg_name 5 nd__law_all_right) (ss_cons (s_set 6 (s_call (cal_coded_row F) hr (sa_cons (s_var 1) (sa_cons (s_var 5) (sa_cons (s_var 3) sa_nil)))) nd__law_all_right)
    (ss_cons (s_ifS (s_cmpT (os_ne hr.units) (SX.sh (fr := true) (s_list F.bi (SX.vw (s_var 6)))) (SX.vw (s_lc (own := [("x", 11)]) nd__law_all_right (si_rng1 F.bi (s_var 3)) (blk_of (by kernel_rfl)) (fun _ _ _ _ _ => (sg_name 11 nd__law_all_right)) (fun _ _ _ _ _ => sts_nil) (fun _ _ _ _ _ => (s_call (cal__law_po_worth F) hr (sa_cons (s_var 1) (sa_cons (s_var 5) (sa_cons (s_var 11) sa_nil)))))))) (ss_one (s_ret s_bl)) ss_nil)
    (ss_cons (s_set 7 (s_len F.bi (SX.vw (s_lc (own := [("one", 10)]) nd__law_all_right (si_any (s_var 6)) (blk_of (by kernel_rfl)) (fun _ _ _ _ _ => (sg_name 10 nd__law_all_right)) (fun _ _ _ _ _ => (sts_one (s_cmpT (os_ne hr.units) (s_var 10) (SX.vw s_int)))) (fun _ _ _ _ _ => (s_var 10))))) nd__law_all_right)
    (ss_one (s_store 4 (s_bin os_add (s_ixO 4 (SX.vw (s_var 7))) (SX.vw s_int)) (s_var 7)))))))
    (ss_cons (s_ifS (s_cmpOT 4 (os_ne hr.units) (SX.vw (s_lc (own := [("d", 7)]) nd__law_all_right (si_rng1 F.bi (s_bin os_add (s_var 3) (SX.vw s_int))) (blk_of (by kernel_rfl)) (fun _ _ _ _ _ => (sg_name 7 nd__law_all_right)) (fun _ _ _ _ _ => sts_nil) (fun _ _ _ _ _ => (s_call (cal__law_known_count F) hr (sa_cons (s_var 1) (sa_cons (s_var 3) (sa_cons (s_var 2) (sa_cons (s_var 7) sa_nil))))))))) (ss_one (s_ret s_bl)) ss_nil)
    (ss_cons (s_set 8 (s_call (cal_coded_row F) hr (sa_cons (s_var 1) (sa_cons (s_call (cal_near_row F) hr (sa_cons (s_var 1) (sa_cons (s_var 2) sa_nil))) (sa_cons (s_var 3) sa_nil)))) nd__law_all_right)
    (ss_one (s_ret (s_cmp (os_eq hr.units) (SX.sh (fr := true) (s_lc (own := [("at", 9), ("one", 10)]) nd__law_all_right (si_enum F.bi (s_var 8)) (blk_of (by kernel_rfl)) (fun _ _ _ _ _ => (sg_tup (sgs_cons (sg_name 9 nd__law_all_right) (sgs_cons (sg_name 10 nd__law_all_right) sgs_nil)))) (fun _ _ _ _ _ => (sts_one (s_cmpT (os_eq hr.units) (s_var 10) (SX.vw s_int)))) (fun _ _ _ _ _ => (s_var 9)))) (SX.vw (s_lstRg1 F.bi (SX.vw (s_bin os_sub (s_var 2) (SX.vw s_int))))))))))))))
def N__law_word_right : List Str := ["dice", "p", "w", "far", "row", "word", "at", "bent"]
theorem nd__law_word_right : N__law_word_right.Nodup := by decide +kernel
theorem sc__law_word_right : FnScope N__law_word_right ["dice"] (defScope (top 88)) := ⟨by kernel_rfl, by kernel_rfl, by kernel_rfl, nd__law_word_right, by kernel_rfl, by decide +kernel, by decide +kernel⟩
theorem cal__law_word_right (F : Fx K mg) : Cal P w K mg base 7 "_law_word_right" 1 [0] false m__law_word_right := by
  obtain ⟨f, F0, G0⟩ := F.d__law_word_right
  refine cal_of (k := 6) (m := 7) (O := [0]) (ex := b__law_word_right) F0 G0 sc__law_word_right (by kernel_rfl) (by kernel_rfl) (fun _ _ _ _ _ _ us hl => match us, hl with | [_], _ => rfl) fun cdv A outer s H E hr => ?_
  exact (ss_cons (s_par2 1 2 (saf_sh (s_callL 0 (cal__law_pick F) hr (sl_le 0 (sl_sh (SX.sh (fr := true) (s_lst (sa_cons s_int (sa_cons s_int (sa_cons s_int (sa_cons s_int (sa_cons s_int sa_nil))))))) sl_nil))) (saf_sh (s_bin os_add s_int (SX.vw (s_callL 0 (cal__law_roll F) hr (sl_le 0 (sl_sh s_int sl_nil))))) saf_nil)) nd__law_word_right)
    (ss_cons (s_set 3 (s_min F.bi (s_var 1) (SX.vw (s_bin os_add (s_bin os_add (s_var 2) (SX.vw s_int)) (SX.vw (s_callL 0 (cal__law_roll F) hr (sl_le 0 (sl_sh s_int sl_nil))))))) nd__law_word_right)
    (ss_cons (s_set 4 (s_callL 0 (cal__law_row F) hr (sl_le 0 (sl_sh (s_var 1) (sl_sh (s_var 2) sl_nil)))) nd__law_word_right)
    (ss_cons (s_par2 5 6 (saf_sh (s_call (cal_coded_row F) hr (sa_cons (s_var 1) (sa_cons (s_var 4) (sa_cons (s_var 3) sa_nil)))) (saf_sh (s_callL 0 (cal__law_roll F) hr (sl_le 0 (sl_sh (s_var 3) sl_nil))) saf_nil)) nd__law_word_right)
    (ss_cons (s_set 7 (s_bin os_add (s_bin os_add (s_sl (s_var 5) sp_no (sp_some (s_var 6))) (SX.vw (s_tup (sa_cons (s_bin os_mod (s_intc F.bi (SX.vw (s_bin os_add (s_bin os_add (s_ix (s_var 5) (SX.vw (s_var 6))) (SX.vw s_int)) (SX.vw (s_callL 0 (cal__law_roll F) hr (sl_le 0 (sl_sh (s_bin os_sub (s_var 1) (SX.vw s_int)) sl_nil))))))) (SX.vw (s_var 1))) sa_nil)))) (SX.vw (s_sl (s_var 5) (sp_some (s_bin os_add (s_var 6) (SX.vw s_int))) sp_no))) nd__law_word_right)
    (ss_one (s_ret (s_cmp (os_eq hr.units) (SX.sh (fr := true) (s_lst (sa_cons (s_call (cal_row_of_code F) hr (sa_cons (s_var 1) (sa_cons (s_var 5) (sa_cons (s_var 2) sa_nil)))) (sa_cons (s_call (cal_row_of_code F) hr (sa_cons (s_var 1) (sa_cons (s_var 7) (sa_cons (s_var 2) sa_nil)))) sa_nil)))) (SX.vw (s_lst (sa_cons (s_var 4) (sa_cons s_non sa_nil))))))))))))
def N__law_divisor : List Str := ["one", "other"]
theorem nd__law_divisor : N__law_divisor.Nodup := by decide +kernel
theorem sc__law_divisor : FnScope N__law_divisor ["one", "other"] (defScope (top 90)) := ⟨by kernel_rfl, by kernel_rfl, by kernel_rfl, nd__law_divisor, by kernel_rfl, by decide +kernel, by decide +kernel⟩
theorem cal__law_divisor (F : Fx K mg) : Cal P w K mg base 1 "_law_divisor" 2 [] false m__law_divisor := by
  obtain ⟨f, F0, G0⟩ := F.d__law_divisor
  refine cal_of (k := 0) (m := 0) (O := []) (ex := b__law_divisor) F0 G0 sc__law_divisor (by kernel_rfl) (by kernel_rfl) (fun _ _ _ _ _ _ us hl => match us, hl with | [_, _], _ => rfl) fun cdv A outer s H E hr => ?_
  exact (ss_cons (s_while (s_cmpT os_gt (s_var 1) (SX.vw s_int)) (ss_one (s_par2 0 1 (saf_sh (s_var 1) (saf_sh (s_bin os_mod (s_intc F.bi (SX.vw (s_var 0))) (SX.vw (s_var 1))) saf_nil)) nd__law_divisor)))
    (ss_one (s_ret (s_var 0))))
def N__law_mixed_right : List Str := ["dice", "p", "w", "many", "far", "rows", "factors", "columns", "mixed", "due", "other", "turn", "at", "told", "x", "column", "both", "asked", "a", "share", "top", "bottom", "k", "row", "c", "one"]
theorem nd__law_mixed_right : N__law_mixed_right.Nodup := by decide +kernel
theorem sc__law_mixed_right : FnScope N__law_mixed_right ["dice"] (defScope (top 89)) := ⟨by kernel_rfl, by kernel_rfl, by kernel_rfl, nd__law_mixed_right, by kernel_rfl, by decide +kernel, by decide +kernel⟩
theorem cal__law_mixed_right (F : Fx K mg) : Cal P w K mg base 8 "_law_mixed_right" 1 [0] false m__law_mixed_right := by
  obtain ⟨f, F0, G0⟩ := F.d__law_mixed_right
  refine cal_of (k := 7) (m := 25) (O := [0, 7]) (ex := b__law_mixed_right) F0 G0 sc__law_mixed_right (by kernel_rfl) (by kernel_rfl) (fun _ _ _ _ _ _ us hl => match us, hl with | [_], _ => rfl) fun cdv A outer s H E hr => ?_
  exact (ss_cons (s_asgT (s_tup (sa_cons (s_callL 0 (cal__law_pick F) hr (sl_le 0 (sl_sh (SX.sh (fr := true) (s_lst (sa_cons s_int (sa_cons s_int (sa_cons s_int (sa_cons s_int sa_nil)))))) sl_nil))) (sa_cons (s_bin os_add s_int (SX.vw (s_callL 0 (cal__law_roll F) hr (sl_le 0 (sl_sh s_int sl_nil))))) (sa_cons (s_bin os_add s_int (SX.vw (s_callL 0 (cal__law_roll F) hr (sl_le 0 (sl_sh s_int sl_nil))))) sa_nil)))) (sg_tup (sgs_cons (sg_name 1 nd__law_mixed_right) (sgs_cons (sg_name 2 nd__law_mixed_right) (sgs_cons (sg_name 3 nd__law_mixed_right) sgs_nil)))))
    (ss_cons (s_set 4 (s_min F.bi (s_var 1) (SX.vw (s_bin os_add (s_var 2) (SX.vw (s_callL 0 (cal__law_roll F) hr (sl_le 0 (sl_sh s_int sl_nil))))))) nd__law_mixed_right)
    (ss_cons (s_asgT (s_tup (sa_cons (s_tuple F.bi (SX.vw (s_lc (own := [("turn", 11)]) nd__law_mixed_right (si_rng1 F.bi (s_var 3)) (blk_of (by kernel_rfl)) (fun _ _ _ _ _ => (sg_name 11 nd__law_mixed_right)) (fun _ _ _ _ _ => sts_nil) (fun _ _ _ _ _ => (s_callL 0 (cal__law_row F) hr (sl_le 0 (sl_sh (s_var 1) (sl_sh (s_var 2) sl_nil)))))))) (sa_cons (s_callL 0 (cal__law_row F) hr (sl_le 0 (sl_sh (s_var 1) (sl_sh (s_var 3) sl_nil)))) sa_nil))) (sg_tup (sgs_cons (sg_name 5 nd__law_mixed_right) (sgs_cons (sg_name 6 nd__law_mixed_right) sgs_nil))))
    (ss_cons (s_setO 7 (s_list F.bi (SX.vw (s_call (cal_coded_columns F) hr (sa_cons (s_var 1) (sa_cons (s_var 5) (sa_cons (s_var 4) sa_nil)))))) nd__law_mixed_right)
    (ss_cons (s_ifS (s_cmpOT 7 (os_ne hr.units) (SX.vw (s_lc (own := [("x", 14)]) nd__law_mixed_right (si_rng1 F.bi (s_var 4)) (blk_of (by kernel_rfl)) (fun _ _ _ _ _ => (sg_name 14 nd__law_mixed_right)) (fun _ _ _ _ _ => sts_nil) (fun _ _ _ _ _ => (s_tuple F.bi (SX.vw (s_lc (own := [("row", 23)]) nd__law_mixed_right (si_any (s_var 5)) (blk_of (by kernel_rfl)) (fun _ _ _ _ _ => (sg_name 23 nd__law_mixed_right)) (fun _ _ _ _ _ => sts_nil) (fun _ _ _ _ _ => (s_call (cal__law_po_worth F) hr (sa_cons (s_var 1) (sa_cons (s_var 23) (sa_cons (s_var 14) sa_nil)))))))))))) (ss_one (s_ret s_bl)) ss_nil)
    (ss_cons (s_set 8 (s_call (cal_mixed_row F) hr (sa_cons (s_var 1) (sa_cons (s_var 5) (sa_cons (s_var 6) sa_nil)))) nd__law_mixed_right)
    (ss_cons (s_setLc 9 (own := [("k", 22)]) nd__law_mixed_right (si_rng1 F.bi (s_var 2)) (blk_of (by kernel_rfl)) (fun _ _ _ _ _ => (sg_name 22 nd__law_mixed_right)) (fun _ _ _ _ _ => sts_nil) (fun _ _ _ _ _ => (s_bin os_mod (s_intc F.bi (SX.vw (s_sum F.bi (SX.vw (s_lc (own := [("c", 24), ("row", 23)]) nd__law_mixed_right (si_zip2 F.bi (s_var 6) (s_var 5)) (blk_of (by kernel_rfl)) (fun _ _ _ _ _ => (sg_tup (sgs_cons (sg_name 24 nd__law_mixed_right) (sgs_cons (sg_name 23 nd__law_mixed_right) sgs_nil)))) (fun _ _ _ _ _ => sts_nil) (fun _ _ _ _ _ => (s_bin os_mul (s_var 24) (SX.vw (s_ix (s_var 23) (SX.vw (s_var 22))))))))))) (SX.vw (s_var 1)))))
    (ss_cons (s_ifS (st_w (sw_or (s_cmpT (os_ne hr.units) (s_var 8) (SX.vw (s_tuple F.bi (SX.vw (s_var 9))))) (sw_or1 (s_cmpT (os_ne hr.units) (s_call (cal_agreeing_places F) hr (sa_cons (s_var 1) (sa_cons (s_tuple F.bi (s_look 7)) (sa_cons (s_var 6) (sa_cons (s_var 8) sa_nil))))) (SX.vw (s_tupRg1 F.bi (s_var 4))))))) (ss_one (s_ret s_bl)) ss_nil)
    (ss_cons (s_set 10 (s_callL 0 (cal__law_row F) hr (sl_le 0 (sl_sh (s_var 1) (sl_sh (s_var 2) sl_nil)))) nd__law_mixed_right)
    (ss_cons (s_ifS (st_w (sw_and (s_cmpT (os_ne hr.units) (s_var 10) (SX.vw (s_var 8))) (sw_and1 (s_cmpT os_gt (s_len F.bi (SX.vw (s_call (cal_agreeing_places F) hr (sa_cons (s_var 1) (sa_cons (s_tuple F.bi (s_look 7)) (sa_cons (s_var 6) (sa_cons (s_var 10) sa_nil))))))) (SX.vw (s_bin os_sub (s_var 2) (SX.vw s_int))))))) (ss_one (s_ret s_bl)) ss_nil)
    (ss_cons (s_for [11, 12] (si_rng1 F.bi s_int) (sg_name 11 nd__law_mixed_right) (ss_cons (s_set 12 (s_callL 0 (cal__law_roll F) hr (sl_le 0 (sl_sh (s_var 4) sl_nil))) nd__law_mixed_right)
    (ss_one (s_store 7 (s_callL 0 (cal__law_row F) hr (sl_le 0 (sl_sh (s_var 1) (sl_sh (s_var 3) sl_nil)))) (s_var 12)))))
    (ss_cons (s_set 13 (SX.sh (fr := true) (s_lst sa_nil)) nd__law_mixed_right)
    (ss_cons (s_forO 7 [14, 15, 16] (sio_enum F.bi 7) (sg_tup (sgs_cons (sg_name 14 nd__law_mixed_right) (sgs_cons (sg_name 15 nd__law_mixed_right) sgs_nil))) (ss_cons (s_set 16 (s_bin os_mod (s_intc F.bi (SX.vw (s_sum F.bi (SX.vw (s_lc (own := [("c", 24), ("one", 25)]) nd__law_mixed_right (si_zip2 F.bi (s_var 6) (s_var 15)) (blk_of (by kernel_rfl)) (fun _ _ _ _ _ => (sg_tup (sgs_cons (sg_name 24 nd__law_mixed_right) (sgs_cons (sg_name 25 nd__law_mixed_right) sgs_nil)))) (fun _ _ _ _ _ => sts_nil) (fun _ _ _ _ _ => (s_bin os_mul (s_var 24) (SX.vw (s_var 25))))))))) (SX.vw (s_var 1))) nd__law_mixed_right)
    (ss_one (s_set 13 (s_bin os_add (s_var 13) (SX.vw (s_bin os_rep (SX.sh (fr := true) (s_lst (sa_cons (s_var 14) sa_nil))) (SX.vw (s_intc F.bi (SX.vw (s_cmp (os_eq hr.units) (s_var 16) (SX.vw (s_call (cal__law_po_worth F) hr (sa_cons (s_var 1) (sa_cons (s_var 10) (sa_cons (s_var 14) sa_nil)))))))))))) nd__law_mixed_right))))
    (ss_cons (s_ifS (s_cmpT (os_ne hr.units) (s_call (cal_agreeing_places F) hr (sa_cons (s_var 1) (sa_cons (s_tuple F.bi (s_look 7)) (sa_cons (s_var 6) (sa_cons (s_var 10) sa_nil))))) (SX.vw (s_tuple F.bi (SX.vw (s_var 13))))) (ss_one (s_ret s_bl)) ss_nil)
    (ss_cons (s_par2 17 18 (saf_sh (s_bin os_add s_int (SX.vw (s_callL 0 (cal__law_roll F) hr (sl_le 0 (sl_sh s_int sl_nil))))) (saf_sh (s_len F.bi (SX.vw (s_var 13))) saf_nil)) nd__law_mixed_right)
    (ss_cons (s_set 19 (s_call (cal_lucky_share F) hr (sa_cons (s_var 18) (sa_cons (s_var 17) (sa_cons (s_var 4) sa_nil)))) nd__law_mixed_right)
    (ss_cons (s_ifS (s_cmpT (os_eq hr.units) (s_var 18) (SX.vw s_int)) (ss_one (s_ret (s_cmp (os_eq hr.units) (s_var 19) (SX.vw (s_tup (sa_cons s_int (sa_cons s_int sa_nil))))))) ss_nil)
    (ss_cons (s_par2 20 21 (saf_sh (s_call (cal__law_often F) hr (sa_cons (s_var 18) (sa_cons (s_var 17) sa_nil))) (saf_sh (s_call (cal__law_often F) hr (sa_cons (s_var 4) (sa_cons (s_var 17) sa_nil))) saf_nil)) nd__law_mixed_right)
    (ss_one (s_ret (se_and (s_cmp (os_eq hr.units) (s_bin os_mul (s_ix (s_var 19) (SX.vw s_int)) (SX.vw (s_var 21))) (SX.vw (s_bin os_mul (s_ix (s_var 19) (SX.vw s_int)) (SX.vw (s_var 20))))) (se_one (s_cmp (os_eq hr.units) (s_call (cal__law_divisor F) hr (sa_cons (s_ix (s_var 19) (SX.vw s_int)) (sa_cons (s_ix (s_var 19) (SX.vw s_int)) sa_nil))) (SX.vw s_int))))))))))))))))))))))))
def N__law_tree_right : List Str := ["dice", "leaves", "at", "root", "path", "bent", "other", "turn", "i", "leaf"]
theorem nd__law_tree_right : N__law_tree_right.Nodup := by decide +kernel
theorem sc__law_tree_right : FnScope N__law_tree_right ["dice"] (defScope (top 91)) := ⟨by kernel_rfl, by kernel_rfl, by kernel_rfl, nd__law_tree_right, by kernel_rfl, by decide +kernel, by decide +kernel⟩
theorem cal__law_tree_right (F : Fx K mg) : Cal P w K mg base 7 "_law_tree_right" 1 [0] false m__law_tree_right := by
  obtain ⟨f, F0, G0⟩ := F.d__law_tree_right
  refine cal_of (k := 6) (m := 9) (O := [0]) (ex := b__law_tree_right) F0 G0 sc__law_tree_right (by kernel_rfl) (by kernel_rfl) (fun _ _ _ _ _ _ us hl => match us, hl with | [_], _ => rfl) fun cdv A outer s H E hr => ?_
  exact (ss_cons (s_setLc 1 (own := [("turn", 7)]) nd__law_tree_right (si_rng1 F.bi (s_callL 0 (cal__law_pick F) hr (sl_le 0 (sl_sh (SX.sh (fr := true) (s_lst (sa_cons s_int (sa_cons s_int (sa_cons s_int (sa_cons s_int sa_nil)))))) sl_nil)))) (blk_of (by kernel_rfl)) (fun _ _ _ _ _ => (sg_name 7 nd__law_tree_right)) (fun _ _ _ _ _ => sts_nil) (fun _ _ _ _ _ => (s_callL 0 (cal__law_row F) hr (sl_le 0 (sl_sh s_int (sl_sh (s_callL 0 (cal__law_roll F) hr (sl_le 0 (sl_sh s_int sl_nil))) sl_nil))))))
    (ss_cons (s_set 2 (s_callL 0 (cal__law_roll F) hr (sl_le 0 (sl_sh (s_len F.bi (SX.vw (s_var 1))) sl_nil))) nd__law_tree_right)
    (ss_cons (s_par2 3 4 (saf_sh (s_call (cal_tree_root F) hr (sa_cons (s_tuple F.bi (SX.vw (s_var 1))) sa_nil)) (saf_sh (s_call (cal_path_of F) hr (sa_cons (s_tuple F.bi (SX.vw (s_var 1))) (sa_cons (s_var 2) sa_nil))) saf_nil)) nd__law_tree_right)
    (ss_cons (s_ifS (st_w (sw_or (s_cmpT (os_ne hr.units) (s_call (cal_root_by_path F) hr (sa_cons (s_ix (s_var 1) (SX.vw (s_var 2))) (sa_cons (s_var 2) (sa_cons (s_var 4) sa_nil)))) (SX.vw (s_var 3))) (sw_or1 (s_cmpT (os_ne hr.units) (s_call (cal__law_often F) hr (sa_cons s_int (sa_cons (s_len F.bi (SX.vw (s_var 4))) sa_nil))) (SX.vw (s_len F.bi (SX.vw (s_var 1)))))))) (ss_one (s_ret s_bl)) ss_nil)
    (ss_cons (s_ifS (st_w (sw_and (s_cmpT (os_eq hr.units) (s_len F.bi (SX.vw (s_var 1))) (SX.vw s_int)) (sw_and1 (s_cmpT (os_ne hr.units) (s_var 3) (SX.vw (s_call (cal_digest F) hr (sa_cons (s_ix (s_var 1) (SX.vw s_int)) sa_nil))))))) (ss_one (s_ret s_bl)) ss_nil)
    (ss_cons (s_ifS (s_cmpT (os_eq hr.units) (s_ix (s_var 1) (SX.vw (s_var 2))) (SX.vw (s_tup sa_nil))) (ss_one (s_ret s_bl)) ss_nil)
    (ss_cons (s_set 5 (s_bin os_add (s_tup (sa_cons (s_bin os_add (s_ix (s_ix (s_var 1) (SX.vw (s_var 2))) (SX.vw s_int)) (SX.vw s_int)) sa_nil)) (SX.vw (s_sl (s_ix (s_var 1) (SX.vw (s_var 2))) (sp_some s_int) sp_no))) nd__law_tree_right)
    (ss_cons (s_set 6 (s_tuple F.bi (SX.vw (s_lc (own := [("i", 8), ("leaf", 9)]) nd__law_tree_right (si_enum F.bi (s_var 1)) (blk_of (by kernel_rfl)) (fun _ _ _ _ _ => (sg_tup (sgs_cons (sg_name 8 nd__law_tree_right) (sgs_cons (sg_name 9 nd__law_tree_right) sgs_nil)))) (fun _ _ _ _ _ => sts_nil) (fun _ _ _ _ _ => (s_if (s_cmpT (os_eq hr.units) (s_var 8) (SX.vw (s_var 2))) (s_var 5) (s_var 9)))))) nd__law_tree_right)
    (ss_one (s_ret (se_and (s_cmp (os_eq hr.units) (s_call (cal_root_by_path F) hr (sa_cons (s_var 5) (sa_cons (s_var 2) (sa_cons (s_var 4) sa_nil)))) (SX.vw (s_call (cal_tree_root F) hr (sa_cons (s_var 6) sa_nil)))) (se_one (s_cmp (os_ne hr.units) (s_call (cal_tree_root F) hr (sa_cons (s_var 6) sa_nil)) (SX.vw (s_var 3)))))))))))))))
def N_law : List Str := ["script", "spot", "dice", "turn", "counts", "d"]
theorem nd_law : N_law.Nodup := by decide +kernel
theorem sc_law : FnScope N_law ["script"] (defScope (top 92)) := ⟨by kernel_rfl, by kernel_rfl, by kernel_rfl, nd_law, by kernel_rfl, by decide +kernel, by decide +kernel⟩
theorem ok_law (F : Fx K mg) {f : Addr} {fd : FuncData} (F0 : FunD K "law" "law" (defArgs (top 92)) (defBody (top 92)) (defScope (top 92)) [] [] f fd) : FnOk P w K mg base CX0 9 f fd ["script"] (spF K [] false 1 m_law) := by
  refine def_ok (k := 8) (m := 5) (O := [2]) (ex := b_law) F0 sc_law (by kernel_rfl) (by kernel_rfl) fun cdv A outer s H E hr => ?_
  exact (ss_cons (s_for [1, 2, 3] (si_rng1 F.bi (s_max F.bi s_int (SX.vw (s_min F.bi s_int (SX.vw (s_len F.bi (SX.vw (s_var 0)))))))) (sg_name 1 nd_law) (ss_cons (s_setO 2 (s_call (cal__law_dice F) hr (sa_cons (s_var 0) (sa_cons (s_var 1) sa_nil))) nd_law)
    (ss_cons (s_ifS (st_not (s_valT (s_callL 2 (cal__law_all_right F) hr (sl_le 2 sl_nil)))) (ss_one (s_ret s_bl)) ss_nil)
    (ss_one (s_for [3] (si_rng1 F.bi s_int) (sg_name 3 nd_law) (ss_one (s_ifS (st_w (sw_or (st_not (s_valT (s_callL 2 (cal__law_word_right F) hr (sl_le 2 sl_nil)))) (sw_or (st_not (s_valT (s_callL 2 (cal__law_mixed_right F) hr (sl_le 2 sl_nil)))) (sw_or1 (st_not (s_valT (s_callL 2 (cal__law_tree_right F) hr (sl_le 2 sl_nil)))))))) (ss_one (s_ret s_bl)) ss_nil)))))))
    (ss_cons (s_setLc 4 (own := [("d", 5)]) nd_law (si_rng1 F.bi s_int) (blk_of (by kernel_rfl)) (fun _ _ _ _ _ => (sg_name 5 nd_law)) (fun _ _ _ _ _ => sts_nil) (fun _ _ _ _ _ => (s_call (cal__law_known_count F) hr (sa_cons s_int (sa_cons s_int (sa_cons s_int (sa_cons (s_var 5) sa_nil)))))))
    (ss_one (s_ret (se_and (s_cmp (os_eq hr.units) (s_var 4) (SX.vw (s_lst (sa_cons s_int (sa_cons s_int (sa_cons s_int (sa_cons s_int (sa_cons s_int sa_nil)))))))) (se_one (s_cmp (os_eq hr.units) (s_call (cal_lucky_share F) hr (sa_cons s_int (sa_cons s_int (sa_cons s_int sa_nil)))) (SX.vw (s_tup (sa_cons s_int (sa_cons s_int sa_nil)))))))))))
end
end Hd

namespace Hd
open PySem PySem.Spec PyProof.Rows L2 PL
def dd (x : String) (i : Nat) : He.DefD := ⟨(Str.ofString x, none), Str.ofString x, Str.ofString x, defArgs (top i), defBody (top i), defScope (top i), [], []⟩
def fn0 : List He.DefD := [dd "is_whole" 10, dd "is_near" 11, dd "is_within" 12, dd "is_number_by" 13, dd "are_numbers" 14, dd "is_prime_told" 15, dd "require_prime" 16, dd "require_number" 17, dd "raised_in" 18, dd "trimmed" 20, dd "power_in" 21, dd "back_in" 22, dd "worth_in" 23, dd "added_in" 24, dd "scaled_in" 25, dd "product_in" 26, dd "through_in" 27, dd "digest_in" 41, dd "digest_layers" 42, dd "root_in" 43, dd "path_in" 44, dd "root_by_path_in" 45, dd "coded_row_in" 46, dd "coded_columns_in" 47, dd "row_through" 48]
def fn1 : List He.DefD := [dd "shifted" 49, dd "row_of_code_in" 50, dd "near_row_in" 51, dd "mixed_row_in" 52, dd "mixed_column" 53, dd "agreeing_in" 54, dd "share_in_lowest" 55, dd "are_members" 56, dd "are_digest_leaves" 57, dd "is_row_in" 58, dd "are_rows_in" 59, dd "are_told_columns" 60, dd "require_members" 61, dd "require_digest_leaves" 62, dd "require_coded_row" 63, dd "require_coded_rows" 64, dd "require_factors" 65, dd "digest" 66, dd "tree_root" 67, dd "path_of" 68, dd "root_by_path" 69, dd "coded_row" 70, dd "coded_columns" 71, dd "row_of_code" 72, dd "near_row" 73]
def fn2 : List He.DefD := [dd "mixed_row" 74, dd "agreeing_places" 75, dd "lucky_share" 76, dd "_law_dice" 78, dd "_law_roll" 79, dd "_law_pick" 80, dd "_law_row" 81, dd "_law_po_worth" 82, dd "_law_points" 83, dd "_law_often" 84, dd "_law_choose" 85, dd "_law_known_count" 86, dd "_law_all_right" 87, dd "_law_word_right" 88, dd "_law_mixed_right" 89, dd "_law_divisor" 90, dd "_law_tree_right" 91, dd "law" 92]
def fn : List He.DefD := fn0 ++ fn1 ++ fn2
def fa0 : List He.Fa := [.glo "is_whole", .glo "is_near", .glo "is_within", .glo "is_number_by", .glo "are_numbers", .glo "is_prime_told", .glo "require_prime", .glo "require_number", .glo "raised_in", .glo "trimmed", .glo "power_in", .glo "back_in", .glo "worth_in", .glo "added_in", .glo "scaled_in", .glo "product_in", .glo "through_in", .glo "digest_in", .glo "digest_layers", .glo "root_in", .glo "path_in", .glo "root_by_path_in", .glo "coded_row_in", .glo "coded_columns_in", .glo "row_through"]
def fa1 : List He.Fa := [.glo "shifted", .glo "row_of_code_in", .glo "near_row_in", .glo "mixed_row_in", .glo "mixed_column", .glo "agreeing_in", .glo "share_in_lowest", .glo "are_members", .glo "are_digest_leaves", .glo "is_row_in", .glo "are_rows_in", .glo "are_told_columns", .glo "require_members", .glo "require_digest_leaves", .glo "require_coded_row", .glo "require_coded_rows", .glo "require_factors", .glo "digest", .glo "tree_root", .glo "path_of", .glo "root_by_path", .glo "coded_row", .glo "coded_columns", .glo "row_of_code", .glo "near_row"]
def fa2 : List He.Fa := [.glo "mixed_row", .glo "agreeing_places", .glo "lucky_share", .glo "_law_dice", .glo "_law_roll", .glo "_law_pick", .glo "_law_row", .glo "_law_po_worth", .glo "_law_points", .glo "_law_often", .glo "_law_choose", .glo "_law_known_count", .glo "_law_all_right", .glo "_law_word_right", .glo "_law_mixed_right", .glo "_law_divisor", .glo "_law_tree_right", .glo "law", .free "isinstance", .free "len", .free "range", .free "list", .free "tuple", .free "all", .free "any"]
def fa3 : List He.Fa := [.free "sum", .free "max", .free "min", .free "abs", .free "int", .free "bool", .free "str", .free "dict", .free "zip", .free "enumerate", .free "sorted", .free "repr", .free "super", .free "ValueError", .free "IndexError", .glo "KNOWN_PRIMES", .int "FAR" 1000000000000000000000000000000000000000000000000000000000000, .int "GREAT_PRIME" 2305843009213693951, .int "POWER" 17, .int "MORE" 3, .int "MOST_MEMBERS" 64, .int "MOST_LEAVES" 64, .int "MOST_ROW" 16, .int "MOST_CODED_ROWS" 64, .int "MOST_PLACES" 64]
def fa4 : List He.Fa := [.int "MOST_PATH" 6, .int "MOST_ASKED" 8, .glo "LEAF_COUNTS", .int "TWO" 2]
def fa : List He.Fa := fa0 ++ fa1 ++ fa2 ++ fa3 ++ fa4
def tp : List (Str × List Ct) := [("KNOWN_PRIMES", [.int 3, .int 5, .int 7, .int 11, .int 13, .int 17, .int 31, .int 61, .int 97, .int 193, .int 257, .int 769, .int 12289]), ("LEAF_COUNTS", [.int 1, .int 2, .int 4, .int 8, .int 16, .int 32, .int 64])]
def ns0 : List Str := ["SumError", "InvalidTurns", "InvalidColumns", "InvalidLot", "InvalidOperation", "InvalidNumber", "KNOWN_PRIMES", "FAR", "GREAT_PRIME", "POWER", "MORE", "MOST_MEMBERS", "MOST_LEAVES", "MOST_ROW", "MOST_CODED_ROWS", "MOST_PLACES", "MOST_PATH", "MOST_ASKED", "LEAF_COUNTS", "TWO", "is_whole", "is_near", "is_within", "is_number_by", "are_numbers"]
def ns1 : List Str := ["is_prime_told", "require_prime", "require_number", "raised_in", "trimmed", "power_in", "back_in", "worth_in", "added_in", "scaled_in", "product_in", "through_in", "digest_in", "digest_layers", "root_in", "path_in", "root_by_path_in", "coded_row_in", "coded_columns_in", "row_through", "shifted", "row_of_code_in", "near_row_in", "mixed_row_in", "mixed_column"]
def ns2 : List Str := ["agreeing_in", "share_in_lowest", "are_members", "are_digest_leaves", "is_row_in", "are_rows_in", "are_told_columns", "require_members", "require_digest_leaves", "require_coded_row", "require_coded_rows", "require_factors", "digest", "tree_root", "path_of", "root_by_path", "coded_row", "coded_columns", "row_of_code", "near_row", "mixed_row", "agreeing_places", "lucky_share", "_law_dice", "_law_roll"]
def ns3 : List Str := ["_law_pick", "_law_row", "_law_po_worth", "_law_points", "_law_often", "_law_choose", "_law_known_count", "_law_all_right", "_law_word_right", "_law_mixed_right", "_law_divisor", "_law_tree_right"]
def names : List Str := ns0 ++ ns1 ++ ns2 ++ ns3
abbrev R : PySem.W.OpenRow := PySem.W.OpenLaw.row PySem.Challenge.rw_roundsums_k92_whole_codes_of_all_rows
abbrev hk : PySem.W.Hook := hookP 4 fa tp fn
def ob (s : PySem.W.SharedT) : AlP := obsPG 4 fa tp fn (HandSHeadRun.getT s)
theorem ob_eq (s : PySem.W.SharedT) : ob s = hk.obs s.abs := obsPG_eq (HandSHeadRun.getT_eq s)
theorem run (w : World) : HandSHeadRun.RunEq R (PySem.W.view R.prog [92]) hk ob 4000 names w := by
  intro os
  kernel_rfl
theorem facts {K : Frg} {h : Heap} {mg : Str → Option Value} (X : K.In h) (G : h.Ns mainGlobals mg) (c : SaysP fa tp fn K) : Fx K mg where
  bi := ⟨He.free_ok X G (c.2.fact 68 (f := .free "isinstance") rfl), He.free_ok X G (c.2.fact 69 (f := .free "len") rfl), He.free_ok X G (c.2.fact 70 (f := .free "range") rfl), He.free_ok X G (c.2.fact 71 (f := .free "list") rfl), He.free_ok X G (c.2.fact 72 (f := .free "tuple") rfl), He.free_ok X G (c.2.fact 73 (f := .free "all") rfl), He.free_ok X G (c.2.fact 74 (f := .free "any") rfl), He.free_ok X G (c.2.fact 75 (f := .free "sum") rfl), He.free_ok X G (c.2.fact 76 (f := .free "max") rfl), He.free_ok X G (c.2.fact 77 (f := .free "min") rfl), He.free_ok X G (c.2.fact 78 (f := .free "abs") rfl), He.free_ok X G (c.2.fact 79 (f := .free "int") rfl), He.free_ok X G (c.2.fact 80 (f := .free "bool") rfl), He.free_ok X G (c.2.fact 81 (f := .free "str") rfl), He.free_ok X G (c.2.fact 82 (f := .free "dict") rfl), He.free_ok X G (c.2.fact 83 (f := .free "zip") rfl), He.free_ok X G (c.2.fact 84 (f := .free "enumerate") rfl), He.free_ok X G (c.2.fact 85 (f := .free "sorted") rfl), He.free_ok X G (c.2.fact 86 (f := .free "repr") rfl)⟩
  g_KNOWN_PRIMES := glob_tup X G (c.2.fact 90 (f := .glo "KNOWN_PRIMES") rfl) (c.tup 0)
  g_FAR := glob_int X G (c.2.fact 91 rfl)
  g_GREAT_PRIME := glob_int X G (c.2.fact 92 rfl)
  g_POWER := glob_int X G (c.2.fact 93 rfl)
  g_MORE := glob_int X G (c.2.fact 94 rfl)
  g_MOST_MEMBERS := glob_int X G (c.2.fact 95 rfl)
  g_MOST_LEAVES := glob_int X G (c.2.fact 96 rfl)
  g_MOST_ROW := glob_int X G (c.2.fact 97 rfl)
  g_MOST_CODED_ROWS := glob_int X G (c.2.fact 98 rfl)
  g_MOST_PLACES := glob_int X G (c.2.fact 99 rfl)
  g_MOST_PATH := glob_int X G (c.2.fact 100 rfl)
  g_MOST_ASKED := glob_int X G (c.2.fact 101 rfl)
  g_LEAF_COUNTS := glob_tup X G (c.2.fact 102 (f := .glo "LEAF_COUNTS") rfl) (c.tup 1)
  g_TWO := glob_int X G (c.2.fact 103 rfl)
  d_is_whole := ⟨_, c.2.def_ 0 (d := dd "is_whole" 10) rfl, He.glo_ok X G (c.2.fact 0 (f := .glo "is_whole") rfl)⟩
  d_is_near := ⟨_, c.2.def_ 1 (d := dd "is_near" 11) rfl, He.glo_ok X G (c.2.fact 1 (f := .glo "is_near") rfl)⟩
  d_is_within := ⟨_, c.2.def_ 2 (d := dd "is_within" 12) rfl, He.glo_ok X G (c.2.fact 2 (f := .glo "is_within") rfl)⟩
  d_is_number_by := ⟨_, c.2.def_ 3 (d := dd "is_number_by" 13) rfl, He.glo_ok X G (c.2.fact 3 (f := .glo "is_number_by") rfl)⟩
  d_are_numbers := ⟨_, c.2.def_ 4 (d := dd "are_numbers" 14) rfl, He.glo_ok X G (c.2.fact 4 (f := .glo "are_numbers") rfl)⟩
  d_is_prime_told := ⟨_, c.2.def_ 5 (d := dd "is_prime_told" 15) rfl, He.glo_ok X G (c.2.fact 5 (f := .glo "is_prime_told") rfl)⟩
  d_require_prime := ⟨_, c.2.def_ 6 (d := dd "require_prime" 16) rfl, He.glo_ok X G (c.2.fact 6 (f := .glo "require_prime") rfl)⟩
  d_require_number := ⟨_, c.2.def_ 7 (d := dd "require_number" 17) rfl, He.glo_ok X G (c.2.fact 7 (f := .glo "require_number") rfl)⟩
  d_raised_in := ⟨_, c.2.def_ 8 (d := dd "raised_in" 18) rfl, He.glo_ok X G (c.2.fact 8 (f := .glo "raised_in") rfl)⟩
  d_trimmed := ⟨_, c.2.def_ 9 (d := dd "trimmed" 20) rfl, He.glo_ok X G (c.2.fact 9 (f := .glo "trimmed") rfl)⟩
  d_power_in := ⟨_, c.2.def_ 10 (d := dd "power_in" 21) rfl, He.glo_ok X G (c.2.fact 10 (f := .glo "power_in") rfl)⟩
  d_back_in := ⟨_, c.2.def_ 11 (d := dd "back_in" 22) rfl, He.glo_ok X G (c.2.fact 11 (f := .glo "back_in") rfl)⟩
  d_worth_in := ⟨_, c.2.def_ 12 (d := dd "worth_in" 23) rfl, He.glo_ok X G (c.2.fact 12 (f := .glo "worth_in") rfl)⟩
  d_added_in := ⟨_, c.2.def_ 13 (d := dd "added_in" 24) rfl, He.glo_ok X G (c.2.fact 13 (f := .glo "added_in") rfl)⟩
  d_scaled_in := ⟨_, c.2.def_ 14 (d := dd "scaled_in" 25) rfl, He.glo_ok X G (c.2.fact 14 (f := .glo "scaled_in") rfl)⟩
  d_product_in := ⟨_, c.2.def_ 15 (d := dd "product_in" 26) rfl, He.glo_ok X G (c.2.fact 15 (f := .glo "product_in") rfl)⟩
  d_through_in := ⟨_, c.2.def_ 16 (d := dd "through_in" 27) rfl, He.glo_ok X G (c.2.fact 16 (f := .glo "through_in") rfl)⟩
  d_digest_in := ⟨_, c.2.def_ 17 (d := dd "digest_in" 41) rfl, He.glo_ok X G (c.2.fact 17 (f := .glo "digest_in") rfl)⟩
  d_digest_layers := ⟨_, c.2.def_ 18 (d := dd "digest_layers" 42) rfl, He.glo_ok X G (c.2.fact 18 (f := .glo "digest_layers") rfl)⟩
  d_root_in := ⟨_, c.2.def_ 19 (d := dd "root_in" 43) rfl, He.glo_ok X G (c.2.fact 19 (f := .glo "root_in") rfl)⟩
  d_path_in := ⟨_, c.2.def_ 20 (d := dd "path_in" 44) rfl, He.glo_ok X G (c.2.fact 20 (f := .glo "path_in") rfl)⟩
  d_root_by_path_in := ⟨_, c.2.def_ 21 (d := dd "root_by_path_in" 45) rfl, He.glo_ok X G (c.2.fact 21 (f := .glo "root_by_path_in") rfl)⟩
  d_coded_row_in := ⟨_, c.2.def_ 22 (d := dd "coded_row_in" 46) rfl, He.glo_ok X G (c.2.fact 22 (f := .glo "coded_row_in") rfl)⟩
  d_coded_columns_in := ⟨_, c.2.def_ 23 (d := dd "coded_columns_in" 47) rfl, He.glo_ok X G (c.2.fact 23 (f := .glo "coded_columns_in") rfl)⟩
  d_row_through := ⟨_, c.2.def_ 24 (d := dd "row_through" 48) rfl, He.glo_ok X G (c.2.fact 24 (f := .glo "row_through") rfl)⟩
  d_shifted := ⟨_, c.2.def_ 25 (d := dd "shifted" 49) rfl, He.glo_ok X G (c.2.fact 25 (f := .glo "shifted") rfl)⟩
  d_row_of_code_in := ⟨_, c.2.def_ 26 (d := dd "row_of_code_in" 50) rfl, He.glo_ok X G (c.2.fact 26 (f := .glo "row_of_code_in") rfl)⟩
  d_near_row_in := ⟨_, c.2.def_ 27 (d := dd "near_row_in" 51) rfl, He.glo_ok X G (c.2.fact 27 (f := .glo "near_row_in") rfl)⟩
  d_mixed_row_in := ⟨_, c.2.def_ 28 (d := dd "mixed_row_in" 52) rfl, He.glo_ok X G (c.2.fact 28 (f := .glo "mixed_row_in") rfl)⟩
  d_mixed_column := ⟨_, c.2.def_ 29 (d := dd "mixed_column" 53) rfl, He.glo_ok X G (c.2.fact 29 (f := .glo "mixed_column") rfl)⟩
  d_agreeing_in := ⟨_, c.2.def_ 30 (d := dd "agreeing_in" 54) rfl, He.glo_ok X G (c.2.fact 30 (f := .glo "agreeing_in") rfl)⟩
  d_share_in_lowest := ⟨_, c.2.def_ 31 (d := dd "share_in_lowest" 55) rfl, He.glo_ok X G (c.2.fact 31 (f := .glo "share_in_lowest") rfl)⟩
  d_are_members := ⟨_, c.2.def_ 32 (d := dd "are_members" 56) rfl, He.glo_ok X G (c.2.fact 32 (f := .glo "are_members") rfl)⟩
  d_are_digest_leaves := ⟨_, c.2.def_ 33 (d := dd "are_digest_leaves" 57) rfl, He.glo_ok X G (c.2.fact 33 (f := .glo "are_digest_leaves") rfl)⟩
  d_is_row_in := ⟨_, c.2.def_ 34 (d := dd "is_row_in" 58) rfl, He.glo_ok X G (c.2.fact 34 (f := .glo "is_row_in") rfl)⟩
  d_are_rows_in := ⟨_, c.2.def_ 35 (d := dd "are_rows_in" 59) rfl, He.glo_ok X G (c.2.fact 35 (f := .glo "are_rows_in") rfl)⟩
  d_are_told_columns := ⟨_, c.2.def_ 36 (d := dd "are_told_columns" 60) rfl, He.glo_ok X G (c.2.fact 36 (f := .glo "are_told_columns") rfl)⟩
  d_require_members := ⟨_, c.2.def_ 37 (d := dd "require_members" 61) rfl, He.glo_ok X G (c.2.fact 37 (f := .glo "require_members") rfl)⟩
  d_require_digest_leaves := ⟨_, c.2.def_ 38 (d := dd "require_digest_leaves" 62) rfl, He.glo_ok X G (c.2.fact 38 (f := .glo "require_digest_leaves") rfl)⟩
  d_require_coded_row := ⟨_, c.2.def_ 39 (d := dd "require_coded_row" 63) rfl, He.glo_ok X G (c.2.fact 39 (f := .glo "require_coded_row") rfl)⟩
  d_require_coded_rows := ⟨_, c.2.def_ 40 (d := dd "require_coded_rows" 64) rfl, He.glo_ok X G (c.2.fact 40 (f := .glo "require_coded_rows") rfl)⟩
  d_require_factors := ⟨_, c.2.def_ 41 (d := dd "require_factors" 65) rfl, He.glo_ok X G (c.2.fact 41 (f := .glo "require_factors") rfl)⟩
  d_digest := ⟨_, c.2.def_ 42 (d := dd "digest" 66) rfl, He.glo_ok X G (c.2.fact 42 (f := .glo "digest") rfl)⟩
  d_tree_root := ⟨_, c.2.def_ 43 (d := dd "tree_root" 67) rfl, He.glo_ok X G (c.2.fact 43 (f := .glo "tree_root") rfl)⟩
  d_path_of := ⟨_, c.2.def_ 44 (d := dd "path_of" 68) rfl, He.glo_ok X G (c.2.fact 44 (f := .glo "path_of") rfl)⟩
  d_root_by_path := ⟨_, c.2.def_ 45 (d := dd "root_by_path" 69) rfl, He.glo_ok X G (c.2.fact 45 (f := .glo "root_by_path") rfl)⟩
  d_coded_row := ⟨_, c.2.def_ 46 (d := dd "coded_row" 70) rfl, He.glo_ok X G (c.2.fact 46 (f := .glo "coded_row") rfl)⟩
  d_coded_columns := ⟨_, c.2.def_ 47 (d := dd "coded_columns" 71) rfl, He.glo_ok X G (c.2.fact 47 (f := .glo "coded_columns") rfl)⟩
  d_row_of_code := ⟨_, c.2.def_ 48 (d := dd "row_of_code" 72) rfl, He.glo_ok X G (c.2.fact 48 (f := .glo "row_of_code") rfl)⟩
  d_near_row := ⟨_, c.2.def_ 49 (d := dd "near_row" 73) rfl, He.glo_ok X G (c.2.fact 49 (f := .glo "near_row") rfl)⟩
  d_mixed_row := ⟨_, c.2.def_ 50 (d := dd "mixed_row" 74) rfl, He.glo_ok X G (c.2.fact 50 (f := .glo "mixed_row") rfl)⟩
  d_agreeing_places := ⟨_, c.2.def_ 51 (d := dd "agreeing_places" 75) rfl, He.glo_ok X G (c.2.fact 51 (f := .glo "agreeing_places") rfl)⟩
  d_lucky_share := ⟨_, c.2.def_ 52 (d := dd "lucky_share" 76) rfl, He.glo_ok X G (c.2.fact 52 (f := .glo "lucky_share") rfl)⟩
  d__law_dice := ⟨_, c.2.def_ 53 (d := dd "_law_dice" 78) rfl, He.glo_ok X G (c.2.fact 53 (f := .glo "_law_dice") rfl)⟩
  d__law_roll := ⟨_, c.2.def_ 54 (d := dd "_law_roll" 79) rfl, He.glo_ok X G (c.2.fact 54 (f := .glo "_law_roll") rfl)⟩
  d__law_pick := ⟨_, c.2.def_ 55 (d := dd "_law_pick" 80) rfl, He.glo_ok X G (c.2.fact 55 (f := .glo "_law_pick") rfl)⟩
  d__law_row := ⟨_, c.2.def_ 56 (d := dd "_law_row" 81) rfl, He.glo_ok X G (c.2.fact 56 (f := .glo "_law_row") rfl)⟩
  d__law_po_worth := ⟨_, c.2.def_ 57 (d := dd "_law_po_worth" 82) rfl, He.glo_ok X G (c.2.fact 57 (f := .glo "_law_po_worth") rfl)⟩
  d__law_points := ⟨_, c.2.def_ 58 (d := dd "_law_points" 83) rfl, He.glo_ok X G (c.2.fact 58 (f := .glo "_law_points") rfl)⟩
  d__law_often := ⟨_, c.2.def_ 59 (d := dd "_law_often" 84) rfl, He.glo_ok X G (c.2.fact 59 (f := .glo "_law_often") rfl)⟩
  d__law_choose := ⟨_, c.2.def_ 60 (d := dd "_law_choose" 85) rfl, He.glo_ok X G (c.2.fact 60 (f := .glo "_law_choose") rfl)⟩
  d__law_known_count := ⟨_, c.2.def_ 61 (d := dd "_law_known_count" 86) rfl, He.glo_ok X G (c.2.fact 61 (f := .glo "_law_known_count") rfl)⟩
  d__law_all_right := ⟨_, c.2.def_ 62 (d := dd "_law_all_right" 87) rfl, He.glo_ok X G (c.2.fact 62 (f := .glo "_law_all_right") rfl)⟩
  d__law_word_right := ⟨_, c.2.def_ 63 (d := dd "_law_word_right" 88) rfl, He.glo_ok X G (c.2.fact 63 (f := .glo "_law_word_right") rfl)⟩
  d__law_mixed_right := ⟨_, c.2.def_ 64 (d := dd "_law_mixed_right" 89) rfl, He.glo_ok X G (c.2.fact 64 (f := .glo "_law_mixed_right") rfl)⟩
  d__law_divisor := ⟨_, c.2.def_ 65 (d := dd "_law_divisor" 90) rfl, He.glo_ok X G (c.2.fact 65 (f := .glo "_law_divisor") rfl)⟩
  d__law_tree_right := ⟨_, c.2.def_ 66 (d := dd "_law_tree_right" 91) rfl, He.glo_ok X G (c.2.fact 66 (f := .glo "_law_tree_right") rfl)⟩
  d_law := ⟨_, c.2.def_ 67 (d := dd "law" 92) rfl, He.glo_ok X G (c.2.fact 67 (f := .glo "law") rfl)⟩
end Hd
open PySem PySem.W PySem.Calls PyProof.Rows
theorem law_of {n : Nat} (S : ∀ ns : List Int, ns.length ≤ n → ∃ ρ', Hd.m_law [some (.scr ns)] = some (.bl true, ρ')) (hn : PySem.Challenge.rw_roundsums_k92_whole_codes_of_all_rows.most = some n) (hn2 : n ≤ sizeLine) : PySem.Challenge.rw_roundsums_k92_whole_codes_of_all_rows.Holds := by
  w_on; o_law
  refine HandSHeadRun.head_any (r := OpenLaw.row PySem.Challenge.rw_roundsums_k92_whole_codes_of_all_rows) (q := view (OpenLaw.row PySem.Challenge.rw_roundsums_k92_whole_codes_of_all_rows).prog [92]) (H := Hd.hk) (ob := Hd.ob) (M := 4000) (loose := Hd.names) (d := HandSHeadRun.topDef (OpenLaw.row PySem.Challenge.rw_roundsums_k92_whole_codes_of_all_rows).prog 92) (kwd := []) Hd.ob_eq
    (by kernel_rfl) (fun s => by kernel_rfl) Hd.run (by kernel_rfl) (by kernel_rfl) (by kernel_rfl) (by rfl) (by first | assumption | decide +kernel) (by decide +kernel) ⟨rfl, rfl, rfl, rfl, rfl, by decide +kernel⟩ ?hw ?hc
  case hw => w_witness2
  case hc =>
    refine L2.walk_ofE (l := PySem.Challenge.rw_roundsums_k92_whole_codes_of_all_rows) (n := n) (k := 9) (x := "script") (CX := L2.CX0) hn hn2 (by kernel_rfl) ⟨rfl, by decide, by decide⟩ ?F (fun _ _ _ _ z => z)
    intro w mg fa h Y G hmg0
    obtain ⟨K, KX, c⟩ := Y
    have hmg : mg ("law" : PySem.Str) = some (.ref fa) := by
      have e : (HandSHeadRun.topDef (OpenLaw.row PySem.Challenge.rw_roundsums_k92_whole_codes_of_all_rows).prog 92).name = ("law" : PySem.Str) := by kernel_rfl
      rw [← e]
      exact hmg0
    have F := Hd.facts KX G c
    obtain ⟨f, ⟨fd, FD⟩, gl⟩ := F.d_law
    have e := hmg.symm.trans gl
    cases e
    have b := L2.FunD.bindsA (ps := ["script"]) FD fun _ _ _ _ _ _ us hl => match us, hl with | [_], _ => rfl
    exact ⟨K, fd, _, KX, fun s v => b s [v] rfl, fun H a ns hl _ hS => PL.script_sp (S ns hl) hS, fun base _ _ => Hd.ok_law F FD⟩


theorem PySem.Challenge.cw_roundsums_k92_whole_codes_of_all_rows_holds : PySem.Challenge.rw_roundsums_k92_whole_codes_of_all_rows.Holds := by
  exact law_of (n := 63) (fun ns _ => Hd.sem_law ns) rfl (by decide)
