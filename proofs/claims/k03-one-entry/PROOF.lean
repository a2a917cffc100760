import PyProof.Rows.All
import Wide.All
import OpenK.AllK
import Wide.FinOn
import KE.KStateDown
import HandS.ForMost
import HandS.ForExc
import HandS.Defaults
import HandS.Property
import HandS.HeadHook1
import HandS.HeadHook2
import KE.KTupSum
import HandS.ExcCtx
import HandS.Style
import HandS.IsInst
import HandS.Text
import HandS.Iter
import HandS.Zip
import HandS.CallSlots
import HandS.HotCalls
import HandS.TryMany
import HandS.ExcInit
import HandS.ExcField
import HandS.ExcIs
import HandS.Head0
import HandS.Head1
import HandS.Head2
import HandS.HeadEnd
import HandS.ClsMeth
import HandS.SortInts
import HandS.Ends
import HandS.SlotsOwn
import KE.KOpsOwn
import HandS.Conv
import PySem.Challenge.RW_datelessrolls_k03_one_entry
set_option Elab.async false
set_option linter.all false
set_option maxRecDepth 100000
set_option maxHeartbeats 0
/-! # MV: mutable value semantics over the hand layer. Values, ownership, the relation to the abstract heap. -/
namespace MV
open PySem PySem.Spec PyProof.Rows L2
/-- a value as data -/
inductive Vl where
  | non | bl (b : Bool) | int (i : Int) | str (s : Str)
  | lst (xs : List Vl) | tup (xs : List Vl)
  | ins (c : Str) (fs : List (Str × Vl))
  | scr (ns : List Int)
/-- how a reference is held: own, a view of an own one, borrowed, frozen -/
inductive Md where
  | own | io | tmp | bor | shr
  deriving DecidableEq
structure Sv where
  m : Md
  d : Vl
abbrev En := List (Option Sv)
def isSc : Vl → Bool
  | .non => true
  | .bl _ => true
  | .int _ => true
  | .str _ => true
  | _ => false
def mk (m : Md) (d : Vl) : Sv := if isSc d then ⟨.shr, d⟩ else ⟨m, d⟩
/-- the kids of a list held so -/
def Md.kid : Md → Md
  | .bor => .bor
  | _ => .shr
/-! ### representation -/
mutual
def Rep (K : PySem.W.Frag) (G : Hp) : Vl → V → Prop
  | .non, v => v = .non
  | .bl b, v => v = .bl b
  | .int i, v => v = .int i
  | .str s, v => v = .str s
  | .lst xs, v => ∃ a vs, v = .ref a ∧ G a = some (.lst vs) ∧ RepL K G xs vs
  | .tup xs, v => ∃ a vs, v = .ref a ∧ G a = some (.tup vs) ∧ RepL K G xs vs
  | .ins c fs, v => ∃ a dx ws, v = .ref a ∧ G a = some (.ins (He.ga K c) dx ws) ∧ RepF K G fs ws
  | .scr ns, v => ∃ a, v = .ref a ∧ SqL K G a (ns.map V.int)
def RepL (K : PySem.W.Frag) (G : Hp) : List Vl → List V → Prop
  | [], vs => vs = []
  | x :: xs, vs => ∃ v r, vs = v :: r ∧ Rep K G x v ∧ RepL K G xs r
def RepF (K : PySem.W.Frag) (G : Hp) : List (Str × Vl) → List (Str × V) → Prop
  | [], ws => ws = []
  | (f, x) :: xs, ws => ∃ v r, ws = (f, v) :: r ∧ Rep K G x v ∧ RepF K G xs r
end
abbrev Sub (G G' : Hp) : Prop := ∀ b o, G b = some o → G' b = some o
mutual
theorem Rep.mono {K : PySem.W.Frag} {G G' : Hp} (s : Sub G G') : ∀ {d : Vl} {v : V}, Rep K G d v → Rep K G' d v
  | .non, _, h => h
  | .bl _, _, h => h
  | .int _, _, h => h
  | .str _, _, h => h
  | .lst xs, v, ⟨a, vs, e, g, r⟩ => ⟨a, vs, e, s _ _ g, RepL.mono s r⟩
  | .tup xs, v, ⟨a, vs, e, g, r⟩ => ⟨a, vs, e, s _ _ g, RepL.mono s r⟩
  | .ins c fs, v, ⟨a, dx, ws, e, g, r⟩ => ⟨a, dx, ws, e, s _ _ g, RepF.mono s r⟩
  | .scr ns, v, ⟨a, e, g⟩ => ⟨a, e, g.elim (fun h => .inl (h.elim (fun h => .inl (s _ _ h)) fun ⟨o, h⟩ => .inr ⟨o, s _ _ h⟩)) .inr⟩
theorem RepL.mono {K : PySem.W.Frag} {G G' : Hp} (s : Sub G G') : ∀ {xs : List Vl} {vs : List V}, RepL K G xs vs → RepL K G' xs vs
  | [], _, h => h
  | x :: xs, _, ⟨v, r, e, h, t⟩ => ⟨v, r, e, Rep.mono s h, RepL.mono s t⟩
theorem RepF.mono {K : PySem.W.Frag} {G G' : Hp} (s : Sub G G') : ∀ {xs : List (Str × Vl)} {vs : List (Str × V)}, RepF K G xs vs → RepF K G' xs vs
  | [], _, h => h
  | (f, x) :: xs, _, ⟨v, r, e, h, t⟩ => ⟨v, r, e, Rep.mono s h, RepF.mono s t⟩
end
section
variable {K : PySem.W.Frag} {G G' : Hp}
theorem Rep.sc {d : Vl} {v : V} (h : Rep K G d v) (s : isSc d = true) : Rep K G' d v := by
  cases d <;> first | exact h | cases s
theorem RepL.len : ∀ {xs : List Vl} {vs : List V}, RepL K G xs vs → vs.length = xs.length
  | [], _, h => by rw [show _ = [] from h]; rfl
  | x :: xs, _, ⟨v, r, e, _, t⟩ => by rw [e, List.length_cons, List.length_cons, RepL.len t]
theorem RepL.get : ∀ {xs : List Vl} {vs : List V} {i : Nat} {x : Vl}, RepL K G xs vs → xs[i]? = some x → ∃ v, vs[i]? = some v ∧ Rep K G x v
  | [], _, _, _, _, e => by simp at e
  | y :: xs, _, 0, x, ⟨v, r, e, h, t⟩, q => by
    simp at q; subst q
    exact ⟨v, by rw [e]; rfl, h⟩
  | y :: xs, _, i + 1, x, ⟨v, r, e, h, t⟩, q => by
    obtain ⟨u, h1, h2⟩ := RepL.get (i := i) t (by simpa using q)
    exact ⟨u, by rw [e]; simpa using h1, h2⟩
theorem RepL.nil : RepL K G [] [] := rfl
theorem RepL.cons {x : Vl} {v : V} {xs : List Vl} {vs : List V} (h : Rep K G x v) (t : RepL K G xs vs) : RepL K G (x :: xs) (v :: vs) := ⟨v, vs, rfl, h, t⟩
theorem RepL.app : ∀ {xs ys : List Vl} {vs ws : List V}, RepL K G xs vs → RepL K G ys ws → RepL K G (xs ++ ys) (vs ++ ws)
  | [], _, _, _, h, k => by rw [show _ = [] from h]; exact k
  | x :: xs, _, _, _, ⟨v, r, e, h, t⟩, k => by rw [e]; exact ⟨v, r ++ _, rfl, h, RepL.app t k⟩
theorem RepL.take : ∀ (n : Nat) {xs : List Vl} {vs : List V}, RepL K G xs vs → RepL K G (xs.take n) (vs.take n)
  | 0, _, _, _ => rfl
  | n + 1, [], _, h => by rw [show _ = [] from h]; rfl
  | n + 1, x :: xs, _, ⟨v, r, e, h, t⟩ => by rw [e]; exact ⟨v, r.take n, rfl, h, RepL.take n t⟩
theorem RepL.drop : ∀ (n : Nat) {xs : List Vl} {vs : List V}, RepL K G xs vs → RepL K G (xs.drop n) (vs.drop n)
  | 0, _, _, h => h
  | n + 1, [], _, h => by rw [show _ = [] from h]; rfl
  | n + 1, x :: xs, _, ⟨v, r, e, h, t⟩ => by rw [e]; exact RepL.drop n t
theorem RepL.set {x : Vl} {v : V} (hx : Rep K G x v) : ∀ (i : Nat) {xs : List Vl} {vs : List V}, RepL K G xs vs → RepL K G (xs.set i x) (vs.set i v)
  | _, [], _, h => by rw [show _ = [] from h]; rfl
  | 0, y :: xs, _, ⟨u, r, e, h, t⟩ => by rw [e]; exact ⟨v, r, rfl, hx, t⟩
  | i + 1, y :: xs, _, ⟨u, r, e, h, t⟩ => by rw [e]; exact ⟨u, r.set i v, rfl, h, RepL.set hx i t⟩
theorem RepL.eraseIdx : ∀ (i : Nat) {xs : List Vl} {vs : List V}, RepL K G xs vs → RepL K G (xs.eraseIdx i) (vs.eraseIdx i)
  | _, [], _, h => by rw [show _ = [] from h]; rfl
  | 0, y :: xs, _, ⟨u, r, e, h, t⟩ => by rw [e]; exact t
  | i + 1, y :: xs, _, ⟨u, r, e, h, t⟩ => by rw [e]; exact ⟨u, r.eraseIdx i, rfl, h, RepL.eraseIdx i t⟩
theorem RepL.dropLast {xs : List Vl} {vs : List V} (h : RepL K G xs vs) : RepL K G xs.dropLast vs.dropLast := by
  rw [List.dropLast_eq_take, List.dropLast_eq_take, h.len]
  exact h.take _
theorem RepL.rev : ∀ {xs : List Vl} {vs : List V}, RepL K G xs vs → RepL K G xs.reverse vs.reverse
  | [], _, h => by rw [show _ = [] from h]; rfl
  | x :: xs, _, ⟨v, r, e, h, t⟩ => by rw [e, List.reverse_cons, List.reverse_cons]; exact (RepL.rev t).app (.cons h .nil)
theorem RepL.rep {xs : List Vl} {vs : List V} (h : RepL K G xs vs) : ∀ k : Nat, RepL K G (List.replicate k xs).flatten (List.replicate k vs).flatten
  | 0 => rfl
  | k + 1 => by rw [List.replicate_succ, List.replicate_succ, List.flatten_cons, List.flatten_cons]; exact h.app (RepL.rep h k)
theorem RepL.scs : ∀ {xs : List Vl} {vs : List V}, RepL K G xs vs → xs.all isSc = true → RepL K G' xs vs
  | [], _, h, _ => h
  | x :: xs, _, ⟨v, r, e, h, t⟩, q => by
    rw [List.all_cons, Bool.and_eq_true] at q
    exact ⟨v, r, e, h.sc q.1, RepL.scs t q.2⟩
theorem RepF.look {f : Str} {x : Vl} : ∀ {xs : List (Str × Vl)} {ws : List (Str × V)}, RepF K G xs ws → xs.lookup f = some x → ∃ v, ws.lookup f = some v ∧ Rep K G x v
  | [], _, _, q => by simp at q
  | (g, y) :: xs, _, ⟨v, r, e, h, t⟩, q => by
    rw [e]
    rw [List.lookup_cons] at q ⊢
    cases c : f == g with
    | true => rw [c] at q; exact ⟨v, rfl, by rw [← Option.some.inj q]; exact h⟩
    | false => rw [c] at q; exact RepF.look t q
theorem RepF.lookN {f : Str} : ∀ {xs : List (Str × Vl)} {ws : List (Str × V)}, RepF K G xs ws → xs.lookup f = none → ws.lookup f = none
  | [], _, h, _ => by rw [show _ = [] from h]; rfl
  | (g, y) :: xs, _, ⟨v, r, e, h, t⟩, q => by
    rw [e]
    rw [List.lookup_cons] at q ⊢
    cases c : f == g with
    | true => rw [c] at q; cases q
    | false => rw [c] at q; exact RepF.lookN t q
theorem RepF.len : ∀ {xs : List (Str × Vl)} {vs : List (Str × V)}, RepF K G xs vs → vs.length = xs.length
  | [], _, h => by rw [show _ = [] from h]; rfl
  | (f, x) :: xs, _, ⟨v, r, e, _, t⟩ => by rw [e, List.length_cons, List.length_cons, RepF.len t]
def putFV (f : Str) (v : Vl) : List (Str × Vl) → List (Str × Vl)
  | [] => [(f, v)]
  | (g, w) :: r => if g = f then (g, v) :: r else (g, w) :: putFV f v r
theorem RepF.put {f : Str} {x : Vl} {v : V} (hx : Rep K G x v) : ∀ {xs : List (Str × Vl)} {ws : List (Str × V)}, RepF K G xs ws → RepF K G (putFV f x xs) (putF f v ws)
  | [], _, h => by rw [show _ = [] from h]; exact ⟨v, [], rfl, hx, rfl⟩
  | (g, y) :: xs, _, ⟨u, r, e, h, t⟩ => by
    rw [e]
    show RepF K G (if g = f then (g, x) :: xs else (g, y) :: putFV f x xs) (if g = f then (g, v) :: r else (g, u) :: putF f v r)
    by_cases c : g = f
    · rw [if_pos c, if_pos c]; exact ⟨v, r, rfl, hx, t⟩
    · rw [if_neg c, if_neg c]; exact ⟨u, _, rfl, h, RepF.put hx t⟩
theorem repL_ints : ∀ {ns : List Int} {vs : List V}, RepL K G (ns.map Vl.int) vs → vs = ns.map V.int
  | [], _, h => h
  | n :: ns, _, ⟨v, r, e, h, t⟩ => by
    have h' : v = .int n := h
    rw [e, h', repL_ints t]; rfl
theorem repL_of_ints : ∀ (ns : List Int), RepL K G (ns.map Vl.int) (ns.map V.int)
  | [] => rfl
  | n :: ns => ⟨.int n, _, rfl, rfl, repL_of_ints ns⟩
end
end MV
namespace MV
open PySem PySem.Spec PyProof.Rows L2
abbrev St := L2.St
/-- exceptions have no context here: they are raised where none is handled -/
abbrev Takes (X : Cx) (W : WX) : Prop := L2N.Takes X W
theorem takes_none5 {X : Cx} : Takes X (fun _ _ _ _ => False) := fun _ _ ⟨_, _, _, _, _, _, _, _, _, _, _, _, _, _, _, _, w⟩ => w.elim
theorem passAt {X : Cx} {W : WX} (tk : Takes X W) (σ : St) : PassesAt (L2N.CX X.prog X.w) X σ (WE W σ) := L2N.passAt tk σ
/-- a def's entry: its heap, what was frozen there, the addresses that it may change -/
structure Jx where
  K : PySem.W.Frag
  H0 : Hp
  F0 : Hp
  ios : List (Nat × Addr)
  fx : Option (Nat × V)
abbrev Jx.io (J : Jx) : List Addr := J.ios.map (·.2)
theorem lookup_io {l : List (Nat × Addr)} {i : Nat} {a : Addr} (h : l.lookup i = some a) : a ∈ l.map (·.2) := by
  induction l with
  | nil => cases h
  | cons x l ih =>
    rw [List.lookup_cons] at h
    cases c : i == x.1 with
    | true => rw [c] at h; rw [← Option.some.inj h]; exact List.mem_cons_self
    | false => rw [c] at h; exact List.mem_cons_of_mem _ (ih h)
abbrev Ow := Sum Nat Nat
/-- what an owned object holds: its kids are frozen -/
def OwnO (K : PySem.W.Frag) (F : Hp) : Vl → HO → Prop
  | .lst xs, o => ∃ vs, o = .lst vs ∧ RepL K F xs vs
  | .ins c fs, o => ∃ dx ws, o = .ins (He.ga K c) dx ws ∧ RepF K F fs ws
  | _, _ => False
/-- a value that is held so; ow: by whom -/
def SR (J : Jx) (F B H : Hp) (O : Addr → Option Ow) (ow : Ow) (s : Sv) (v : V) : Prop := match s.m with
  | .shr => Rep J.K F s.d v
  | .bor => Rep J.K B s.d v
  | .tmp => ∃ a o, v = .ref a ∧ H a = some o ∧ OwnO J.K F s.d o ∧ ∃ i, O a = some (.inl i)
  | .own => ∃ a o, v = .ref a ∧ H a = some o ∧ OwnO J.K F s.d o ∧ O a = some ow ∧ B a = none ∧ J.H0 a = none
  | .io => ∃ a o, v = .ref a ∧ H a = some o ∧ OwnO J.K F s.d o ∧ O a = some ow ∧ B a = none ∧ ∃ i, ow = .inl i ∧ J.ios.lookup i = some a
def TOk (J : Jx) (F B H : Hp) (O : Addr → Option Ow) : List (Sv × V) → Prop
  | [] => True
  | (s, v) :: t => SR J F B H O (.inr t.length) s v ∧ TOk J F B H O t
structure Base (J : Jx) (F B H : Hp) : Prop where
  fb : Sub F B
  bh : Sub B H
  f0 : Sub J.F0 F
  new : ∀ b o, F b = some o → J.F0 b = some o ∨ J.H0 b = none
  keep : ∀ b o, J.H0 b = some o → b ∉ J.io → H b = some o
  iot : ∀ b, b ∈ J.io → ∃ o, H b = some o
/-- the slot is not the one that stays as it is -/
def NF (J : Jx) (i : Nat) : Prop := ∀ v, J.fx ≠ some (i, v)
theorem nf_none {J : Jx} {i : Nat} (h : J.fx = none) : NF J i := fun v e => by rw [h] at e; cases e
theorem nf_ne {J : Jx} {i k : Nat} {u : V} (h : J.fx = some (k, u)) (n : (k == i) = false) : NF J i := fun v e => by
  rw [h] at e
  cases e
  simp at n
theorem nfs_ne {J : Jx} {is : List Nat} {k : Nat} {u : V} (h : J.fx = some (k, u)) (n : is.contains k = false) : ∀ i ∈ is, NF J i := fun i hi v e => by
  rw [h] at e
  cases e
  rw [List.contains_iff_mem.mpr hi] at n
  cases n
structure LenOk (J : Jx) (ρ : En) (σ : St) : Prop where
  eq : ρ.length = σ.length
  fx : ∀ i v, J.fx = some (i, v) → σ[i]? = some (some v)
theorem LenOk.of {J : Jx} {ρ ρ' : En} {σ : St} (h : LenOk J ρ σ) (e : ρ'.length = ρ.length) : LenOk J ρ' σ := ⟨e.trans h.eq, h.fx⟩
theorem LenOk.set {J : Jx} {ρ : En} {σ : St} {i : Nat} {x : Option Sv} (h : LenOk J ρ σ) : LenOk J (ρ.set i x) σ := h.of List.length_set
theorem LenOk.set2 {J : Jx} {ρ : En} {σ : St} {i : Nat} {x : Option Sv} {y : Option V} (h : LenOk J ρ σ) (n : NF J i) : LenOk J (ρ.set i x) (σ.set i y) := ⟨by rw [List.length_set, List.length_set]; exact h.eq, fun j v e => by
  by_cases c : i = j
  · subst c; exact absurd e (n v)
  · rw [List.getElem?_set_ne c]; exact h.fx j v e⟩
structure IvW (J : Jx) (F B : Hp) (O : Addr → Option Ow) (ρ : En) (τ : List (Sv × V)) (σ : St) (H : Hp) : Prop where
  base : Base J F B H
  len : LenOk J ρ σ
  slot : ∀ (i : Nat) s, ρ[i]? = some (some s) → s.m ≠ .tmp ∧ ∃ v, σ[i]? = some (some v) ∧ SR J F B H O (.inl i) s v
  temp : TOk J F B H O τ
def Iv (J : Jx) (ρ : En) (τ : List (Sv × V)) (σ : St) (H : Hp) : Prop := ∃ F B O, IvW J F B O ρ τ σ H
def NoTmp (τ : List (Sv × V)) : Prop := ∀ x ∈ τ, x.1.m ≠ .tmp
section
variable {J : Jx} {F B H : Hp} {O : Addr → Option Ow} {ρ : En} {τ : List (Sv × V)} {σ : St} {ow : Ow} {s : Sv} {v : V}
theorem OwnO.mono {K : PySem.W.Frag} {F F' : Hp} (q : Sub F F') {d : Vl} {o : HO} (h : OwnO K F d o) : OwnO K F' d o := by
  cases d with
  | lst xs => obtain ⟨vs, e, r⟩ := h; exact ⟨vs, e, r.mono q⟩
  | ins c fs => obtain ⟨dx, ws, e, r⟩ := h; exact ⟨dx, ws, e, r.mono q⟩
  | _ => exact h.elim
theorem OwnO.rep {K : PySem.W.Frag} {F G : Hp} (q : Sub F G) {d : Vl} {o : HO} {a : Addr} (h : OwnO K F d o) (g : G a = some o) : Rep K G d (.ref a) := by
  cases d with
  | lst xs => obtain ⟨vs, e, r⟩ := h; subst e; exact ⟨a, vs, rfl, g, r.mono q⟩
  | ins c fs => obtain ⟨dx, ws, e, r⟩ := h; subst e; exact ⟨a, dx, ws, rfl, g, r.mono q⟩
  | _ => exact h.elim
theorem OwnO.nsc {K : PySem.W.Frag} {F : Hp} {d : Vl} {o : HO} (h : OwnO K F d o) : isSc d = false := by
  cases d <;> first | rfl | exact h.elim
/-- whatever the mode: it can be read -/
theorem SR.rep (b : Base J F B H) (h : SR J F B H O ow s v) : Rep J.K H s.d v := by
  obtain ⟨m, d⟩ := s
  cases m with
  | shr => exact Rep.mono (fun _ _ e => b.bh _ _ (b.fb _ _ e)) h
  | bor => exact Rep.mono b.bh h
  | tmp => obtain ⟨a, o, e, g, r, _⟩ := h; subst e; exact r.rep (fun _ _ e => b.bh _ _ (b.fb _ _ e)) g
  | own => obtain ⟨a, o, e, g, r, _⟩ := h; subst e; exact r.rep (fun _ _ e => b.bh _ _ (b.fb _ _ e)) g
  | io => obtain ⟨a, o, e, g, r, _⟩ := h; subst e; exact r.rep (fun _ _ e => b.bh _ _ (b.fb _ _ e)) g
/-- a scalar is a scalar -/
theorem SR.sc {d : Vl} (h : Rep J.K H d v) (q : isSc d = true) : SR J F B H O ow ⟨.shr, d⟩ v := Rep.sc (G' := F) h q
theorem SR.mk {m : Md} {d : Vl} (h : SR J F B H O ow ⟨m, d⟩ v) (b : Base J F B H) : SR J F B H O ow (mk m d) v := by
  unfold MV.mk
  split
  · rename_i q
    exact SR.sc (h.rep b) q
  · exact h
/-- the kids of what is held -/
def reg (F B : Hp) (m : Md) : Hp := match m with
  | .bor => B
  | _ => F
theorem reg_kid {d : Vl} {m : Md} (h : Rep J.K (reg F B m) d v) (H' : Hp) : SR J F B H' O ow ⟨m.kid, d⟩ v := by
  cases m <;> exact h
theorem SR.list {m : Md} {xs : List Vl} (b : Base J F B H) (h : SR J F B H O ow ⟨m, .lst xs⟩ v) : ∃ a vs, v = .ref a ∧ H a = some (.lst vs) ∧ RepL J.K (reg F B m) xs vs := by
  cases m with
  | shr => obtain ⟨a, vs, e, g, r⟩ := h; exact ⟨a, vs, e, b.bh _ _ (b.fb _ _ g), r⟩
  | bor => obtain ⟨a, vs, e, g, r⟩ := h; exact ⟨a, vs, e, b.bh _ _ g, r⟩
  | tmp => obtain ⟨a, o, e, g, ⟨vs, eo, r⟩, _⟩ := h; subst eo; exact ⟨a, vs, e, g, r⟩
  | own => obtain ⟨a, o, e, g, ⟨vs, eo, r⟩, _⟩ := h; subst eo; exact ⟨a, vs, e, g, r⟩
  | io => obtain ⟨a, o, e, g, ⟨vs, eo, r⟩, _⟩ := h; subst eo; exact ⟨a, vs, e, g, r⟩
theorem SR.tup {m : Md} {xs : List Vl} (b : Base J F B H) (h : SR J F B H O ow ⟨m, .tup xs⟩ v) : ∃ a vs, v = .ref a ∧ H a = some (.tup vs) ∧ RepL J.K (reg F B m) xs vs := by
  cases m with
  | shr => obtain ⟨a, vs, e, g, r⟩ := h; exact ⟨a, vs, e, b.bh _ _ (b.fb _ _ g), r⟩
  | bor => obtain ⟨a, vs, e, g, r⟩ := h; exact ⟨a, vs, e, b.bh _ _ g, r⟩
  | tmp => obtain ⟨a, o, e, g, r, _⟩ := h; exact r.elim
  | own => obtain ⟨a, o, e, g, r, _⟩ := h; exact r.elim
  | io => obtain ⟨a, o, e, g, r, _⟩ := h; exact r.elim
theorem SR.ins {m : Md} {c : Str} {fs : List (Str × Vl)} (b : Base J F B H) (h : SR J F B H O ow ⟨m, .ins c fs⟩ v) : ∃ a dx ws, v = .ref a ∧ H a = some (.ins (He.ga J.K c) dx ws) ∧ RepF J.K (reg F B m) fs ws := by
  cases m with
  | shr => obtain ⟨a, dx, ws, e, g, r⟩ := h; exact ⟨a, dx, ws, e, b.bh _ _ (b.fb _ _ g), r⟩
  | bor => obtain ⟨a, dx, ws, e, g, r⟩ := h; exact ⟨a, dx, ws, e, b.bh _ _ g, r⟩
  | tmp => obtain ⟨a, o, e, g, ⟨dx, ws, eo, r⟩, _⟩ := h; subst eo; exact ⟨a, dx, ws, e, g, r⟩
  | own => obtain ⟨a, o, e, g, ⟨dx, ws, eo, r⟩, _⟩ := h; subst eo; exact ⟨a, dx, ws, e, g, r⟩
  | io => obtain ⟨a, o, e, g, ⟨dx, ws, eo, r⟩, _⟩ := h; subst eo; exact ⟨a, dx, ws, e, g, r⟩
theorem SR.int {m : Md} {i : Int} (b : Base J F B H) (h : SR J F B H O ow ⟨m, .int i⟩ v) : v = .int i := h.rep b
theorem TOk.imp {F' B' H' : Hp} {O' : Addr → Option Ow} : ∀ {τ : List (Sv × V)}, TOk J F B H O τ → (∀ s v k, (s, v) ∈ τ → k < τ.length → SR J F B H O (.inr k) s v → SR J F' B' H' O' (.inr k) s v) → TOk J F' B' H' O' τ
  | [], _, _ => trivial
  | (s, v) :: t, ⟨h, r⟩, f => ⟨f s v t.length List.mem_cons_self (Nat.lt_succ_self _) h, TOk.imp r fun s v k m l => f s v k (List.mem_cons_of_mem _ m) (Nat.lt_succ_of_lt l)⟩
/-- all is kept, a temporary is put on top -/
theorem IvW.push (I : IvW J F B O ρ τ σ H) (h : SR J F B H O (.inr τ.length) s v) : Iv J ρ ((s, v) :: τ) σ H := ⟨F, B, O, I.base, I.len, I.slot, h, I.temp⟩
theorem IvW.pushSc {d : Vl} (I : IvW J F B O ρ τ σ H) (h : Rep J.K H d v) (q : isSc d = true) : Iv J ρ ((⟨.shr, d⟩, v) :: τ) σ H := I.push (SR.sc h q)
/-- the temporaries on top are dropped -/
theorem IvW.drop1 {x : Sv × V} (I : IvW J F B O ρ (x :: τ) σ H) : IvW J F B O ρ τ σ H := ⟨I.base, I.len, I.slot, I.temp.2⟩
theorem Iv.drop1 {x : Sv × V} (I : Iv J ρ (x :: τ) σ H) : Iv J ρ τ σ H := let ⟨F, B, O, I⟩ := I; ⟨F, B, O, I.drop1⟩
theorem Iv.drop2 {x y : Sv × V} (I : Iv J ρ (x :: y :: τ) σ H) : Iv J ρ τ σ H := I.drop1.drop1
theorem IvW.top (I : IvW J F B O ρ ((s, v) :: τ) σ H) : SR J F B H O (.inr τ.length) s v := I.temp.1
theorem upd_sub {G : Hp} {p : Addr} {o : HO} (n : G p = none) : Sub G (upd G p o) := fun b u e => by
  rw [upd_ne (ne_of_none e n)]; exact e
theorem Base.freeH0 (b : Base J F B H) {p : Addr} (np : H p = none) : J.H0 p = none := by
  cases e : J.H0 p with
  | none => rfl
  | some u =>
    by_cases q : p ∈ J.io
    · obtain ⟨u, z⟩ := b.iot p q; rw [np] at z; cases z
    · rw [b.keep _ _ e q] at np; cases np
theorem Base.freeB (b : Base J F B H) {p : Addr} (np : H p = none) : B p = none := by
  cases e : B p with
  | none => rfl
  | some u => rw [b.bh _ _ e] at np; cases np
theorem Base.freeF (b : Base J F B H) {p : Addr} (np : B p = none) : F p = none := by
  cases e : F p with
  | none => rfl
  | some u => rw [b.fb _ _ e] at np; cases np
/-- a new own object on top -/
theorem IvW.new {d : Vl} {o : HO} {p : Addr} (I : IvW J F B O ρ τ σ H) (np : H p = none) (r : OwnO J.K F d o) : Iv J ρ ((⟨.own, d⟩, .ref p) :: τ) σ (upd H p o) := by
  have nB := I.base.freeB np
  have hs := upd_sub (o := o) np
  have hO : ∀ (ow : Ow) s v, SR J F B H O ow s v → SR J F B (upd H p o) (fun b => if b = p then some (.inr τ.length) else O b) ow s v := fun ow s v h => by
    obtain ⟨m, d⟩ := s
    cases m with
    | shr => exact h
    | bor => exact h
    | tmp => obtain ⟨a, u, e, g, r, j, q⟩ := h; exact ⟨a, u, e, hs _ _ g, r, j, (if_neg (ne_of_none g np)).trans q⟩
    | own =>
      obtain ⟨a, u, e, g, r, q, n, z⟩ := h
      exact ⟨a, u, e, hs _ _ g, r, (if_neg (ne_of_none g np)).trans q, n, z⟩
    | io =>
      obtain ⟨a, u, e, g, r, q, n, z⟩ := h
      exact ⟨a, u, e, hs _ _ g, r, (if_neg (ne_of_none g np)).trans q, n, z⟩
  refine ⟨F, B, fun b => if b = p then some (.inr τ.length) else O b, ⟨I.base.fb, fun b u e => hs _ _ (I.base.bh b u e), I.base.f0, I.base.new, fun b u e q => hs _ _ (I.base.keep b u e q), fun b e => (let ⟨u, q⟩ := I.base.iot b e; ⟨u, hs _ _ q⟩)⟩, I.len, fun i s e => ?_, ?_, ?_⟩
  · obtain ⟨t, v, e1, h⟩ := I.slot i s e
    exact ⟨t, v, e1, hO _ _ _ h⟩
  · exact ⟨p, o, rfl, upd_same, r, if_pos rfl, nB, I.base.freeH0 np⟩
  · exact I.temp.imp fun s v k _ _ h => hO _ _ _ h
/-- F and B grow at p, H may change at p: what no one owns at p -/
theorem SR.grow {o : HO} {p : Addr} {H' : Hp} {ow : Ow} {s : Sv} {v : V} (nF : F p = none) (nB : B p = none) (h : SR J F B H O ow s v) (hh : ∀ a u, H a = some u → H' a = some u) (hp : ∀ a u, H a = some u → O a = some ow → a ≠ p) : SR J (upd F p o) (upd B p o) H' O ow s v := by
  have hF := upd_sub (o := o) nF
  have hB := upd_sub (o := o) nB
  obtain ⟨m, d⟩ := s
  cases m with
  | shr => exact Rep.mono hF h
  | bor => exact Rep.mono hB h
  | tmp => obtain ⟨a, u, e, g, r, j, q⟩ := h; exact ⟨a, u, e, hh _ _ g, r.mono hF, j, q⟩
  | own =>
    obtain ⟨a, u, e, g, r, q, n, z⟩ := h
    exact ⟨a, u, e, hh _ _ g, r.mono hF, q, by rw [upd_ne (hp a u g q)]; exact n, z⟩
  | io =>
    obtain ⟨a, u, e, g, r, q, n, z⟩ := h
    exact ⟨a, u, e, hh _ _ g, r.mono hF, q, by rw [upd_ne (hp a u g q)]; exact n, z⟩
theorem Base.grow {o : HO} {p : Addr} {H' : Hp} (b : Base J F B H) (hh : ∀ a u, H a = some u → H' a = some u) (hp : H' p = some o) (h0 : J.H0 p = none) (nF : F p = none) (nB : B p = none) : Base J (upd F p o) (upd B p o) H' := by
  refine ⟨fun b' u e => ?_, fun b' u e => ?_, fun b' u e => upd_sub nF _ _ (b.f0 b' u e), fun b' u e => ?_, fun b' u e q => hh _ _ (b.keep b' u e q), fun b' e => (let ⟨u, q⟩ := b.iot b' e; ⟨u, hh _ _ q⟩)⟩
  · by_cases c : b' = p
    · subst c; rw [upd_same] at e ⊢; exact e
    · rw [upd_ne c] at e ⊢; exact b.fb b' u e
  · by_cases c : b' = p
    · subst c; rw [upd_same] at e; cases e; exact hp
    · rw [upd_ne c] at e; exact hh _ _ (b.bh b' u e)
  · by_cases c : b' = p
    · subst c; exact .inr h0
    · rw [upd_ne c] at e; exact b.new b' u e
/-- a new frozen object on top -/
theorem IvW.newF {d : Vl} {o : HO} {p : Addr} (I : IvW J F B O ρ τ σ H) (np : H p = none) (r : Rep J.K (upd F p o) d (.ref p)) : Iv J ρ ((⟨.shr, d⟩, .ref p) :: τ) σ (upd H p o) := by
  have nB := I.base.freeB np
  have nF := I.base.freeF nB
  have hs := upd_sub (o := o) np
  refine ⟨upd F p o, upd B p o, O, I.base.grow hs upd_same (I.base.freeH0 np) nF nB, I.len, fun i s e => ?_, r, ?_⟩
  · obtain ⟨t, v, e1, h⟩ := I.slot i s e
    exact ⟨t, v, e1, h.grow nF nB hs fun a u g _ => ne_of_none g np⟩
  · exact I.temp.imp fun s v k _ _ h => h.grow nF nB hs fun a u g _ => ne_of_none g np
/-- what is owned on top is frozen -/
theorem IvW.frz {d : Vl} {v : V} (I : IvW J F B O ρ ((⟨.own, d⟩, v) :: τ) σ H) : Iv J ρ ((⟨.shr, d⟩, v) :: τ) σ H := by
  obtain ⟨a, o, e, g, r, q, n, z⟩ := I.top
  have nF := I.base.freeF n
  have ne : ∀ ow, ow ≠ .inr τ.length → ∀ b u, H b = some u → O b = some ow → b ≠ a := fun ow h b u _ y x => by
    subst x; rw [q] at y; exact h (Option.some.inj y).symm
  refine ⟨upd F a o, upd B a o, O, I.base.grow (fun _ _ e => e) g z nF n, I.len, fun i s e => ?_, ?_, ?_⟩
  · obtain ⟨t, v, e1, h⟩ := I.slot i s e
    exact ⟨t, v, e1, h.grow nF n (fun _ _ e => e) (ne _ fun y => nomatch y)⟩
  · subst e
    exact (r.mono (upd_sub nF)).rep (fun _ _ e => e) upd_same
  · exact I.drop1.temp.imp fun s v k _ hk h => h.grow nF n (fun _ _ e => e) (ne _ fun y => Nat.ne_of_lt hk (Sum.inr.inj y))
/-- a slot is frozen -/
theorem IvW.frzS {d : Vl} {i : Nat} (I : IvW J F B O ρ τ σ H) (h : ρ[i]? = some (some ⟨.own, d⟩)) : Iv J (ρ.set i (some ⟨.shr, d⟩)) τ σ H := by
  obtain ⟨_, v, e1, a, o, e, g, r, q, n, z⟩ := I.slot i _ h
  have nF := I.base.freeF n
  have ne : ∀ ow, ow ≠ .inl i → ∀ b u, H b = some u → O b = some ow → b ≠ a := fun ow h b u _ y x => by
    subst x; rw [q] at y; exact h (Option.some.inj y).symm
  refine ⟨upd F a o, upd B a o, O, I.base.grow (fun _ _ e => e) g z nF n, I.len.set, fun j s ej => ?_, ?_⟩
  · by_cases hj : i = j
    · subst hj
      have hl : i < ρ.length := (List.getElem?_eq_some_iff.mp h).1
      rw [List.getElem?_set_self hl] at ej
      cases ej
      refine ⟨(fun y => nomatch y), v, e1, ?_⟩
      subst e
      exact (r.mono (upd_sub nF)).rep (fun _ _ e => e) upd_same
    · rw [List.getElem?_set_ne hj] at ej
      obtain ⟨t, v, e2, h2⟩ := I.slot j s ej
      exact ⟨t, v, e2, h2.grow nF n (fun _ _ e => e) (ne _ fun y => hj (Sum.inl.inj y).symm)⟩
  · exact I.temp.imp fun s v k _ _ h => h.grow nF n (fun _ _ e => e) (ne _ fun y => nomatch y)
end
end MV
namespace MV
open PySem PySem.Spec PyProof.Rows L2
/-! ### results -/
inductive Rs (α : Type) where
  | ok (a : α) (ρ : En)
  | exc (c : Str) (fs : List (Str × Vl)) (ρ : En)
  | bad
def bnd {α β : Type} (r : Rs α) (k : α → En → Rs β) : Rs β := match r with
  | .ok a ρ => k a ρ
  | .exc c fs ρ => .exc c fs ρ
  | .bad => .bad
theorem bnd_ok {α β : Type} (a : α) (ρ : En) (k : α → En → Rs β) : bnd (.ok a ρ) k = k a ρ := rfl
theorem bnd_exc {α β : Type} (c : Str) (fs : List (Str × Vl)) (ρ : En) (k : α → En → Rs β) : bnd (.exc c fs ρ) k = .exc c fs ρ := rfl
theorem bnd_bad {α β : Type} (k : α → En → Rs β) : bnd .bad k = .bad := rfl
/-- an exception: its class, its own dict -/
def ErrR (K : PySem.W.Frag) (F : Hp) (c : Str) (fs : List (Str × Vl)) (cls : Value) (d : Option Addr) : Prop :=
  cls = .ref (He.ga K c) ∧ ((fs = [] ∧ d = none) ∨ ∃ dd ws, d = some dd ∧ F dd = some (.xd ws) ∧ ∀ f x, fs.lookup f = some x → ∃ v, ws.lookup f = some v ∧ Rep K F x v)
def Ix (J : Jx) (ρ : En) (c : Str) (fs : List (Str × Vl)) (σ : St) (H : Hp) (cls : Value) (d : Option Addr) : Prop :=
  ∃ F B O, IvW J F B O ρ [] σ H ∧ ErrR J.K F c fs cls d
def Out (J : Jx) (W : WX) (τ : List (Sv × V)) (σ : St) (r : Rs Sv) (Q : VK) : Prop := match r with
  | .ok s ρ => ∀ v H, Iv J ρ ((s, v) :: τ) σ H → Q v H
  | .exc c fs ρ => ∀ cls d H, Ix J ρ c fs σ H cls d → W cls d σ H
  | .bad => False
abbrev Sem1 := En → Rs Sv
def tE (J : Jx) (W : WX) (q : Bool) (f : Sem1) : TE := fun σ H Q => ∃ ρ τ, Iv J ρ τ σ H ∧ (q = true ∨ NoTmp τ) ∧ Out J W τ σ (f ρ) Q
/-- e does what f says; q: it changes nothing that stands -/
structure XE (X : Cx) (J : Jx) (W : WX) (e : Expr) (q : Bool) (f : Sem1) : Prop where
  pe : PE X e (tE J W q f)
theorem _root_.L2.PE.imp {X : Cx} {e : Expr} {t t' : TE} (h : PE X e t) (i : ∀ σ H Q, t' σ H Q → t σ H Q) : PE X e t' := ⟨fun pins s σ H Q I q => h.run pins s σ H Q I (i σ H Q q)⟩
theorem NoTmp.cons {s : Sv} {v : V} {τ : List (Sv × V)} (h : NoTmp τ) (q : s.m ≠ .tmp) : NoTmp ((s, v) :: τ) := fun x hx => by
  rcases List.mem_cons.mp hx with e | e
  · rw [e]; exact q
  · exact h x e
section
variable {X : Cx} {J : Jx} {W : WX} {e a b c : Expr} {q qa qb qc : Bool} {f fa fb fc : Sem1} {pos : Pos} {τ : List (Sv × V)} {σ : St} {H : Hp} {ρ : En}
/-! ### names, constants -/
def fVar (i : Nat) : Sem1 := fun ρ => match ρ[i]? with
  | some (some ⟨.own, d⟩) => .ok ⟨.tmp, d⟩ ρ
  | some (some ⟨.io, d⟩) => .ok ⟨.tmp, d⟩ ρ
  | some (some s) => .ok s ρ
  | _ => .bad
theorem xe_var {i : Nat} {x : Str} (hN : X.N[i]? = some x) (hv : Vis X.env.scope x) (hd : (x == ("__debug__" : Str)) = false := by decide) (hcd : (x == ("__classdict__" : Str)) = false := by decide) : XE X J W (.Name x pos) true (fVar i) := by
  refine ⟨(pe_var hN hv hd hcd).imp ?_⟩
  rintro σ H Q ⟨ρ, τ, ⟨F, B, O, I⟩, _, m⟩
  unfold fVar at m
  cases e : ρ[i]? with
  | none => rw [e] at m; exact m.elim
  | some o =>
    cases o with
    | none => rw [e] at m; exact m.elim
    | some s =>
      obtain ⟨t, v, e1, r⟩ := I.slot i s e
      refine ⟨v, e1, ?_⟩
      obtain ⟨md, d⟩ := s
      rw [e] at m
      cases md with
      | own =>
        obtain ⟨p, o, ev, g, r, q, _⟩ := r
        exact m v H (I.push (s := ⟨.tmp, d⟩) ⟨p, o, ev, g, r, i, q⟩)
      | io =>
        obtain ⟨p, o, ev, g, r, q, _⟩ := r
        exact m v H (I.push (s := ⟨.tmp, d⟩) ⟨p, o, ev, g, r, i, q⟩)
      | tmp => exact absurd rfl t
      | bor => exact m v H (I.push (s := ⟨.bor, d⟩) r)
      | shr => exact m v H (I.push (s := ⟨.shr, d⟩) r)
/-- a name is read for the last time -/
def fMv (i : Nat) : Sem1 := fun ρ => match ρ[i]? with
  | some (some ⟨.io, d⟩) => .bad
  | some (some s) => .ok s (ρ.set i none)
  | _ => .bad
theorem SR.mv {J : Jx} {F B H : Hp} {O : Addr → Option Ow} {i k : Nat} {s : Sv} {v : V} (nio : s.m ≠ .io) (nt : s.m ≠ .tmp) (h : SR J F B H O (.inl i) s v) : ∃ O' : Addr → Option Ow, SR J F B H O' (.inr k) s v ∧ ∀ a ow, O a = some ow → ow ≠ .inl i → ow ≠ .inr k → O' a = some ow := by
  obtain ⟨m, d⟩ := s
  cases m with
  | own =>
    obtain ⟨p, o, ev, g, r, qo, n, z⟩ := h
    refine ⟨fun b => if b = p then some (.inr k) else O b, ⟨p, o, ev, g, r, if_pos rfl, n, z⟩, fun a ow e h1 h2 => ?_⟩
    by_cases c : a = p
    · subst c; rw [qo] at e; exact absurd (Option.some.inj e).symm h1
    · exact (if_neg c).trans e
  | io => exact absurd rfl nio
  | tmp => exact absurd rfl nt
  | bor => exact ⟨O, h, fun a ow e _ _ => e⟩
  | shr => exact ⟨O, h, fun a ow e _ _ => e⟩
theorem SR.owner {J : Jx} {F B H : Hp} {O O' : Addr → Option Ow} {ow : Ow} {s : Sv} {v : V} (nt : s.m ≠ .tmp) (h : SR J F B H O ow s v) (f : ∀ a, O a = some ow → O' a = some ow) : SR J F B H O' ow s v := by
  obtain ⟨m, d⟩ := s
  cases m with
  | own => obtain ⟨p, o, ev, g, r, qo, z⟩ := h; exact ⟨p, o, ev, g, r, f _ qo, z⟩
  | io => obtain ⟨p, o, ev, g, r, qo, z⟩ := h; exact ⟨p, o, ev, g, r, f _ qo, z⟩
  | tmp => exact absurd rfl nt
  | bor => exact h
  | shr => exact h
theorem xe_mv {i : Nat} {x : Str} (hN : X.N[i]? = some x) (hv : Vis X.env.scope x) (hd : (x == ("__debug__" : Str)) = false := by decide) (hcd : (x == ("__classdict__" : Str)) = false := by decide) : XE X J W (.Name x pos) false (fMv i) := by
  refine ⟨(pe_var hN hv hd hcd).imp ?_⟩
  rintro σ H Q ⟨ρ, τ, ⟨F, B, O, I⟩, c, m⟩
  have nt : NoTmp τ := c.elim (fun z => nomatch z) id
  unfold fMv at m
  cases e : ρ[i]? with
  | none => rw [e] at m; exact m.elim
  | some o =>
    cases o with
    | none => rw [e] at m; exact m.elim
    | some s =>
      obtain ⟨t, v, e1, r⟩ := I.slot i s e
      refine ⟨v, e1, ?_⟩
      rw [e] at m
      have nio : s.m ≠ .io := fun y => by
        obtain ⟨md, d⟩ := s
        cases y
        exact m
      have m : Out J W τ σ (.ok s (ρ.set i none)) Q := by
        obtain ⟨md, d⟩ := s
        cases md <;> first | exact m | exact absurd rfl nio
      obtain ⟨O', r', ho⟩ := SR.mv (k := τ.length) nio t r
      refine m v H ⟨F, B, O', I.base, I.len.set, fun j s2 e2 => ?_, r', ?_⟩
      · by_cases hj : i = j
        · subst hj
          by_cases hl : i < ρ.length
          · rw [List.getElem?_set_self hl] at e2; cases e2
          · rw [List.getElem?_eq_none (by simpa using hl)] at e2; cases e2
        · rw [List.getElem?_set_ne hj] at e2
          obtain ⟨t2, v2, e3, r2⟩ := I.slot j s2 e2
          exact ⟨t2, v2, e3, r2.owner t2 fun a z => ho a _ z (fun y => hj (Sum.inl.inj y).symm) (fun y => nomatch y)⟩
      · exact I.temp.imp fun s v k hm hk h => h.owner (nt _ hm) fun a z => ho a _ z (fun y => nomatch y) (fun y => Nat.ne_of_lt hk (Sum.inr.inj y))
def fC (d : Vl) : Sem1 := fun ρ => .ok ⟨.shr, d⟩ ρ
theorem xe_c {d : Vl} {v : V} (h : PE X e (tC v)) (r : ∀ G, Rep J.K G d v) : XE X J W e true (fC d) := by
  refine ⟨h.imp ?_⟩
  rintro σ H Q ⟨ρ, τ, ⟨F, B, O, I⟩, _, m⟩
  exact m v H (I.push (s := ⟨.shr, d⟩) (r F))
theorem xe_int {i : Int} {j p} : XE X J W (.Constant (.int i) j p) true (fC (.int i)) := xe_c pe_int (fun _ => rfl)
theorem xe_bl {i : Bool} {j p} : XE X J W (.Constant (.bool i) j p) true (fC (.bl i)) := xe_c pe_bl (fun _ => rfl)
theorem xe_non {j p} : XE X J W (.Constant .none j p) true (fC .non) := xe_c pe_non (fun _ => rfl)
theorem xe_str {i : Str} {j p} : XE X J W (.Constant (.str i) j p) true (fC (.str i)) := xe_c pe_str (fun _ => rfl)
/-- a module's constant -/
theorem xe_glob {x : Str} {d : Vl} {v : V} {u : Value} (hg : Gl X x) (hm : X.mg x = some u) (r : RelV v u) (rd : ∀ G, Rep J.K G d v) (hd : (x == ("__debug__" : Str)) = false := by decide) : XE X J W (.Name x pos) true (fC d) := xe_c (pe_glob hg hm r hd) rd
/-! ### one and two operands -/
abbrev K1 := Sv → En → Rs Sv
abbrev K2 := Sv → Sv → En → Rs Sv
def fOne (fa : Sem1) (k : K1) : Sem1 := fun ρ => bnd (fa ρ) k
def Md.isT : Md → Bool
  | .tmp => true
  | _ => false
def grd {α : Type} (b : Bool) (r : Rs α) : Rs α := match b with
  | true => r
  | false => .bad
/-- may something be done that changes things, while this is held -/
def held (m : Md) (q : Bool) : Bool := q || !m.isT
def fTwo (qb : Bool) (fa fb : Sem1) (k : K2) : Sem1 := fun ρ => bnd (fa ρ) fun a ρ1 => grd (held a.m qb) (bnd (fb ρ1) fun b ρ2 => k a b ρ2)
/-- what a rule by values asks is answered by k -/
def Ok1 (J : Jx) (W : WX) (r : V → Hp → VK → Prop) (k : K1) : Prop := ∀ ρ τ σ H (s : Sv) v Q, Iv J ρ ((s, v) :: τ) σ H → Out J W τ σ (k s ρ) Q → r v H Q
def Ok2 (J : Jx) (W : WX) (r : R2) (k : K2) : Prop := ∀ ρ τ σ H (s t : Sv) v u Q, Iv J ρ ((t, u) :: (s, v) :: τ) σ H → Out J W τ σ (k s t ρ) Q → r v u H Q
theorem tE_one (ok : ∀ ρ τ H (s : Sv) v, Iv J ρ ((s, v) :: τ) σ H → ∀ {r : V → Hp → VK → Prop} {k : K1} {Q : VK}, Ok1 J W r k → Out J W τ σ (k s ρ) Q → r v H Q := fun _ _ _ _ _ I _ _ _ o h => o _ _ _ _ _ _ _ I h)
    {r : V → Hp → VK → Prop} {k : K1} (hk : Ok1 J W r k) {Q : VK} (h : tE J W q (fOne fa k) σ H Q) : tE J W q fa σ H fun v H1 => r v H1 Q := by
  obtain ⟨ρ, τ, I, c, m⟩ := h
  refine ⟨ρ, τ, I, c, ?_⟩
  unfold fOne at m
  cases e : fa ρ with
  | ok s ρ1 => rw [e] at m; exact fun v H1 I1 => hk _ _ _ _ _ _ _ I1 m
  | exc cc fs ρ1 => rw [e] at m; exact m
  | bad => rw [e] at m; exact m
theorem grd_out {s : Sv} {r : Rs Sv} {Q : VK} (m : Out J W τ σ (grd (held s.m qb) r) Q) : Out J W τ σ r Q ∧ (qb = true ∨ s.m ≠ .tmp) := by
  obtain ⟨md, d⟩ := s
  cases qb with
  | true => exact ⟨m, .inl rfl⟩
  | false => cases md <;> first | exact m.elim | exact ⟨m, .inr (fun z => nomatch z)⟩
theorem tE_two {r : R2} {k : K2} (hk : Ok2 J W r k) {Q : VK} (h : tE J W (qa && qb) (fTwo qb fa fb k) σ H Q) : tE J W qa fa σ H fun x H1 => tE J W qb fb σ H1 fun y H2 => r x y H2 Q := by
  obtain ⟨ρ, τ, I, c, m⟩ := h
  refine ⟨ρ, τ, I, c.imp (fun z => (Bool.and_eq_true_iff.mp z).1) id, ?_⟩
  unfold fTwo at m
  cases e : fa ρ with
  | ok s ρ1 =>
    rw [e] at m
    intro v H1 I1
    have m2 : Out J W τ σ (bnd (fb ρ1) fun b ρ2 => k s b ρ2) Q ∧ (qb = true ∨ s.m ≠ .tmp) := grd_out m
    obtain ⟨m2, hq⟩ := m2
    refine ⟨ρ1, (s, v) :: τ, I1, ?_, ?_⟩
    · rcases c with z | z
      · exact .inl (Bool.and_eq_true_iff.mp z).2
      · rcases hq with y | y
        · exact .inl y
        · exact .inr (z.cons y)
    · cases e2 : fb ρ1 with
      | ok t ρ2 => rw [e2] at m2; exact fun u H2 I2 => hk _ _ _ _ _ _ _ _ _ I2 m2
      | exc cc fs ρ2 => rw [e2] at m2; exact m2
      | bad => rw [e2] at m2; exact m2
  | exc cc fs ρ1 => rw [e] at m; exact m
  | bad => rw [e] at m; exact m
theorem xe_op {op : Operator} {r : R2} {k : K2} (ho : OpR X (binaryOp op) r) (hk : Ok2 J W r k) (ha : XE X J W a qa fa) (hb : XE X J W b qb fb) : XE X J W (.BinOp a op b pos) (qa && qb) (fTwo qb fa fb k) :=
  ⟨(pe_op ho ha.pe hb.pe).imp fun _ _ _ h => tE_two hk h⟩
theorem xe_un {op : UnaryOp} {r : V → Hp → VK → Prop} {k : K1} (ho : UnR X (unaryOp op) r) (hk : Ok1 J W r k) (ha : XE X J W a qa fa) : XE X J W (.UnaryOp op a pos) qa (fOne fa k) :=
  ⟨(pe_un ho ha.pe).imp fun _ _ _ h => tE_one (fun _ _ _ _ _ I _ _ _ o h => o _ _ _ _ _ _ _ I h) hk h⟩
theorem xe_cmp {op : CmpOp} {r : R2} {k : K2} (ho : OpR X (compareOp op) r) (hk : Ok2 J W r k) (ha : XE X J W a qa fa) (hb : XE X J W b qb fb) (hm : behindInMarks op b = false) : XE X J W (.Compare a [op] [b] pos) (qa && qb) (fTwo qb fa fb k) :=
  ⟨(pe_cmpR ho ha.pe hb.pe hm).imp fun _ _ _ h => tE_two hk h⟩
theorem xe_ix {r : R2} {k : K2} (hr : IxR X r) (hk : Ok2 J W r k) (ha : XE X J W a qa fa) (hb : XE X J W b qb fb) (hs : PlainIx b) : XE X J W (.Subscript a b pos) (qa && qb) (fTwo qb fa fb k) :=
  ⟨(pe_ix hr ha.pe hb.pe hs).imp fun _ _ _ h => tE_two hk h⟩
/-! ### rules by values -/
def kS (g : Vl → Vl → Option Vl) : K2 := fun s t ρ => match g s.d t.d with
  | some d => if isSc d then .ok ⟨.shr, d⟩ ρ else .bad
  | none => .bad
def kS1 (g : Vl → Option Vl) : K1 := fun s ρ => match g s.d with
  | some d => if isSc d then .ok ⟨.shr, d⟩ ρ else .bad
  | none => .bad
/-- a rule whose answer is a scalar -/
theorem ok_S {r : R2} {g : Vl → Vl → Option Vl} (h : ∀ (H : Hp) d1 d2 d v1 v2 (Q : VK), Rep J.K H d1 v1 → Rep J.K H d2 v2 → g d1 d2 = some d → (∀ v, Rep J.K H d v → Q v H) → r v1 v2 H Q) : Ok2 J W r (kS g) := by
  rintro ρ τ σ H s t v u Q ⟨F, B, O, I⟩ m
  unfold kS at m
  cases e : g s.d t.d with
  | none => rw [e] at m; exact m.elim
  | some d =>
    rw [e] at m
    have m' : Out J W τ σ (if isSc d then .ok ⟨.shr, d⟩ ρ else .bad) Q := m
    by_cases q : isSc d = true
    · rw [if_pos q] at m'
      exact h H _ _ d v u Q (I.drop1.top.rep I.base) (I.top.rep I.base) e fun w rw => m' w H (I.drop1.drop1.pushSc rw q)
    · rw [if_neg q] at m'; exact m'.elim
theorem ok_S1 {r : V → Hp → VK → Prop} {g : Vl → Option Vl} (h : ∀ (H : Hp) d1 d v1 (Q : VK), Rep J.K H d1 v1 → g d1 = some d → (∀ v, Rep J.K H d v → Q v H) → r v1 H Q) : Ok1 J W r (kS1 g) := by
  rintro ρ τ σ H s v Q ⟨F, B, O, I⟩ m
  unfold kS1 at m
  cases e : g s.d with
  | none => rw [e] at m; exact m.elim
  | some d =>
    rw [e] at m
    have m' : Out J W τ σ (if isSc d then .ok ⟨.shr, d⟩ ρ else .bad) Q := m
    by_cases q : isSc d = true
    · rw [if_pos q] at m'
      exact h H _ d v Q (I.top.rep I.base) e fun w rw => m' w H (I.drop1.pushSc rw q)
    · rw [if_neg q] at m'; exact m'.elim
def gI (f : Int → Int → Int) : Vl → Vl → Option Vl
  | .int i, .int j => some (.int (f i j))
  | _, _ => none
def gIc (c : Int → Int → Bool) (f : Int → Int → Int) : Vl → Vl → Option Vl
  | .int i, .int j => if c i j then some (.int (f i j)) else none
  | _, _ => none
def gB (f : Int → Int → Bool) : Vl → Vl → Option Vl
  | .int i, .int j => some (.bl (f i j))
  | _, _ => none
theorem ok_I {f : Int → Int → Int} : Ok2 J W (rI0 fun i j => .int (f i j)) (kS (gI f)) := ok_S fun H d1 d2 d v1 v2 Q r1 r2 e q => by
  cases d1 <;> cases d2 <;> first | (cases e; exact ⟨_, _, r1, r2, q _ rfl⟩) | cases e
theorem ok_B {f : Int → Int → Bool} : Ok2 J W (rI0 fun i j => .bl (f i j)) (kS (gB f)) := ok_S fun H d1 d2 d v1 v2 Q r1 r2 e q => by
  cases d1 <;> cases d2 <;> first | (cases e; exact ⟨_, _, r1, r2, q _ rfl⟩) | cases e
theorem ok_Ic {C : Int → Int → Prop} {c : Int → Int → Bool} {f : Int → Int → Int} (hc : ∀ i j, c i j = true → C i j) : Ok2 J W (rI C fun i j => .int (f i j)) (kS (gIc c f)) := ok_S fun H d1 d2 d v1 v2 Q r1 r2 e q => by
  cases d1 with
  | int i =>
    cases d2 with
    | int j =>
      have e' : (if c i j then some (Vl.int (f i j)) else none) = some d := e
      by_cases z : c i j = true
      · rw [if_pos z] at e'; cases e'; exact ⟨_, _, r1, r2, hc _ _ z, q _ rfl⟩
      · rw [if_neg z] at e'; cases e'
    | _ => cases e
  | _ => cases d2 <;> cases e
end
end MV
namespace MV
open PySem PySem.Spec PyProof.Rows L2
section
variable {X : Cx} {J : Jx} {W : WX} {e a b c : Expr} {es : List Expr} {q qa qb qc qr : Bool} {f fa fb fc : Sem1} {pos : Pos} {τ : List (Sv × V)} {σ : St} {H : Hp} {ρ : En}
/-! ### tests -/
abbrev SemB := En → Rs Bool
def OutB (J : Jx) (W : WX) (τ : List (Sv × V)) (σ : St) (r : Rs Bool) (Q : Bool → Hp → Prop) : Prop := match r with
  | .ok b ρ => ∀ H, Iv J ρ τ σ H → Q b H
  | .exc c fs ρ => ∀ cls d H, Ix J ρ c fs σ H cls d → W cls d σ H
  | .bad => False
def tT (J : Jx) (W : WX) (q : Bool) (f : SemB) : TT := fun σ H Q => ∃ ρ τ, Iv J ρ τ σ H ∧ (q = true ∨ NoTmp τ) ∧ OutB J W τ σ (f ρ) Q
structure XT (X : Cx) (J : Jx) (W : WX) (e : Expr) (q : Bool) (f : SemB) : Prop where
  pt : PT X e (tT J W q f)
structure XW (X : Cx) (J : Jx) (W : WX) (e : Expr) (q : Bool) (f : SemB) : Prop where
  pw : PW X e (tT J W q f)
theorem _root_.L2.PT.imp {X : Cx} {e : Expr} {t t' : TT} (h : PT X e t) (i : ∀ σ H Q, t' σ H Q → t σ H Q) : PT X e t' := ⟨fun pins s σ H Q I q => h.run pins s σ H Q I (i σ H Q q)⟩
theorem _root_.L2.PW.imp {X : Cx} {e : Expr} {t t' : TT} (h : PW X e t) (i : ∀ σ H Q, t' σ H Q → t σ H Q) : PW X e t' := ⟨fun w pins s σ H Q I q => h.run w pins s σ H Q I (i σ H Q q)⟩
def tru : Vl → Option Bool
  | .non => some false
  | .bl b => some b
  | .int i => some (i != 0)
  | .lst xs => some (!xs.isEmpty)
  | .tup xs => some (!xs.isEmpty)
  | .str s => if s.length ≤ sizeLine then some (s.length != 0) else none
  | _ => none
def kBl : Sv → En → Rs Bool := fun s ρ => match s.d with
  | .bl b => .ok b ρ
  | _ => .bad
def fTst (f : Sem1) : SemB := fun ρ => bnd (f ρ) kBl
def kTru : Sv → En → Rs Bool := fun s ρ => match tru s.d with
  | some b => .ok b ρ
  | none => .bad
def fTru (f : Sem1) : SemB := fun ρ => bnd (f ρ) kTru
theorem tT_tst {Q : Bool → Hp → Prop} (h : tT J W q (fTst f) σ H Q) : tE J W q f σ H fun x H1 => ∃ k, x = .bl k ∧ Q k H1 := by
  obtain ⟨ρ, τ, I, c, m⟩ := h
  refine ⟨ρ, τ, I, c, ?_⟩
  unfold fTst at m
  cases e : f ρ with
  | ok s ρ1 =>
    rw [e] at m
    rintro v H1 ⟨F, B, O, I1⟩
    have m : OutB J W τ σ (kBl s ρ1) Q := m
    obtain ⟨md, d⟩ := s
    cases d with
    | bl k => exact ⟨k, I1.top.rep I1.base, m H1 ⟨F, B, O, I1.drop1⟩⟩
    | _ => exact m.elim
  | exc cc fs ρ1 => rw [e] at m; exact m
  | bad => rw [e] at m; exact m
/-- a comparison as a test -/
theorem xt_cmp {op : CmpOp} {r : R2} {k : K2} (ho : OpR X (compareOp op) r) (hk : Ok2 J W r k) (ha : XE X J W a qa fa) (hb : XE X J W b qb fb) (hm : behindInMarks op b = false) : XT X J W (.Compare a [op] [b] pos) (qa && qb) (fTst (fTwo qb fa fb k)) :=
  ⟨(pt_cmpR ho ha.pe hb.pe hm).imp fun _ _ _ h => tE_two hk (tT_tst h)⟩
theorem xt_val (h : XE X J W e q f) (he : ∀ whole, isTrue e X.env whole = (do let v ← whole; standAt e.pos; holding [v] (truthy v)) := by intro _; rfl) : XT X J W e q (fTst f) :=
  ⟨(pt_val h.pe he).imp fun _ _ _ h => tT_tst h⟩
theorem nat_ne (n : Nat) : (n != 0) = (((n : Nat) : Int) != 0) := by
  cases n with
  | zero => rfl
  | succ n =>
    have h1 : (n + 1 != 0) = true := by simp
    have h2 : ((((n + 1 : Nat)) : Int) != 0) = true := by
      rw [bne_iff_ne]; omega
    rw [h1, h2]
theorem tru_rep {K : PySem.W.Frag} {d : Vl} {k : Bool} {v : V} (h : tru d = some k) (r : Rep K H d v) : TruV K v H k := by
  cases d with
  | non => cases h; cases r; exact rfl
  | bl b => cases h; cases r; exact rfl
  | int i => cases h; cases r; exact rfl
  | str s =>
    have h' : (if s.length ≤ sizeLine then some (s.length != 0) else none) = some k := h
    by_cases z : s.length ≤ sizeLine
    · rw [if_pos z] at h'; cases h'; cases r; exact ⟨z, nat_ne s.length⟩
    · rw [if_neg z] at h'; cases h'
  | lst xs =>
    cases h
    obtain ⟨p, vs, e, g, r⟩ := r
    subst e
    refine .inl ⟨vs, SqL.of g, ?_⟩
    cases xs with
    | nil => rw [show vs = [] from r]; rfl
    | cons x xs => obtain ⟨v, t, e, _⟩ := r; rw [e]; rfl
  | tup xs =>
    cases h
    obtain ⟨p, vs, e, g, r⟩ := r
    subst e
    refine .inr (.inl ⟨vs, SqT.of g, ?_⟩)
    cases xs with
    | nil => rw [show vs = [] from r]; rfl
    | cons x xs => obtain ⟨v, t, e, _⟩ := r; rw [e]; rfl
  | _ => cases h
theorem xt_tru (hK : J.K = X.K) (h : XE X J W e q f) (he : ∀ whole, isTrue e X.env whole = (do let v ← whole; standAt e.pos; holding [v] (truthy v)) := by intro _; rfl) : XT X J W e q (fTru f) := by
  refine ⟨(pt_truth h.pe he).imp fun σ H Q h => ?_⟩
  obtain ⟨ρ, τ, I, c, m⟩ := h
  refine ⟨ρ, τ, I, c, ?_⟩
  unfold fTru at m
  cases e : f ρ with
  | ok s ρ1 =>
    rw [e] at m
    rintro v H1 ⟨F, B, O, I1⟩
    have m : OutB J W τ σ (kTru s ρ1) Q := m
    unfold kTru at m
    cases z : tru s.d with
    | none => rw [z] at m; exact m.elim
    | some k =>
      rw [z] at m
      have r := I1.top.rep I1.base
      rw [hK] at r
      exact ⟨k, tru_rep z r, m H1 ⟨F, B, O, I1.drop1⟩⟩
  | exc cc fs ρ1 => rw [e] at m; exact m
  | bad => rw [e] at m; exact m
def fAnd (fa fb : SemB) : SemB := fun ρ => bnd (fa ρ) fun x ρ1 => match x with
  | true => fb ρ1
  | false => .ok false ρ1
def fOr (fa fb : SemB) : SemB := fun ρ => bnd (fa ρ) fun x ρ1 => match x with
  | true => .ok true ρ1
  | false => fb ρ1
def fNot (fa : SemB) : SemB := fun ρ => bnd (fa ρ) fun x ρ1 => .ok (!x) ρ1
variable {ga gb : SemB} {rest : List Expr}
theorem qand (c : (qa && qb) = true ∨ NoTmp τ) : (qa = true ∨ NoTmp τ) ∧ (qb = true ∨ NoTmp τ) :=
  ⟨c.imp (fun z => (Bool.and_eq_true_iff.mp z).1) id, c.imp (fun z => (Bool.and_eq_true_iff.mp z).2) id⟩
theorem xw_and1 (ha : XT X J W a qa ga) : XW X J W (.BoolOp .And [a] pos) qa ga := ⟨pw_and1 ha.pt⟩
theorem xw_or1 (ha : XT X J W a qa ga) : XW X J W (.BoolOp .Or [a] pos) qa ga := ⟨pw_or1 ha.pt⟩
theorem xw_and (ha : XT X J W a qa ga) (hb : XW X J W (.BoolOp .And (b :: rest) pos) qb gb) : XW X J W (.BoolOp .And (a :: b :: rest) pos) (qa && qb) (fAnd ga gb) := by
  refine ⟨(pw_and ha.pt hb.pw).imp fun σ H Q h => ?_⟩
  obtain ⟨ρ, τ, I, c, m⟩ := h
  refine ⟨ρ, τ, I, (qand c).1, ?_⟩
  unfold fAnd at m
  cases e : ga ρ with
  | ok x ρ1 =>
    rw [e] at m
    intro H1 I1
    cases x with
    | true => rw [if_pos rfl]; exact ⟨ρ1, τ, I1, (qand c).2, m⟩
    | false => rw [if_neg Bool.false_ne_true]; exact m H1 I1
  | exc cc fs ρ1 => rw [e] at m; exact m
  | bad => rw [e] at m; exact m
theorem xw_or (ha : XT X J W a qa ga) (hb : XW X J W (.BoolOp .Or (b :: rest) pos) qb gb) : XW X J W (.BoolOp .Or (a :: b :: rest) pos) (qa && qb) (fOr ga gb) := by
  refine ⟨(pw_or ha.pt hb.pw).imp fun σ H Q h => ?_⟩
  obtain ⟨ρ, τ, I, c, m⟩ := h
  refine ⟨ρ, τ, I, (qand c).1, ?_⟩
  unfold fOr at m
  cases e : ga ρ with
  | ok x ρ1 =>
    rw [e] at m
    intro H1 I1
    cases x with
    | false => rw [if_neg Bool.false_ne_true]; exact ⟨ρ1, τ, I1, (qand c).2, m⟩
    | true => rw [if_pos rfl]; exact m H1 I1
  | exc cc fs ρ1 => rw [e] at m; exact m
  | bad => rw [e] at m; exact m
theorem XW.xt (h : XW X J W a qa ga) : XT X J W a qa ga := ⟨h.pw.pt⟩
theorem xt_not (ha : XT X J W a qa ga) : XT X J W (.UnaryOp .Not a pos) qa (fNot ga) := by
  refine ⟨(pt_not ha.pt).imp fun σ H Q h => ?_⟩
  obtain ⟨ρ, τ, I, c, m⟩ := h
  refine ⟨ρ, τ, I, c, ?_⟩
  unfold fNot at m
  cases e : ga ρ with
  | ok x ρ1 => rw [e] at m; exact fun H1 I1 => m H1 I1
  | exc cc fs ρ1 => rw [e] at m; exact m
  | bad => rw [e] at m; exact m
/-- and, or, not as values -/
def fAndV (fa fb : Sem1) : Sem1 := fun ρ => bnd (bnd (fa ρ) kBl) fun x ρ1 => match x with
  | true => fb ρ1
  | false => .ok ⟨.shr, .bl false⟩ ρ1
def fOrV (fa fb : Sem1) : Sem1 := fun ρ => bnd (bnd (fa ρ) kBl) fun x ρ1 => match x with
  | true => .ok ⟨.shr, .bl true⟩ ρ1
  | false => fb ρ1
def fNotV (fa : Sem1) : Sem1 := fun ρ => bnd (bnd (fa ρ) kBl) fun x ρ1 => .ok ⟨.shr, .bl (!x)⟩ ρ1
theorem tE_bl {k : Bool → En → Rs Sv} {R : Bool → Hp → Prop} {Q : VK} (I : Iv J ρ τ σ H) (c : q = true ∨ NoTmp τ) (m : Out J W τ σ (bnd (bnd (fa ρ) kBl) k) Q)
    (h : ∀ x ρ1 H1, Iv J ρ1 τ σ H1 → Out J W τ σ (k x ρ1) Q → R x H1) : tE J W q fa σ H fun x H1 => ∃ c, x = .bl c ∧ R c H1 := by
  refine ⟨ρ, τ, I, c, ?_⟩
  cases e : fa ρ with
  | ok s ρ1 =>
    rw [e] at m
    rintro v H1 ⟨F, B, O, I1⟩
    have m : Out J W τ σ (bnd (kBl s ρ1) k) Q := m
    obtain ⟨md, d⟩ := s
    cases d with
    | bl x => exact ⟨x, I1.top.rep I1.base, h x ρ1 H1 ⟨F, B, O, I1.drop1⟩ m⟩
    | _ => exact m.elim
  | exc cc fs ρ1 => rw [e] at m; exact m
  | bad => rw [e] at m; exact m
theorem xe_one1 {op} (h : XE X J W a qa fa) : XE X J W (.BoolOp op [a] pos) qa fa := ⟨pe_one h.pe⟩
theorem out_sc {d : Vl} {Q : VK} {v : V} (m : Out J W τ σ (.ok ⟨.shr, d⟩ ρ) Q) (I : Iv J ρ τ σ H) (r : Rep J.K H d v) (z : isSc d = true) : Q v H := by
  obtain ⟨F, B, O, I⟩ := I
  exact m v H (I.pushSc r z)
theorem xe_and (ha : XE X J W a qa fa) (hb : XE X J W (.BoolOp .And (b :: rest) pos) qb fb) : XE X J W (.BoolOp .And (a :: b :: rest) pos) (qa && qb) (fAndV fa fb) := by
  refine ⟨(pe_and ha.pe hb.pe).imp fun σ H Q h => ?_⟩
  obtain ⟨ρ, τ, I, c, m⟩ := h
  refine tE_bl (R := fun c H1 => if c = true then tE J W qb fb σ H1 Q else Q (.bl false) H1) I (qand c).1 m fun x ρ1 H1 I1 m1 => ?_
  cases x with
  | true => rw [if_pos rfl]; exact ⟨ρ1, τ, I1, (qand c).2, m1⟩
  | false => rw [if_neg Bool.false_ne_true]; exact out_sc (v := .bl false) m1 I1 rfl rfl
theorem xe_or (ha : XE X J W a qa fa) (hb : XE X J W (.BoolOp .Or (b :: rest) pos) qb fb) : XE X J W (.BoolOp .Or (a :: b :: rest) pos) (qa && qb) (fOrV fa fb) := by
  refine ⟨(pe_or ha.pe hb.pe).imp fun σ H Q h => ?_⟩
  obtain ⟨ρ, τ, I, c, m⟩ := h
  refine tE_bl (R := fun c H1 => if c = true then Q (.bl true) H1 else tE J W qb fb σ H1 Q) I (qand c).1 m fun x ρ1 H1 I1 m1 => ?_
  cases x with
  | false => rw [if_neg Bool.false_ne_true]; exact ⟨ρ1, τ, I1, (qand c).2, m1⟩
  | true => rw [if_pos rfl]; exact out_sc (v := .bl true) m1 I1 rfl rfl
theorem xe_not (ha : XE X J W a qa fa) : XE X J W (.UnaryOp .Not a pos) qa (fNotV fa) := by
  refine ⟨(pe_not ha.pe).imp fun σ H Q h => ?_⟩
  obtain ⟨ρ, τ, I, c, m⟩ := h
  exact tE_bl (R := fun c H1 => Q (.bl (!c)) H1) I c m fun x ρ1 H1 I1 m1 => out_sc (v := .bl (!x)) m1 I1 rfl rfl
/-- a if t else b -/
def fIf (g : SemB) (fa fb : Sem1) : Sem1 := fun ρ => bnd (g ρ) fun x ρ1 => match x with
  | true => fa ρ1
  | false => fb ρ1
theorem xe_if (hc : XT X J W c qc ga) (ha : XE X J W a qa fa) (hb : XE X J W b qb fb) : XE X J W (.IfExp c a b pos) (qc && (qa && qb)) (fIf ga fa fb) := by
  refine ⟨(pe_ifExp hc.pt ha.pe hb.pe).imp fun σ H Q h => ?_⟩
  obtain ⟨ρ, τ, I, cc, m⟩ := h
  refine ⟨ρ, τ, I, (qand cc).1, ?_⟩
  unfold fIf at m
  cases e : ga ρ with
  | ok x ρ1 =>
    rw [e] at m
    intro H1 I1
    cases x with
    | true => rw [if_pos rfl]; exact ⟨ρ1, τ, I1, (qand (qand cc).2).1, m⟩
    | false => rw [if_neg Bool.false_ne_true]; exact ⟨ρ1, τ, I1, (qand (qand cc).2).2, m⟩
  | exc cc fs ρ1 => rw [e] at m; exact m
  | bad => rw [e] at m; exact m
/-- a op b op' c of ints -/
def kI (k : Int → En → Rs Sv) : K1 := fun s ρ => match s.d with
  | .int i => k i ρ
  | _ => .bad
theorem tE_int {k : Int → En → Rs Sv} {R Q : VK} (I : Iv J ρ τ σ H) (c : q = true ∨ NoTmp τ) (m : Out J W τ σ (bnd (fa ρ) (kI k)) Q)
    (h : ∀ i ρ1 H1, Iv J ρ1 τ σ H1 → Out J W τ σ (k i ρ1) Q → R (.int i) H1) : tE J W q fa σ H R := by
  refine ⟨ρ, τ, I, c, ?_⟩
  cases e : fa ρ with
  | ok s ρ1 =>
    rw [e] at m
    rintro v H1 ⟨F, B, O, I1⟩
    have m : Out J W τ σ (kI k s ρ1) Q := m
    obtain ⟨md, d⟩ := s
    cases d with
    | int x =>
      have hv : v = .int x := I1.top.rep I1.base
      subst hv
      exact h x ρ1 H1 ⟨F, B, O, I1.drop1⟩ m
    | _ => exact m.elim
  | exc cc fs ρ1 => rw [e] at m; exact m
  | bad => rw [e] at m; exact m
def fChain (p p' : Int → Int → Bool) (fa fb fc : Sem1) : Sem1 := fun ρ => bnd (fa ρ) (kI fun i ρ1 => bnd (fb ρ1) (kI fun j ρ2 => match p i j with
  | true => bnd (fc ρ2) (kI fun k ρ3 => .ok ⟨.shr, .bl (p' j k)⟩ ρ3)
  | false => .ok ⟨.shr, .bl false⟩ ρ2))
theorem tE_chain {p p' : Int → Int → Bool} {Q : VK} (h : tE J W (qa && (qb && qc)) (fChain p p' fa fb fc) σ H Q) :
    tChain (rI0 fun i j => .bl (p i j)) (rI0 fun i j => .bl (p' i j)) (tE J W qa fa) (tE J W qb fb) (tE J W qc fc) σ H Q := by
  obtain ⟨ρ, τ, I, cc, m⟩ := h
  refine tE_int I (qand cc).1 m fun i ρ1 H1 I1 m1 => tE_int I1 (qand (qand cc).2).1 m1 fun j ρ2 H2 I2 m2 => ?_
  refine ⟨i, j, rfl, rfl, _, rfl, ?_⟩
  cases z : p i j with
  | true =>
    rw [z] at m2
    rw [if_pos rfl]
    exact tE_int I2 (qand (qand cc).2).2 m2 fun k ρ3 H3 I3 m3 => ⟨j, k, rfl, rfl, out_sc (v := .bl (p' j k)) m3 I3 rfl rfl⟩
  | false =>
    rw [z] at m2
    rw [if_neg Bool.false_ne_true]
    exact out_sc (v := .bl false) m2 I2 rfl rfl
theorem xe_chain {op op' : CmpOp} {p p' : Int → Int → Bool} (ho : OpR X (compareOp op) (rI0 fun i j => .bl (p i j))) (ho' : OpR X (compareOp op') (rI0 fun i j => .bl (p' i j))) (ha : XE X J W a qa fa) (hb : XE X J W b qb fb) (hc : XE X J W c qc fc)
    (hm : lastMarks [op, op'] [b, c] = false := by with_unfolding_all rfl) : XE X J W (.Compare a [op, op'] [b, c] pos) (qa && (qb && qc)) (fChain p p' fa fb fc) := ⟨(pe_chain ho ho' ha.pe hb.pe hc.pe hm).imp fun _ _ _ h => tE_chain h⟩
theorem xt_chain {op op' : CmpOp} {p p' : Int → Int → Bool} (ho : OpR X (compareOp op) (rI0 fun i j => .bl (p i j))) (ho' : OpR X (compareOp op') (rI0 fun i j => .bl (p' i j))) (ha : XE X J W a qa fa) (hb : XE X J W b qb fb) (hc : XE X J W c qc fc)
    (hm : lastMarks [op, op'] [b, c] = false := by with_unfolding_all rfl) : XT X J W (.Compare a [op, op'] [b, c] pos) (qa && (qb && qc)) (fTst (fChain p p' fa fb fc)) := ⟨(pt_chain ho ho' ha.pe hb.pe hc.pe hm).imp fun _ _ _ h => tE_chain (tT_tst h)⟩
end
end MV
namespace MV
open PySem PySem.Spec PyProof.Rows L2
section
variable {X : Cx} {J : Jx} {W : WX} {e a b c : Expr} {es : List Expr} {q qa qb qc qr : Bool} {f fa fb fc : Sem1} {pos : Pos} {τ : List (Sv × V)} {σ : St} {H : Hp} {ρ : En}
/-! ### kids -/
def lft (m : Md) (xs : List Vl) : Bool := (match m with | .bor => false | _ => true) || xs.all isSc
theorem lft_rep {F B : Hp} {m : Md} {xs : List Vl} {vs : List V} (h : lft m xs = true) (r : RepL J.K (reg F B m) xs vs) : RepL J.K F xs vs := by
  cases m with
  | bor => exact r.scs h
  | _ => exact r
theorem kid_out {d : Vl} {m : Md} {v : V} {Q : VK} {F B : Hp} {O : Addr → Option Ow} (I : IvW J F B O ρ τ σ H) (r : Rep J.K (reg F B m) d v) (h : Out J W τ σ (.ok (mk m.kid d) ρ) Q) : Q v H :=
  h v H (I.push ((reg_kid r H).mk I.base))
/-! ### sums of ints, texts, lists -/
def rAddA : R2 := fun x y H Q => (rI0 fun i j => .int (i + j)) x y H Q ∨ (∃ i j, x = .str i ∧ y = .str j ∧ i.length + j.length ≤ sizeLine ∧ Q (.str (i ++ j)) H) ∨ rCat x y H Q
theorem op_addA : OpR X (binaryOp .Add) rAddA := op_add.or (op_add_str.or op_cat)
def kAdd : K2 := fun s t ρ => match s.d, t.d with
  | .int i, .int j => .ok ⟨.shr, .int (i + j)⟩ ρ
  | .str i, .str j => grd (decide (i.length + j.length ≤ sizeLine)) (.ok ⟨.shr, .str (i ++ j)⟩ ρ)
  | .lst xs, .lst ys => grd (lft s.m xs && lft t.m ys && decide (xs.length + ys.length ≤ sizeLine)) (.ok ⟨.own, .lst (xs ++ ys)⟩ ρ)
  | _, _ => .bad
theorem grd_true {α : Type} {b : Bool} {r : Rs α} (h : b = true) : grd b r = r := by rw [h]; rfl
theorem out_grd {b : Bool} {r : Rs Sv} {Q : VK} (m : Out J W τ σ (grd b r) Q) : b = true ∧ Out J W τ σ r Q := by
  cases b with
  | true => exact ⟨rfl, m⟩
  | false => exact m.elim
theorem ok_add : Ok2 J W rAddA kAdd := by
  rintro ρ τ σ H ⟨ms, ds⟩ ⟨mt, dt⟩ v u Q ⟨F, B, O, I⟩ m
  cases ds with
  | int i =>
    cases dt with
    | int j => exact .inl ⟨i, j, I.drop1.top.rep I.base, I.top.rep I.base, out_sc m ⟨F, B, O, I.drop1.drop1⟩ rfl rfl⟩
    | _ => exact m.elim
  | str i =>
    cases dt with
    | str j =>
      obtain ⟨h, m⟩ := out_grd (b := decide (i.length + j.length ≤ sizeLine)) m
      exact .inr (.inl ⟨i, j, I.drop1.top.rep I.base, I.top.rep I.base, of_decide_eq_true h, out_sc m ⟨F, B, O, I.drop1.drop1⟩ rfl rfl⟩)
    | _ => exact m.elim
  | lst xs =>
    cases dt with
    | lst ys =>
      obtain ⟨h, m⟩ := out_grd (b := lft ms xs && lft mt ys && decide (xs.length + ys.length ≤ sizeLine)) m
      rw [Bool.and_eq_true, Bool.and_eq_true] at h
      obtain ⟨p1, vs, e1, g1, r1⟩ := I.drop1.top.list I.base
      obtain ⟨p2, ws, e2, g2, r2⟩ := I.top.list I.base
      have n1 := r1.len
      have n2 := r2.len
      refine .inr (.inr ⟨p1, p2, vs, ws, e1, e2, g1, g2, by rw [n1, n2]; exact of_decide_eq_true h.2, fun p np => m _ _ (I.drop1.drop1.new np ⟨_, rfl, ?_⟩)⟩)
      exact (lft_rep h.1.1 r1).app (lft_rep h.1.2 r2)
    | _ => exact m.elim
  | _ => cases dt <;> exact m.elim
theorem xe_add (ha : XE X J W a qa fa) (hb : XE X J W b qb fb) : XE X J W (.BinOp a .Add b pos) (qa && qb) (fTwo qb fa fb kAdd) := xe_op op_addA ok_add ha hb
theorem xe_sub (ha : XE X J W a qa fa) (hb : XE X J W b qb fb) : XE X J W (.BinOp a .Sub b pos) (qa && qb) (fTwo qb fa fb (kS (gI fun i j => i - j))) := xe_op op_sub ok_I ha hb
def cDiv (i j : Int) : Bool := decide (j ≠ 0) && decide (j.natAbs < 1073741824)
def cMod (i j : Int) : Bool := decide (j ≠ 0)
def cMul (i j : Int) : Bool := (decide (-(2 ^ 64) < i) && decide (i < 2 ^ 64)) || (decide (-(2 ^ 64) < j) && decide (j < 2 ^ 64))
def cPow (i j : Int) : Bool := decide (0 ≤ j) && decide (j ≤ 1000000) && decide (i.natAbs < 2 ^ 64)
theorem xe_fdiv (ha : XE X J W a qa fa) (hb : XE X J W b qb fb) : XE X J W (.BinOp a .FloorDiv b pos) (qa && qb) (fTwo qb fa fb (kS (gIc cDiv Int.fdiv))) :=
  xe_op op_fdivN (ok_Ic (C := CDivN) (c := cDiv) fun i j h => by
    have h : (decide (j ≠ 0) && decide (j.natAbs < 1073741824)) = true := h
    rw [Bool.and_eq_true] at h
    exact ⟨of_decide_eq_true h.1, of_decide_eq_true h.2⟩) ha hb
theorem xe_mod (ha : XE X J W a qa fa) (hb : XE X J W b qb fb) : XE X J W (.BinOp a .Mod b pos) (qa && qb) (fTwo qb fa fb (kS (gIc cMod Int.fmod))) :=
  xe_op op_modN (ok_Ic (c := cMod) fun i j h => of_decide_eq_true h) ha hb
theorem xe_pow (ha : XE X J W a qa fa) (hb : XE X J W b qb fb) : XE X J W (.BinOp a .Pow b pos) (qa && qb) (fTwo qb fa fb (kS (gIc cPow fun i j => i ^ j.toNat))) :=
  xe_op op_pow (ok_Ic (C := CPow) (c := cPow) fun i j h => by
    have h : (decide (0 ≤ j) && decide (j ≤ 1000000) && decide (i.natAbs < 2 ^ 64)) = true := h
    rw [Bool.and_eq_true, Bool.and_eq_true] at h
    exact ⟨of_decide_eq_true h.1.1, of_decide_eq_true h.1.2, of_decide_eq_true h.2⟩) ha hb
theorem xe_neg (ha : XE X J W a qa fa) : XE X J W (.UnaryOp .USub a pos) qa (fOne fa (kS1 fun d => match d with | .int i => some (.int (-i)) | _ => none)) :=
  xe_un un_neg (ok_S1 fun H d1 d v Q r e q => by
    cases d1 <;> first | (cases e; exact ⟨_, r, q _ rfl⟩) | cases e) ha
/-- products of ints, a list many times -/
def rMulA : R2 := fun x y H Q => (rI CMul fun i j => .int (i * j)) x y H Q ∨ rRep x y H Q
theorem op_mulA : OpR X (binaryOp .Mult) rMulA := op_mul.or op_rep
def cRep (n : Nat) (k : Int) : Bool := decide (-(2 ^ 63) ≤ k) && decide (k < 2 ^ 63) && decide (n * k.toNat ≤ sizeLine)
def kMul : K2 := fun s t ρ => match s.d, t.d with
  | .int i, .int j => grd (cMul i j) (.ok ⟨.shr, .int (i * j)⟩ ρ)
  | .lst xs, .int k => grd (lft s.m xs && cRep xs.length k) (.ok ⟨.own, .lst (List.replicate k.toNat xs).flatten⟩ ρ)
  | _, _ => .bad
theorem ok_mul : Ok2 J W rMulA kMul := by
  rintro ρ τ σ H ⟨ms, ds⟩ ⟨mt, dt⟩ v u Q ⟨F, B, O, I⟩ m
  cases ds with
  | int i =>
    cases dt with
    | int j =>
      obtain ⟨h, m⟩ := out_grd (b := cMul i j) m
      refine .inl ⟨i, j, I.drop1.top.rep I.base, I.top.rep I.base, ?_, out_sc m ⟨F, B, O, I.drop1.drop1⟩ rfl rfl⟩
      have h : ((decide (-(2 ^ 64) < i) && decide (i < 2 ^ 64)) || (decide (-(2 ^ 64) < j) && decide (j < 2 ^ 64))) = true := h
      rw [Bool.or_eq_true, Bool.and_eq_true, Bool.and_eq_true] at h
      exact h.imp (fun z => ⟨of_decide_eq_true z.1, of_decide_eq_true z.2⟩) fun z => ⟨of_decide_eq_true z.1, of_decide_eq_true z.2⟩
    | _ => exact m.elim
  | lst xs =>
    cases dt with
    | int k =>
      obtain ⟨h, m⟩ := out_grd (b := lft ms xs && cRep xs.length k) m
      rw [Bool.and_eq_true] at h
      have h2 : (decide (-(2 ^ 63) ≤ k) && decide (k < 2 ^ 63) && decide (xs.length * k.toNat ≤ sizeLine)) = true := h.2
      rw [Bool.and_eq_true, Bool.and_eq_true] at h2
      obtain ⟨p1, vs, e1, g1, r1⟩ := I.drop1.top.list I.base
      have hu : u = .int k := I.top.rep I.base
      have n1 := r1.len
      exact .inr ⟨p1, k, vs, e1, hu, g1, of_decide_eq_true h2.1.1, of_decide_eq_true h2.1.2, by rw [n1]; exact of_decide_eq_true h2.2, fun p np => m _ _ (I.drop1.drop1.new np ⟨_, rfl, (lft_rep h.1 r1).rep _⟩)⟩
    | _ => exact m.elim
  | _ => cases dt <;> exact m.elim
theorem xe_mul (ha : XE X J W a qa fa) (hb : XE X J W b qb fb) : XE X J W (.BinOp a .Mult b pos) (qa && qb) (fTwo qb fa fb kMul) := xe_op op_mulA ok_mul ha hb
/-! ### comparisons -/
abbrev bLt : Int → Int → Bool := fun i j => decide (i < j)
abbrev bLe : Int → Int → Bool := fun i j => decide (i ≤ j)
abbrev bGt : Int → Int → Bool := fun i j => decide (j < i)
abbrev bGe : Int → Int → Bool := fun i j => decide (j ≤ i)
mutual
def toD : Vl → PyData
  | .non => .none
  | .bl b => .bool b
  | .int i => .int i
  | .str s => .str s
  | .lst xs => .list (toDs xs)
  | .tup xs => .tuple (toDs xs)
  | .ins _ _ => .dict []
  | .scr _ => .dict []
def toDs : List Vl → List PyData
  | [] => []
  | x :: xs => toD x :: toDs xs
end
mutual
theorem rep_dp {K : PySem.W.Frag} : ∀ {d : Vl} {v : V}, PyData.canLay0 (toD d) = true → Rep K H d v → Dp K H v (toD d)
  | .non, _, _, r => by cases r; exact .non
  | .bl b, _, _, r => by cases r; exact .bl b
  | .int i, _, _, r => by cases r; exact .int i
  | .str s, _, _, r => by cases r; exact .str s
  | .lst xs, _, h, ⟨p, vs, e, g, r⟩ => by subst e; exact .lst (SqL.of g) (reps_dp (by simpa [toD, PyData.canLay0] using h) r)
  | .tup xs, _, h, ⟨p, vs, e, g, r⟩ => by subst e; exact .tup (SqT.of g) (reps_dp (by simpa [toD, PyData.canLay0] using h) r)
  | .ins _ _, _, h, _ => by simp [toD, PyData.canLay0] at h
  | .scr _, _, h, _ => by simp [toD, PyData.canLay0] at h
theorem reps_dp {K : PySem.W.Frag} : ∀ {ds : List Vl} {vs : List V}, PyData.canLayAll0 (toDs ds) = true → RepL K H ds vs → DpAll K H vs (toDs ds)
  | [], _, _, r => by rw [show _ = [] from r]; exact .nil
  | d :: ds, _, h, ⟨v, t, e, r1, r2⟩ => by
    subst e
    have h' : PyData.canLay0 (toD d) = true ∧ PyData.canLayAll0 (toDs ds) = true := by simpa [toDs, PyData.canLayAll0] using h
    exact .cons (rep_dp h'.1 r1) (reps_dp h'.2 r2)
end
def veq (d e : Vl) : Bool := PyData.eqv (toD d) (toD e)
def cEq (d e : Vl) : Bool := SeqAt.shaped (toD d) && SeqAt.shaped (toD e)
def gEq (d e : Vl) : Option Vl := if cEq d e then some (.bl (veq d e)) else none
def gNe (d e : Vl) : Option Vl := if cEq d e then some (.bl (!veq d e)) else none
theorem ok_Eq (hK : J.K = X.K) : Ok2 J W (rEqD X.K) (kS gEq) := ok_S fun H d1 d2 d v1 v2 Q r1 r2 e q => by
  unfold gEq at e
  by_cases z : cEq d1 d2 = true
  · rw [if_pos z] at e
    cases e
    have z' : (SeqAt.shaped (toD d1) && SeqAt.shaped (toD d2)) = true := z
    rw [Bool.and_eq_true] at z'
    rw [hK] at r1 r2
    exact ⟨_, _, rep_dp (SeqAt.canLay_of_shaped z'.1) r1, rep_dp (SeqAt.canLay_of_shaped z'.2) r2, z'.1, z'.2, q _ rfl⟩
  · rw [if_neg z] at e; cases e
theorem ok_Ne (hK : J.K = X.K) : Ok2 J W (rNeD X.K) (kS gNe) := ok_S fun H d1 d2 d v1 v2 Q r1 r2 e q => by
  unfold gNe at e
  by_cases z : cEq d1 d2 = true
  · rw [if_pos z] at e
    cases e
    have z' : (SeqAt.shaped (toD d1) && SeqAt.shaped (toD d2)) = true := z
    rw [Bool.and_eq_true] at z'
    rw [hK] at r1 r2
    exact ⟨_, _, rep_dp (SeqAt.canLay_of_shaped z'.1) r1, rep_dp (SeqAt.canLay_of_shaped z'.2) r2, z'.1, z'.2, q _ rfl⟩
  · rw [if_neg z] at e; cases e
/-- is None -/
def gIsN : Vl → Vl → Option Vl
  | .non, .non => some (.bl true)
  | _, .non => some (.bl false)
  | _, _ => none
def gNotN : Vl → Vl → Option Vl
  | .non, .non => some (.bl false)
  | _, .non => some (.bl true)
  | _, _ => none
def isN : Vl → Bool
  | .non => true
  | _ => false
theorem rep_non {K : PySem.W.Frag} {d : Vl} {v : V} (r : Rep K H d v) : decide (v = .non) = isN d := by
  cases d with
  | non => rw [show v = .non from r]; rfl
  | bl b => rw [show v = .bl b from r]; rfl
  | int b => rw [show v = .int b from r]; rfl
  | str b => rw [show v = .str b from r]; rfl
  | lst xs => obtain ⟨a, vs, e, _⟩ := r; rw [e]; rfl
  | tup xs => obtain ⟨a, vs, e, _⟩ := r; rw [e]; rfl
  | ins c fs => obtain ⟨a, dx, ws, e, _⟩ := r; rw [e]; rfl
  | scr ns => obtain ⟨a, e, _⟩ := r; rw [e]; rfl
theorem ok_IsN : Ok2 J W (fun x y H Q => y = .non ∧ Q (.bl (decide (x = .non))) H) (kS gIsN) := ok_S fun H d1 d2 d v1 v2 Q r1 r2 e q => by
  cases d2 with
  | non => exact ⟨r2, q _ (by rw [rep_non r1]; cases d1 <;> (cases e; rfl))⟩
  | _ => cases d1 <;> cases e
theorem ok_NotN : Ok2 J W (fun x y H Q => y = .non ∧ Q (.bl (!decide (x = .non))) H) (kS gNotN) := ok_S fun H d1 d2 d v1 v2 Q r1 r2 e q => by
  cases d2 with
  | non => exact ⟨r2, q _ (by rw [rep_non r1]; cases d1 <;> (cases e; rfl))⟩
  | _ => cases d1 <;> cases e
/-- is True, is False -/
def gIsB : Vl → Vl → Option Vl
  | .bl a, .bl b => some (.bl (decide (a = b)))
  | _, _ => none
theorem ok_IsB : Ok2 J W rIsB (kS gIsB) := ok_S fun H d1 d2 d v1 v2 Q r1 r2 e q => by
  cases d1 <;> cases d2 <;> first | (cases e; exact ⟨_, _, r1, r2, q _ rfl⟩) | cases e
/-- in, not in: flat items of a list or a tuple; a text in a text -/
def eqF : Vl → Vl → Bool
  | .non, .non => true
  | .bl a, .bl b => a == b
  | .bl a, .int b => (if a then 1 else 0) == b
  | .int a, .bl b => a == (if b then 1 else 0)
  | .int a, .int b => a == b
  | .str a, .str b => a == b
  | _, _ => false
def rInA (K : PySem.W.Frag) (neg : Bool) : R2 := fun x y H Q => rIn K neg x y H Q ∨ ∃ i j, x = .str i ∧ y = .str j ∧ Q (.bl (if neg then !(!(Builtin.Str.occurrences j i 0 j.length 1).isEmpty) else (!(Builtin.Str.occurrences j i 0 j.length 1).isEmpty))) H
def inS (i j : Str) : Bool := !(Builtin.Str.occurrences j i 0 j.length 1).isEmpty
def gIn (neg : Bool) (d e : Vl) : Option Vl := match e with
  | .lst xs => if isSc d && xs.all isSc then some (.bl (if neg then !(xs.any fun y => eqF y d) else xs.any fun y => eqF y d)) else none
  | .tup xs => if isSc d && xs.all isSc then some (.bl (if neg then !(xs.any fun y => eqF y d) else xs.any fun y => eqF y d)) else none
  | .str j => (match d with
    | .str i => some (.bl (if neg then !inS i j else inS i j))
    | _ => none)
  | _ => none
theorem rep_flat {K : PySem.W.Frag} {d : Vl} {v : V} (r : Rep K H d v) (h : isSc d = true) : flatV v = true := by
  cases d with
  | non => rw [show v = .non from r]; rfl
  | bl b => rw [show v = .bl b from r]; rfl
  | int b => rw [show v = .int b from r]; rfl
  | str b => rw [show v = .str b from r]; rfl
  | _ => cases h
theorem rep_eqF {K : PySem.W.Frag} {d e : Vl} {v u : V} (r : Rep K H d v) (h : isSc d = true) (r' : Rep K H e u) (h' : isSc e = true) : eqV v u = eqF d e := by
  cases d with
  | non => rw [show v = .non from r]; cases e <;> first | (rw [show u = _ from r']; rfl) | cases h'
  | bl b => rw [show v = .bl b from r]; cases e <;> first | (rw [show u = _ from r']; rfl) | cases h'
  | int b => rw [show v = .int b from r]; cases e <;> first | (rw [show u = _ from r']; rfl) | cases h'
  | str b => rw [show v = .str b from r]; cases e <;> first | (rw [show u = _ from r']; rfl) | cases h'
  | _ => cases h
theorem rep_any {K : PySem.W.Frag} {d : Vl} {v : V} (r : Rep K H d v) (h : isSc d = true) : ∀ {xs : List Vl} {vs : List V}, RepL K H xs vs → xs.all isSc = true → vs.all flatV = true ∧ (vs.any fun y => eqV y v) = (xs.any fun y => eqF y d)
  | [], _, e, _ => by rw [show _ = [] from e]; exact ⟨rfl, rfl⟩
  | x :: xs, _, ⟨w, t, e, r1, r2⟩, z => by
    subst e
    rw [List.all_cons, Bool.and_eq_true] at z
    obtain ⟨i1, i2⟩ := rep_any r h r2 z.2
    refine ⟨by rw [List.all_cons, rep_flat r1 z.1, i1]; rfl, ?_⟩
    rw [List.any_cons, List.any_cons, rep_eqF r1 z.1 r h, i2]
theorem ok_In (hK : J.K = X.K) (neg : Bool) : Ok2 J W (rInA X.K neg) (kS (gIn neg)) := ok_S fun H d1 d2 d v1 v2 Q r1 r2 e q => by
  rw [hK] at r1 r2
  cases d2 with
  | lst xs =>
    have e' : (if isSc d1 && xs.all isSc then some (Vl.bl (if neg then !(xs.any fun y => eqF y d1) else xs.any fun y => eqF y d1)) else none) = some d := e
    by_cases z : (isSc d1 && xs.all isSc) = true
    · rw [if_pos z] at e'
      cases e'
      rw [Bool.and_eq_true] at z
      obtain ⟨p, vs, ev, g, r⟩ := r2
      obtain ⟨i1, i2⟩ := rep_any r1 z.1 r z.2
      exact .inl ⟨p, vs, ev, .inl (SqL.of g), rep_flat r1 z.1, i1, q _ (by show _ = _; unfold inV; rw [i2])⟩
    · rw [if_neg z] at e'; cases e'
  | tup xs =>
    have e' : (if isSc d1 && xs.all isSc then some (Vl.bl (if neg then !(xs.any fun y => eqF y d1) else xs.any fun y => eqF y d1)) else none) = some d := e
    by_cases z : (isSc d1 && xs.all isSc) = true
    · rw [if_pos z] at e'
      cases e'
      rw [Bool.and_eq_true] at z
      obtain ⟨p, vs, ev, g, r⟩ := r2
      obtain ⟨i1, i2⟩ := rep_any r1 z.1 r z.2
      exact .inl ⟨p, vs, ev, .inr (SqT.of g), rep_flat r1 z.1, i1, q _ (by show _ = _; unfold inV; rw [i2])⟩
    · rw [if_neg z] at e'; cases e'
  | str j =>
    cases d1 with
    | str i => cases e; exact .inr ⟨i, j, r1, r2, q _ rfl⟩
    | _ => cases e
  | _ => cases e
theorem op_inA : OpR X (compareOp .In) (rInA X.K false) := OpR.or op_in_seq op_in_str
theorem op_notInA : OpR X (compareOp .NotIn) (rInA X.K true) := OpR.or op_notIn_seq op_notin_str
end
end MV
namespace MV
open PySem PySem.Spec PyProof.Rows L2
section
variable {X : Cx} {J : Jx} {W : WX} {e a b c : Expr} {es : List Expr} {q qa qb qc qr : Bool} {f fa fb fc : Sem1} {pos : Pos} {τ : List (Sv × V)} {σ : St} {H : Hp} {ρ : En}
/-! ### items -/
theorem RepL.atI {K : PySem.W.Frag} {G : Hp} {xs : List Vl} {vs : List V} (r : RepL K G xs vs) {i : Int} {d : Vl} (h : atI xs i = some d) : ∃ v, L2.atI vs i = some v ∧ Rep K G d v := by
  unfold L2.atI at h ⊢
  rw [r.len]
  cases e : ixN xs.length i with
  | none => rw [e] at h; cases h
  | some j =>
    rw [e] at h
    obtain ⟨v, h1, h2⟩ := r.get (i := j) (x := d) h
    exact ⟨v, h1, h2⟩
def kIx : K2 := fun s t ρ => match s.d, t.d with
  | .lst xs, .int i => (match atI xs i with
    | some d => .ok (mk s.m.kid d) ρ
    | none => .bad)
  | .tup xs, .int i => (match atI xs i with
    | some d => .ok (mk s.m.kid d) ρ
    | none => .bad)
  | .str z, .int i => grd (decide (z.length ≤ sizeLine)) (match atI z.cps.toList i with
    | some c => .ok ⟨.shr, .str ⟨#[c]⟩⟩ ρ
    | none => .bad)
  | _, _ => .bad
theorem ok_ix : Ok2 J W (rIx X.K) kIx := by
  rintro ρ τ σ H ⟨ms, ds⟩ ⟨mt, dt⟩ v u Q ⟨F, B, O, I⟩ m
  cases ds with
  | lst xs =>
    cases dt with
    | int i =>
      have hu : u = .int i := I.top.rep I.base
      obtain ⟨p, vs, e1, g1, r1⟩ := I.drop1.top.list I.base
      have m : Out J W τ σ (match atI xs i with | some d => .ok (mk ms.kid d) ρ | none => .bad) Q := m
      cases z : atI xs i with
      | none => rw [z] at m; exact m.elim
      | some d =>
        rw [z] at m
        obtain ⟨w, h1, h2⟩ := r1.atI z
        exact .inl ⟨p, vs, i, w, e1, hu, SqL.of g1, h1, kid_out I.drop1.drop1 h2 m⟩
    | _ => exact m.elim
  | tup xs =>
    cases dt with
    | int i =>
      have hu : u = .int i := I.top.rep I.base
      obtain ⟨p, vs, e1, g1, r1⟩ := I.drop1.top.tup I.base
      have m : Out J W τ σ (match atI xs i with | some d => .ok (mk ms.kid d) ρ | none => .bad) Q := m
      cases z : atI xs i with
      | none => rw [z] at m; exact m.elim
      | some d =>
        rw [z] at m
        obtain ⟨w, h1, h2⟩ := r1.atI z
        exact .inr (.inl ⟨p, vs, i, w, e1, hu, SqT.of g1, h1, kid_out I.drop1.drop1 h2 m⟩)
    | _ => exact m.elim
  | str y =>
    cases dt with
    | int i =>
      have hu : u = .int i := I.top.rep I.base
      have hv : v = .str y := I.drop1.top.rep I.base
      obtain ⟨h, m⟩ := out_grd (b := decide (y.length ≤ sizeLine)) m
      cases z : atI y.cps.toList i with
      | none => rw [z] at m; exact m.elim
      | some d =>
        rw [z] at m
        exact .inr (.inr ⟨y, i, d, hv, hu, of_decide_eq_true h, z, out_sc m ⟨F, B, O, I.drop1.drop1⟩ rfl rfl⟩)
    | _ => exact m.elim
  | _ => cases dt <;> exact m.elim
theorem xe_idx (ha : XE X J W a qa fa) (hb : XE X J W b qb fb) (hs : PlainIx b := by exact (fun _ _ => rfl)) : XE X J W (.Subscript a b pos) (qa && qb) (fTwo qb fa fb kIx) := xe_ix ix_seq ok_ix ha hb hs
/-! ### slices -/
abbrev SemO := En → Rs (Option Int)
def OutO (J : Jx) (W : WX) (τ : List (Sv × V)) (σ : St) (r : Rs (Option Int)) (Q : Option Int → Hp → Prop) : Prop := match r with
  | .ok o ρ => ∀ H, Iv J ρ τ σ H → Q o H
  | .exc c fs ρ => ∀ cls d H, Ix J ρ c fs σ H cls d → W cls d σ H
  | .bad => False
def tO (J : Jx) (W : WX) (q : Bool) (f : SemO) : TO := fun σ H Q => ∃ ρ τ, Iv J ρ τ σ H ∧ (q = true ∨ NoTmp τ) ∧ OutO J W τ σ (f ρ) Q
structure XO (X : Cx) (J : Jx) (W : WX) (e : Option Expr) (q : Bool) (f : SemO) : Prop where
  po : PO X e (tO J W q f)
def fNoP : SemO := fun ρ => .ok none ρ
def kPart : Sv → En → Rs (Option Int) := fun s ρ => match s.d with
  | .int i => .ok (some i) ρ
  | _ => .bad
def fPart (fa : Sem1) : SemO := fun ρ => bnd (fa ρ) kPart
theorem xo_none : XO X J W none true fNoP := by
  refine ⟨⟨fun pins s σ H Q I h => (po_none (X := X)).run pins s σ H Q I ?_⟩⟩
  obtain ⟨ρ, τ, I, c, m⟩ := h
  exact m H I
theorem xo_some (ha : XE X J W a qa fa) : XO X J W (some a) qa (fPart fa) := by
  refine ⟨⟨fun pins s σ H Q I h => (po_some ha.pe).run pins s σ H Q I ?_⟩⟩
  obtain ⟨ρ, τ, I, c, m⟩ := h
  refine ⟨ρ, τ, I, c, ?_⟩
  unfold fPart at m
  cases e : fa ρ with
  | ok s ρ1 =>
    rw [e] at m
    rintro v H1 ⟨F, B, O, I1⟩
    have m : OutO J W τ σ (kPart s ρ1) Q := m
    obtain ⟨md, d⟩ := s
    cases d with
    | int x => exact ⟨x, I1.top.rep I1.base, m H1 ⟨F, B, O, I1.drop1⟩⟩
    | _ => exact m.elim
  | exc cc fs ρ1 => rw [e] at m; exact m
  | bad => rw [e] at m; exact m
def cutD {α : Type} (xs : List α) (lo hi : Option Int) : List α := (xs.drop (HT.sIx xs.length 0 lo)).take (HT.sIx xs.length xs.length hi - HT.sIx xs.length 0 lo)
theorem RepL.cut {K : PySem.W.Frag} {G : Hp} {xs : List Vl} {vs : List V} (r : RepL K G xs vs) (lo hi : Option Int) : RepL K G (cutD xs lo hi) (cutV vs lo hi) := by
  unfold cutD cutV
  rw [r.len]
  exact (r.drop _).take _
def kSl (s : Sv) (lo hi : Option Int) (ρ : En) : Rs Sv := match s.d with
  | .lst xs => grd (lft s.m xs) (.ok ⟨.own, .lst (cutD xs lo hi)⟩ ρ)
  | .scr ns => .ok ⟨.own, .lst (cutD (ns.map Vl.int) lo hi)⟩ ρ
  | .str z => grd (decide (z.length ≤ sizeLine)) (.ok ⟨.shr, .str (cutS z lo hi)⟩ ρ)
  | _ => .bad
def fSl (ql qh : Bool) (fa : Sem1) (fl fh : SemO) : Sem1 := fun ρ => bnd (fa ρ) fun s ρ1 => grd (held s.m (ql && qh)) (bnd (fl ρ1) fun l ρ2 => bnd (fh ρ2) fun h ρ3 => kSl s l h ρ3)
def rSlA (K : PySem.W.Frag) : V → Option Int → Option Int → Hp → VK → Prop := fun x lo hi H Q => rSlL K x lo hi H Q ∨ rSlS x lo hi H Q
theorem sl_A : SlR X (rSlA X.K) := sl_list.or sl_str
theorem sl_ok {s : Sv} {v : V} {lo hi : Option Int} {Q : VK} (hK : J.K = X.K) (I : Iv J ρ ((s, v) :: τ) σ H) (m : Out J W τ σ (kSl s lo hi ρ) Q) : rSlA X.K v lo hi H Q := by
  obtain ⟨F, B, O, I⟩ := I
  obtain ⟨md, d⟩ := s
  cases d with
  | lst xs =>
    obtain ⟨h, m⟩ := out_grd (b := lft md xs) m
    obtain ⟨p, vs, e, g, r⟩ := I.top.list I.base
    exact .inl ⟨p, vs, e, SqL.of g, fun y ny => m _ _ (I.drop1.new ny ⟨_, rfl, (lft_rep h r).cut lo hi⟩)⟩
  | scr ns =>
    obtain ⟨p, e, g⟩ := I.top.rep I.base
    exact .inl ⟨p, _, e, hK ▸ g, fun y ny => m _ _ (I.drop1.new ny ⟨_, rfl, (repL_of_ints ns).cut lo hi⟩)⟩
  | str z =>
    obtain ⟨h, m⟩ := out_grd (b := decide (z.length ≤ sizeLine)) m
    exact .inr ⟨z, I.top.rep I.base, of_decide_eq_true h, out_sc m ⟨F, B, O, I.drop1⟩ rfl rfl⟩
  | _ => exact m.elim
theorem xe_sl {lo hi : Option Expr} {ql qh : Bool} {fl fh : SemO} {p2 : Pos} (hK : J.K = X.K) (ha : XE X J W a qa fa) (hl : XO X J W lo ql fl) (hu : XO X J W hi qh fh) : XE X J W (.Subscript a (.Slice lo hi none p2) pos) (qa && (ql && qh)) (fSl ql qh fa fl fh) := by
  refine ⟨(pe_slice sl_A ha.pe hl.po hu.po).imp fun σ H Q h => ?_⟩
  obtain ⟨ρ, τ, I, c, m⟩ := h
  refine ⟨ρ, τ, I, (qand c).1, ?_⟩
  unfold fSl at m
  cases e : fa ρ with
  | ok s ρ1 =>
    rw [e] at m
    intro v H1 I1
    obtain ⟨m, hq⟩ := grd_out (s := s) (qb := ql && qh) m
    have c2 : (ql && qh) = true ∨ NoTmp ((s, v) :: τ) := by
      rcases c with z | z
      · exact .inl (Bool.and_eq_true_iff.mp z).2
      · exact hq.imp id fun y => z.cons y
    refine ⟨ρ1, _, I1, (qand c2).1, ?_⟩
    cases e2 : fl ρ1 with
    | ok l ρ2 =>
      rw [e2] at m
      intro H2 I2
      refine ⟨ρ2, _, I2, (qand c2).2, ?_⟩
      have m : Out J W τ σ (bnd (fh ρ2) fun h ρ3 => kSl s l h ρ3) Q := m
      cases e3 : fh ρ2 with
      | ok h ρ3 => rw [e3] at m; exact fun H3 I3 => sl_ok hK I3 m
      | exc cc fs ρ1 => rw [e3] at m; exact m
      | bad => rw [e3] at m; exact m
    | exc cc fs ρ1 => rw [e2] at m; exact m
    | bad => rw [e2] at m; exact m
  | exc cc fs ρ1 => rw [e] at m; exact m
  | bad => rw [e] at m; exact m
/-- xs[::-1] -/
def kRev : K1 := fun s ρ => match s.d with
  | .lst xs => grd (lft s.m xs) (.ok ⟨.own, .lst xs.reverse⟩ ρ)
  | _ => .bad
theorem xe_rev {k : Nat} {p1 p2 p3 : Pos} (ha : XE X J W a qa fa) : XE X J W (.Subscript a (.Slice none none (some (.UnaryOp .USub (.Constant (.int 1) k p1) p2)) p3) pos) qa (fOne fa kRev) := by
  refine ⟨(pe_revL ha.pe).imp fun σ H Q h => tE_one (fun _ _ _ _ _ I _ _ _ o h => o _ _ _ _ _ _ _ I h) (r := fun x H1 Q => ∃ a xs, x = .ref a ∧ SqL X.K H1 a xs ∧ ∀ p, H1 p = none → Q (.ref p) (upd H1 p (.lst xs.reverse))) ?_ h⟩
  rintro ρ τ σ H ⟨md, d⟩ v Q ⟨F, B, O, I⟩ m
  cases d with
  | lst xs =>
    obtain ⟨h, m⟩ := out_grd (b := lft md xs) m
    obtain ⟨p, vs, e, g, r⟩ := I.top.list I.base
    exact ⟨p, vs, e, SqL.of g, fun y ny => m _ _ (I.drop1.new ny ⟨_, rfl, (lft_rep h r).rev⟩)⟩
  | _ => exact m.elim
/-! ### freezing a value -/
def fFrz (fa : Sem1) : Sem1 := fun ρ => bnd (fa ρ) fun s ρ1 => match s.m with
  | .own => .ok ⟨.shr, s.d⟩ ρ1
  | .shr => .ok s ρ1
  | _ => .bad
theorem xe_frz (ha : XE X J W a qa fa) : XE X J W a qa (fFrz fa) := by
  refine ⟨ha.pe.imp fun σ H Q h => ?_⟩
  obtain ⟨ρ, τ, I, c, m⟩ := h
  refine ⟨ρ, τ, I, c, ?_⟩
  unfold fFrz at m
  cases e : fa ρ with
  | ok s ρ1 =>
    rw [e] at m
    rintro v H1 ⟨F, B, O, I1⟩
    obtain ⟨md, d⟩ := s
    cases md with
    | own => exact m v H1 I1.frz
    | shr => exact m v H1 ⟨F, B, O, I1⟩
    | _ => exact m.elim
  | exc cc fs ρ1 => rw [e] at m; exact m
  | bad => rw [e] at m; exact m
/-! ### lists of arguments -/
inductive Ar where
  | ex (s : Sv)
  | sl (i : Nat)
def Stk (σ : St) : List Ar → List V → List (Sv × V) → List (Sv × V) → Prop
  | [], [], τ, τ' => τ' = τ
  | .ex s :: as, v :: vs, τ, τ' => Stk σ as vs ((s, v) :: τ) τ'
  | .sl i :: as, v :: vs, τ, τ' => σ[i]? = some (some v) ∧ Stk σ as vs τ τ'
  | _, _, _, _ => False
abbrev SemA := En → Rs (List Ar)
def OutA (J : Jx) (W : WX) (τ : List (Sv × V)) (σ : St) (r : Rs (List Ar)) (Q : List V → Hp → Prop) : Prop := match r with
  | .ok as ρ => ∀ vs τ' H, Stk σ as vs τ τ' → Iv J ρ τ' σ H → Q vs H
  | .exc c fs ρ => ∀ cls d H, Ix J ρ c fs σ H cls d → W cls d σ H
  | .bad => False
def tA (J : Jx) (W : WX) (q : Bool) (f : SemA) : TA := fun σ H Q => ∃ ρ τ, Iv J ρ τ σ H ∧ (q = true ∨ NoTmp τ) ∧ OutA J W τ σ (f ρ) Q
structure XA (X : Cx) (J : Jx) (W : WX) (es : List Expr) (q : Bool) (f : SemA) : Prop where
  pa : PA X es (tA J W q f)
theorem _root_.L2.PA.imp {X : Cx} {es : List Expr} {t t' : TA} (h : PA X es t) (i : ∀ σ H Q, t' σ H Q → t σ H Q) : PA X es t' := ⟨fun pos pins s σ H Q I q => h.run pos pins s σ H Q I (i σ H Q q)⟩
def aNil : SemA := fun ρ => .ok [] ρ
def aEx (fa : Sem1) (fr : SemA) : SemA := fun ρ => bnd (fa ρ) fun s ρ1 => grd (!s.m.isT) (bnd (fr ρ1) fun as ρ2 => .ok (.ex s :: as) ρ2)
def asg (ρ : En) (i : Nat) : Bool := match ρ[i]? with
  | some (some _) => true
  | _ => false
def aSl (i : Nat) (fr : SemA) : SemA := fun ρ => grd (asg ρ i) (bnd (fr ρ) fun as ρ2 => .ok (.sl i :: as) ρ2)
theorem xa_nil : XA X J W [] true aNil := ⟨pa_nil.imp fun σ H Q ⟨ρ, τ, I, c, m⟩ => m [] τ H rfl I⟩
theorem xa_ex {fr : SemA} (ha : XE X J W a qa fa) (hr : XA X J W es qr fr) (hs : starEach (a :: es) X.env = (false, eval a X.env) :: starEach es X.env := by rfl) : XA X J W (a :: es) (qa && qr) (aEx fa fr) := by
  refine ⟨(pa_cons ha.pe hr.pa hs).imp fun σ H Q h => ?_⟩
  obtain ⟨ρ, τ, I, c, m⟩ := h
  refine ⟨ρ, τ, I, (qand c).1, ?_⟩
  unfold aEx at m
  cases e : fa ρ with
  | ok s ρ1 =>
    rw [e] at m
    intro v H1 I1
    have m2 : OutA J W τ σ (bnd (fr ρ1) fun as ρ2 => .ok (.ex s :: as) ρ2) Q ∧ s.m ≠ .tmp := by
      obtain ⟨md, d⟩ := s
      cases md <;> first | exact m.elim | exact ⟨m, fun z => nomatch z⟩
    refine ⟨ρ1, _, I1, (qand c).2.imp id fun z => z.cons m2.2, ?_⟩
    have m := m2.1
    cases e2 : fr ρ1 with
    | ok as ρ2 => rw [e2] at m; exact fun vs τ' H2 k I2 => m (v :: vs) τ' H2 k I2
    | exc cc fs ρ1 => rw [e2] at m; exact m
    | bad => rw [e2] at m; exact m
  | exc cc fs ρ1 => rw [e] at m; exact m
  | bad => rw [e] at m; exact m
theorem xa_sl {fr : SemA} {i : Nat} {x : Str} {p : Pos} (hN : X.N[i]? = some x) (hv : Vis X.env.scope x) (hr : XA X J W es qr fr) (hs : starEach (.Name x p :: es) X.env = (false, eval (.Name x p) X.env) :: starEach es X.env := by rfl)
    (hd : (x == ("__debug__" : Str)) = false := by decide) (hcd : (x == ("__classdict__" : Str)) = false := by decide) : XA X J W (.Name x p :: es) qr (aSl i fr) := by
  refine ⟨(pa_cons (pe_var hN hv hd hcd) hr.pa hs).imp fun σ H Q h => ?_⟩
  obtain ⟨ρ, τ, ⟨F, B, O, I⟩, c, m⟩ := h
  unfold aSl asg at m
  cases e : ρ[i]? with
  | none => rw [e] at m; exact m.elim
  | some o =>
    cases o with
    | none => rw [e] at m; exact m.elim
    | some s =>
      rw [e] at m
      obtain ⟨_, v, e1, _⟩ := I.slot i s e
      refine ⟨v, e1, ρ, τ, ⟨F, B, O, I⟩, c, ?_⟩
      have m : OutA J W τ σ (bnd (fr ρ) fun as ρ2 => .ok (.sl i :: as) ρ2) Q := m
      cases e2 : fr ρ with
      | ok as ρ2 => rw [e2] at m; exact fun vs τ' H2 k I2 => m (v :: vs) τ' H2 ⟨e1, k⟩ I2
      | exc cc fs ρ1 => rw [e2] at m; exact m
      | bad => rw [e2] at m; exact m
/-! ### displays -/
/-- all the items are frozen (or scalars): their data -/
def frzAll : List Ar → Option (List Vl)
  | [] => some []
  | .ex ⟨.shr, d⟩ :: as => (frzAll as).map (d :: ·)
  | _ => none
theorem frzAll_rep {F B : Hp} {O : Addr → Option Ow} : ∀ {as : List Ar} {ds : List Vl} {vs : List V} {τ τ' : List (Sv × V)}, frzAll as = some ds → Stk σ as vs τ τ' → IvW J F B O ρ τ' σ H → IvW J F B O ρ τ σ H ∧ RepL J.K F ds vs
  | [], _, [], _, _, e, k, I => by
    cases e
    rw [show _ = _ from k] at I
    exact ⟨I, rfl⟩
  | [], _, _ :: _, _, _, _, k, _ => k.elim
  | .ex ⟨.shr, d⟩ :: as, _, v :: vs, τ, τ', e, k, I => by
    have e' : (frzAll as).map (d :: ·) = some _ := e
    obtain ⟨ds, e1, e2⟩ := Option.map_eq_some_iff.mp e'
    subst e2
    obtain ⟨I1, r⟩ := frzAll_rep e1 (show Stk σ as vs ((⟨.shr, d⟩, v) :: τ) τ' from k) I
    exact ⟨I1.drop1, v, vs, rfl, I1.top, r⟩
  | .ex ⟨.shr, d⟩ :: as, _, [], _, _, _, k, _ => k.elim
  | .ex ⟨.own, d⟩ :: as, _, _, _, _, e, _, _ => by cases e
  | .ex ⟨.io, d⟩ :: as, _, _, _, _, e, _, _ => by cases e
  | .ex ⟨.tmp, d⟩ :: as, _, _, _, _, e, _, _ => by cases e
  | .ex ⟨.bor, d⟩ :: as, _, _, _, _, e, _, _ => by cases e
  | .sl i :: as, _, _, _, _, e, _, _ => by cases e
def kLst (as : List Ar) (ρ : En) : Rs Sv := match frzAll as with
  | some ds => grd (decide (ds.length ≤ 1000)) (.ok ⟨.own, .lst ds⟩ ρ)
  | none => .bad
def kTup (as : List Ar) (ρ : En) : Rs Sv := match frzAll as with
  | some ds => grd (decide (ds.length ≤ 1000)) (.ok ⟨.shr, .tup ds⟩ ρ)
  | none => .bad
def fLst (f : SemA) : Sem1 := fun ρ => bnd (f ρ) kLst
def fTup (f : SemA) : Sem1 := fun ρ => bnd (f ρ) kTup
theorem thousand {n : Nat} (h : n ≤ 1000) : n ≤ sizeLine := Nat.le_trans h (by decide)
theorem xe_lst {f : SemA} (h : XA X J W es q f) : XE X J W (.List es pos) q (fLst f) := by
  refine ⟨(pe_lst h.pa).imp fun σ H Q h => ?_⟩
  obtain ⟨ρ, τ, I, c, m⟩ := h
  refine ⟨ρ, τ, I, c, ?_⟩
  unfold fLst at m
  cases e : f ρ with
  | ok as ρ1 =>
    rw [e] at m
    rintro vs τ' H1 k ⟨F, B, O, I1⟩
    have m : Out J W τ σ (kLst as ρ1) Q := m
    unfold kLst at m
    cases z : frzAll as with
    | none => rw [z] at m; exact m.elim
    | some ds =>
      rw [z] at m
      obtain ⟨h, m⟩ := out_grd (b := decide (ds.length ≤ 1000)) m
      obtain ⟨I2, r⟩ := frzAll_rep z k I1
      exact ⟨by rw [r.len]; exact thousand (of_decide_eq_true h), fun p np => m _ _ (I2.new np ⟨_, rfl, r⟩)⟩
  | exc cc fs ρ1 => rw [e] at m; exact m
  | bad => rw [e] at m; exact m
theorem xe_tup {f : SemA} {k1} (h : XA X J W es q f) : XE X J W (.Tuple es k1 pos) q (fTup f) := by
  refine ⟨(pe_tup h.pa).imp fun σ H Q h => ?_⟩
  obtain ⟨ρ, τ, I, c, m⟩ := h
  refine ⟨ρ, τ, I, c, ?_⟩
  unfold fTup at m
  cases e : f ρ with
  | ok as ρ1 =>
    rw [e] at m
    rintro vs τ' H1 k ⟨F, B, O, I1⟩
    have m : Out J W τ σ (kTup as ρ1) Q := m
    unfold kTup at m
    cases z : frzAll as with
    | none => rw [z] at m; exact m.elim
    | some ds =>
      rw [z] at m
      obtain ⟨h, m⟩ := out_grd (b := decide (ds.length ≤ 1000)) m
      obtain ⟨I2, r⟩ := frzAll_rep z k I1
      refine ⟨by rw [r.len]; exact thousand (of_decide_eq_true h), fun p np => m _ _ (I2.newF np ⟨p, vs, rfl, upd_same, r.mono (upd_sub (I2.base.freeF (I2.base.freeB np)))⟩)⟩
  | exc cc fs ρ1 => rw [e] at m; exact m
  | bad => rw [e] at m; exact m
/-! ### built-ins by name -/
theorem xe_bi1 {x : Str} {id : String} {r : List V → Hp → VK → Prop} {k : K1} {p : Pos} (hc : CallR X (.builtin id) r) (hk : Ok1 J W (fun v => r [v]) k) (hg : Gl X x) (hm : X.mg x = none) (hv : bootBuiltins x = some (.builtin id)) (ha : XE X J W a qa fa)
    (hn : x ≠ "__name__" := by decide) (hdb : (x == ("__debug__" : Str)) = false := by decide) (he : starEach [a] X.env = (false, eval a X.env) :: starEach [] X.env := by rfl) (hpl : (backTo pos (starEach [] X.env)).any (·.1) = false := by rfl) : XE X J W (.Call (.Name x p) [a] [] pos) qa (fOne fa k) :=
  ⟨(pe_callB hc hg hm hv (pa_cons ha.pe pa_nil he) hn hdb he hpl).imp fun σ H Q h => tE_one (fun _ _ _ _ _ I _ _ _ o h => o _ _ _ _ _ _ _ I h) hk h⟩
theorem xe_bi2 {x : Str} {id : String} {r : List V → Hp → VK → Prop} {k : K2} {p : Pos} (hc : CallR X (.builtin id) r) (hk : Ok2 J W (fun v u => r [v, u]) k) (hg : Gl X x) (hm : X.mg x = none) (hv : bootBuiltins x = some (.builtin id)) (ha : XE X J W a qa fa) (hb : XE X J W b qb fb)
    (hn : x ≠ "__name__" := by decide) (hdb : (x == ("__debug__" : Str)) = false := by decide) (he : starEach [a, b] X.env = (false, eval a X.env) :: starEach [b] X.env := by rfl) (he2 : starEach [b] X.env = (false, eval b X.env) :: starEach [] X.env := by rfl) (hpl : (backTo pos (starEach [b] X.env)).any (·.1) = false := by rfl) : XE X J W (.Call (.Name x p) [a, b] [] pos) (qa && qb) (fTwo qb fa fb k) :=
  ⟨(pe_callB hc hg hm hv (pa_cons ha.pe (pa_cons hb.pe pa_nil he2) he) hn hdb he hpl).imp fun σ H Q h => tE_two hk h⟩
theorem xe_ty1 {x : Str} {T : String} {r : List V → Hp → VK → Prop} {k : K1} {p : Pos} (hc : CallR X (.type T) r) (hk : Ok1 J W (fun v => r [v]) k) (hg : Gl X x) (hm : X.mg x = none) (hv : bootBuiltins x = some (.type T)) (ha : XE X J W a qa fa)
    (hn : x ≠ "__name__" := by decide) (hdb : (x == ("__debug__" : Str)) = false := by decide) (he : starEach [a] X.env = (false, eval a X.env) :: starEach [] X.env := by rfl) (hpl : (backTo pos (starEach [] X.env)).any (·.1) = false := by rfl) : XE X J W (.Call (.Name x p) [a] [] pos) qa (fOne fa k) :=
  ⟨(pe_callTy hc hg hm hv (pa_cons ha.pe pa_nil he) hn hdb he hpl).imp fun σ H Q h => tE_one (fun _ _ _ _ _ I _ _ _ o h => o _ _ _ _ _ _ _ I h) hk h⟩
def gLen : Vl → Option Vl
  | .lst xs => some (.int xs.length)
  | .tup xs => some (.int xs.length)
  | .str s => if s.length ≤ sizeLine then some (.int s.length) else none
  | _ => none
theorem ok_len : Ok1 J W (fun v H Q => ∃ x n, [v] = [x] ∧ LenV X.K x H n ∧ Q (.int n) H) (kS1 gLen) := ok_S1 fun H d1 d v Q r e q => by
  cases d1 with
  | lst xs =>
    cases e
    obtain ⟨p, vs, e, g, r⟩ := r
    subst e
    exact ⟨_, vs.length, rfl, .inl ⟨vs, SqL.of g, rfl⟩, q _ (by rw [r.len]; rfl)⟩
  | tup xs =>
    cases e
    obtain ⟨p, vs, e, g, r⟩ := r
    subst e
    exact ⟨_, vs.length, rfl, .inr ⟨vs, SqT.of g, rfl⟩, q _ (by rw [r.len]; rfl)⟩
  | str s =>
    have e' : (if s.length ≤ sizeLine then some (Vl.int s.length) else none) = some d := e
    by_cases z : s.length ≤ sizeLine
    · rw [if_pos z] at e'
      cases e'
      have hv : v = .str s := r
      subst hv
      exact ⟨_, s.length, rfl, ⟨z, rfl⟩, q _ rfl⟩
    · rw [if_neg z] at e'; cases e'
  | _ => cases e
def gInt : Vl → Option Vl
  | .int i => some (.int i)
  | .bl b => some (.int (if b then 1 else 0))
  | _ => none
theorem ok_int : Ok1 J W (fun v H Q => (∃ i, [v] = [V.int i] ∧ Q (.int i) H) ∨ ∃ k, [v] = [V.bl k] ∧ Q (.int (if k then 1 else 0)) H) (kS1 gInt) := ok_S1 fun H d1 d v Q r e q => by
  cases d1 with
  | int i => cases e; exact .inl ⟨i, by rw [show v = .int i from r], q _ rfl⟩
  | bl i => cases e; exact .inr ⟨i, by rw [show v = .bl i from r], q _ rfl⟩
  | _ => cases e
def gAbs : Vl → Option Vl
  | .int i => some (.int (if i < 0 then -i else i))
  | _ => none
theorem ok_abs : Ok1 J W (fun v H Q => ∃ i, [v] = [V.int i] ∧ Q (.int (if i < 0 then -i else i)) H) (kS1 gAbs) := ok_S1 fun H d1 d v Q r e q => by
  cases d1 with
  | int i => cases e; exact ⟨i, by rw [show v = .int i from r], q _ rfl⟩
  | _ => cases e
theorem ok_max2 : Ok2 J W (fun v u H Q => ∃ i j, [v, u] = [V.int i, V.int j] ∧ Q (.int (if j > i then j else i)) H) (kS (gI fun i j => if j > i then j else i)) := ok_S fun H d1 d2 d v1 v2 Q r1 r2 e q => by
  cases d1 <;> cases d2 <;> first | (cases e; exact ⟨_, _, by rw [show v1 = _ from r1, show v2 = _ from r2], q _ rfl⟩) | cases e
theorem ok_min2 : Ok2 J W (fun v u H Q => ∃ i j, [v, u] = [V.int i, V.int j] ∧ Q (.int (if j < i then j else i)) H) (kS (gI fun i j => if j < i then j else i)) := ok_S fun H d1 d2 d v1 v2 Q r1 r2 e q => by
  cases d1 <;> cases d2 <;> first | (cases e; exact ⟨_, _, by rw [show v1 = _ from r1, show v2 = _ from r2], q _ rfl⟩) | cases e
/-- the numbers of a list -/
def iL : List Vl → Option (List Int)
  | [] => some []
  | .int i :: xs => (iL xs).map (i :: ·)
  | _ => none
theorem iL_map (ns : List Int) : iL (ns.map Vl.int) = some ns := by
  induction ns with
  | nil => rfl
  | cons n ns ih => show (iL (ns.map Vl.int)).map (n :: ·) = _; rw [ih]; rfl
theorem iL_eq : ∀ {xs : List Vl} {ns : List Int}, iL xs = some ns → xs = ns.map Vl.int
  | [], _, e => by cases e; rfl
  | .int i :: xs, _, e => by
    obtain ⟨ns, e1, e2⟩ := Option.map_eq_some_iff.mp (show (iL xs).map (i :: ·) = some _ from e)
    subst e2
    rw [iL_eq e1]; rfl
  | .non :: _, _, e => by cases e
  | .bl _ :: _, _, e => by cases e
  | .str _ :: _, _, e => by cases e
  | .lst _ :: _, _, e => by cases e
  | .tup _ :: _, _, e => by cases e
  | .ins _ _ :: _, _, e => by cases e
  | .scr _ :: _, _, e => by cases e
def maxL : List Int → Int
  | [] => 0
  | [n] => n
  | n :: ns => max n (maxL ns)
def minL : List Int → Int
  | [] => 0
  | [n] => n
  | n :: ns => min n (minL ns)
theorem maxL_cons (n : Int) (ns : List Int) (h : ns ≠ []) : maxL (n :: ns) = max n (maxL ns) := by
  cases ns with
  | nil => exact absurd rfl h
  | cons _ _ => rfl
theorem minL_cons (n : Int) (ns : List Int) (h : ns ≠ []) : minL (n :: ns) = min n (minL ns) := by
  cases ns with
  | nil => exact absurd rfl h
  | cons _ _ => rfl
theorem maxL_mem : ∀ {ns : List Int}, ns ≠ [] → maxL ns ∈ ns ∧ ∀ n ∈ ns, n ≤ maxL ns
  | [], h => absurd rfl h
  | [n], _ => ⟨List.mem_singleton.mpr rfl, fun m hm => by rw [List.mem_singleton.mp hm]; exact Int.le_refl _⟩
  | n :: m :: ns, _ => by
    obtain ⟨h1, h2⟩ := maxL_mem (ns := m :: ns) (List.cons_ne_nil _ _)
    rw [maxL_cons _ _ (List.cons_ne_nil _ _)]
    refine ⟨?_, fun k hk => ?_⟩
    · rcases Int.le_total n (maxL (m :: ns)) with h | h
      · rw [Int.max_eq_right h]; exact List.mem_cons_of_mem _ h1
      · rw [Int.max_eq_left h]; exact List.mem_cons_self
    · rcases List.mem_cons.mp hk with e | e
      · rw [e]; exact Int.le_max_left _ _
      · exact Int.le_trans (h2 k e) (Int.le_max_right _ _)
theorem minL_mem : ∀ {ns : List Int}, ns ≠ [] → minL ns ∈ ns ∧ ∀ n ∈ ns, minL ns ≤ n
  | [], h => absurd rfl h
  | [n], _ => ⟨List.mem_singleton.mpr rfl, fun m hm => by rw [List.mem_singleton.mp hm]; exact Int.le_refl _⟩
  | n :: m :: ns, _ => by
    obtain ⟨h1, h2⟩ := minL_mem (ns := m :: ns) (List.cons_ne_nil _ _)
    rw [minL_cons _ _ (List.cons_ne_nil _ _)]
    refine ⟨?_, fun k hk => ?_⟩
    · rcases Int.le_total n (minL (m :: ns)) with h | h
      · rw [Int.min_eq_left h]; exact List.mem_cons_self
      · rw [Int.min_eq_right h]; exact List.mem_cons_of_mem _ h1
    · rcases List.mem_cons.mp hk with e | e
      · rw [e]; exact Int.min_le_left _ _
      · exact Int.le_trans (Int.min_le_right _ _) (h2 k e)
def gSum : Vl → Option Vl
  | .lst xs => (iL xs).map fun ns => .int ns.sum
  | .tup xs => (iL xs).map fun ns => .int ns.sum
  | _ => none
/-- sum of a list or a tuple of whole numbers -/
def rSumA (K : PySem.W.Frag) : List V → Hp → VK → Prop := fun vs H Q => ∃ (a : Addr) (ns : List Int), vs = [V.ref a] ∧ (SqL K H a (ns.map V.int) ∨ SqT K H a (ns.map V.int)) ∧ Q (.int ns.sum) H
theorem cr_sumA {X : Cx} (hc : X.calm = true) : CallR X (.builtin "sum") (rSumA X.K) := by
  intro pins s σ H vs us Q I r h
  obtain ⟨a, ns, rfl, hs | hs, q⟩ := h
  · exact cr_sum hc pins s σ H _ us Q I r ⟨a, ns, rfl, hs, q⟩
  · obtain ⟨its, rv, ht, _⟩ := I.tuple hs
    rw [Vals.ref1 r]
    obtain ⟨xs, e⟩ := rv.ints.allInts.items
    have hn : numsOf (intItems xs).toList = ns := by rw [← e]; exact rv.ints.numsOf
    rw [nums_intItems] at hn
    rw [e] at ht
    refine PySem.W.ktm_sumG (I.ok.hd hc) ht fun h' tk t' hk => ?_
    rw [preSum_eq, List.take_of_length_le (by simp), hn]
    exact ⟨.int _, H, I.kept hk, ⟨_, rfl⟩, q⟩
def gMax : Vl → Option Vl
  | .lst xs => (iL xs).bind fun ns => if ns.isEmpty then none else some (.int (maxL ns))
  | _ => none
def gMin : Vl → Option Vl
  | .lst xs => (iL xs).bind fun ns => if ns.isEmpty then none else some (.int (minL ns))
  | _ => none
theorem ok_sum : Ok1 J W (fun v => rSumA X.K [v]) (kS1 gSum) := ok_S1 fun H d1 d v Q r e q => by
  cases d1 with
  | lst xs =>
    obtain ⟨ns, e1, e2⟩ := Option.map_eq_some_iff.mp (show (iL xs).map _ = some d from e)
    subst e2
    obtain ⟨p, vs, ev, g, r⟩ := r
    rw [iL_eq e1] at r
    rw [repL_ints r] at g
    exact ⟨p, ns, by rw [ev], .inl (SqL.of g), q _ rfl⟩
  | tup xs =>
    obtain ⟨ns, e1, e2⟩ := Option.map_eq_some_iff.mp (show (iL xs).map _ = some d from e)
    subst e2
    obtain ⟨p, vs, ev, g, r⟩ := r
    rw [iL_eq e1] at r
    rw [repL_ints r] at g
    exact ⟨p, ns, by rw [ev], .inr (SqT.of g), q _ rfl⟩
  | _ => cases e
theorem ok_max : Ok1 J W (fun v => rMax X.K [v]) (kS1 gMax) := ok_S1 fun H d1 d v Q r e q => by
  cases d1 with
  | lst xs =>
    obtain ⟨ns, e1, e2⟩ := Option.bind_eq_some_iff.mp (show (iL xs).bind _ = some d from e)
    obtain ⟨p, vs, ev, g, r⟩ := r
    rw [iL_eq e1] at r
    rw [repL_ints r] at g
    cases ns with
    | nil => cases e2
    | cons n ns =>
      cases e2
      obtain ⟨h1, h2⟩ := maxL_mem (ns := n :: ns) (List.cons_ne_nil _ _)
      exact ⟨p, n :: ns, by rw [ev], SqL.of g, Nat.succ_pos _, fun m hm hy => q _ (by rw [Int.le_antisymm (h2 m hm) (hy _ h1)]; rfl)⟩
  | _ => cases e
theorem ok_min : Ok1 J W (fun v => rMin X.K [v]) (kS1 gMin) := ok_S1 fun H d1 d v Q r e q => by
  cases d1 with
  | lst xs =>
    obtain ⟨ns, e1, e2⟩ := Option.bind_eq_some_iff.mp (show (iL xs).bind _ = some d from e)
    obtain ⟨p, vs, ev, g, r⟩ := r
    rw [iL_eq e1] at r
    rw [repL_ints r] at g
    cases ns with
    | nil => cases e2
    | cons n ns =>
      cases e2
      obtain ⟨h1, h2⟩ := minL_mem (ns := n :: ns) (List.cons_ne_nil _ _)
      exact ⟨p, n :: ns, by rw [ev], SqL.of g, Nat.succ_pos _, fun m hm hy => q _ (by rw [Int.le_antisymm (hy _ h1) (h2 m hm)]; rfl)⟩
  | _ => cases e
def bls : List Vl → Option (List Bool)
  | [] => some []
  | .bl i :: xs => (bls xs).map (i :: ·)
  | _ => none
theorem bls_rep {K : PySem.W.Frag} {G : Hp} : ∀ {xs : List Vl} {bs : List Bool} {vs : List V}, bls xs = some bs → RepL K G xs vs → vs = bs.map V.bl
  | [], _, _, e, r => by cases e; exact r
  | .bl i :: xs, _, _, e, ⟨v, t, ev, r1, r2⟩ => by
    obtain ⟨ns, e1, e2⟩ := Option.map_eq_some_iff.mp (show (bls xs).map (i :: ·) = some _ from e)
    subst e2
    rw [ev, show v = .bl i from r1, bls_rep e1 r2]; rfl
  | .non :: _, _, _, e, _ => by cases e
  | .int _ :: _, _, _, e, _ => by cases e
  | .str _ :: _, _, _, e, _ => by cases e
  | .lst _ :: _, _, _, e, _ => by cases e
  | .tup _ :: _, _, _, e, _ => by cases e
  | .ins _ _ :: _, _, _, e, _ => by cases e
  | .scr _ :: _, _, _, e, _ => by cases e
def gAny : Vl → Option Vl
  | .lst xs => (bls xs).map fun bs => .bl (bs.any id)
  | _ => none
def gAll : Vl → Option Vl
  | .lst xs => (bls xs).map fun bs => .bl (bs.all id)
  | _ => none
theorem ok_any : Ok1 J W (fun v => rAny X.K [v]) (kS1 gAny) := ok_S1 fun H d1 d v Q r e q => by
  cases d1 with
  | lst xs =>
    obtain ⟨ns, e1, e2⟩ := Option.map_eq_some_iff.mp (show (bls xs).map _ = some d from e)
    subst e2
    obtain ⟨p, vs, ev, g, r⟩ := r
    rw [bls_rep e1 r] at g
    exact ⟨p, ns, by rw [ev], SqL.of g, q _ rfl⟩
  | _ => cases e
theorem ok_all : Ok1 J W (fun v => rAll X.K [v]) (kS1 gAll) := ok_S1 fun H d1 d v Q r e q => by
  cases d1 with
  | lst xs =>
    obtain ⟨ns, e1, e2⟩ := Option.map_eq_some_iff.mp (show (bls xs).map _ = some d from e)
    subst e2
    obtain ⟨p, vs, ev, g, r⟩ := r
    rw [bls_rep e1 r] at g
    exact ⟨p, ns, by rw [ev], SqL.of g, q _ rfl⟩
  | _ => cases e
/-- list(x), tuple(x) -/
def kListOf : K1 := fun s ρ => match s.d with
  | .lst xs => grd (lft s.m xs) (.ok ⟨.own, .lst xs⟩ ρ)
  | .tup xs => grd (lft s.m xs) (.ok ⟨.own, .lst xs⟩ ρ)
  | _ => .bad
theorem ok_listOf : Ok1 J W (fun v H Q => ∃ p ys, [v] = [V.ref p] ∧ (SqL X.K H p ys ∨ SqT X.K H p ys) ∧ ∀ l, H l = none → Q (.ref l) (upd H l (.lst ys))) kListOf := by
  rintro ρ τ σ H ⟨md, d⟩ v Q ⟨F, B, O, I⟩ m
  cases d with
  | lst xs =>
    obtain ⟨h, m⟩ := out_grd (b := lft md xs) m
    obtain ⟨p, vs, e, g, r⟩ := I.top.list I.base
    exact ⟨p, vs, by rw [e], .inl (SqL.of g), fun l nl => m _ _ (I.drop1.new nl ⟨_, rfl, lft_rep h r⟩)⟩
  | tup xs =>
    obtain ⟨h, m⟩ := out_grd (b := lft md xs) m
    obtain ⟨p, vs, e, g, r⟩ := I.top.tup I.base
    exact ⟨p, vs, by rw [e], .inr (SqT.of g), fun l nl => m _ _ (I.drop1.new nl ⟨_, rfl, lft_rep h r⟩)⟩
  | _ => exact m.elim
def kTupOf : K1 := fun s ρ => match s.d with
  | .lst xs => grd (lft s.m xs) (.ok ⟨.shr, .tup xs⟩ ρ)
  | .tup xs => (match s.m with
    | .shr => .ok ⟨.shr, .tup xs⟩ ρ
    | _ => .bad)
  | _ => .bad
theorem ok_tupOf : Ok1 J W (fun v H Q => ∃ p ys, [v] = [V.ref p] ∧ ((SqL X.K H p ys ∧ ∀ l, H l = none → Q (.ref l) (upd H l (.tup ys))) ∨ (SqT X.K H p ys ∧ Q (.ref p) H))) kTupOf := by
  rintro ρ τ σ H ⟨md, d⟩ v Q ⟨F, B, O, I⟩ m
  cases d with
  | lst xs =>
    obtain ⟨h, m⟩ := out_grd (b := lft md xs) m
    obtain ⟨p, vs, e, g, r⟩ := I.top.list I.base
    exact ⟨p, vs, by rw [e], .inl ⟨SqL.of g, fun l nl => m _ _ (I.drop1.newF nl ⟨l, vs, rfl, upd_same, (lft_rep h r).mono (upd_sub (I.base.freeF (I.base.freeB nl)))⟩)⟩⟩
  | tup xs =>
    cases md with
    | shr =>
      obtain ⟨p, vs, e, g, r⟩ := I.top.tup I.base
      have t := I.top
      subst e
      exact ⟨p, vs, rfl, .inr ⟨SqT.of g, m _ _ ⟨F, B, O, I.base, I.len, I.slot, t, I.drop1.temp⟩⟩⟩
    | _ => exact m.elim
  | _ => exact m.elim
/-- str(n) -/
def gStr : Vl → Option Vl
  | .int i => if i.natAbs.log2 < 1920 then some (.str (toString i)) else none
  | _ => none
theorem ok_str : Ok1 J W (fun v H Q => ∃ i, [v] = [V.int i] ∧ i.natAbs.log2 < 1920 ∧ Q (.str (toString i)) H) (kS1 gStr) := ok_S1 fun H d1 d v Q r e q => by
  cases d1 with
  | int i =>
    have e' : (if i.natAbs.log2 < 1920 then some (Vl.str (toString i)) else none) = some d := e
    by_cases z : i.natAbs.log2 < 1920
    · rw [if_pos z] at e'; cases e'; exact ⟨i, by rw [show v = .int i from r], z, q _ rfl⟩
    · rw [if_neg z] at e'; cases e'
  | _ => cases e
end
end MV
namespace MV
open PySem PySem.Spec PyProof.Rows L2
/-! ### statements -/
inductive Sr where
  | next (ρ : En)
  | brk (ρ : En)
  | cont (ρ : En)
  | ret (s : Sv) (ρ : En)
  | exc (c : Str) (fs : List (Str × Vl)) (ρ : En)
  | bad
abbrev SemS := En → Sr
def bndS {α : Type} (r : Rs α) (k : α → En → Sr) : Sr := match r with
  | .ok a ρ => k a ρ
  | .exc c fs ρ => .exc c fs ρ
  | .bad => .bad
def grdS (b : Bool) (r : Sr) : Sr := match b with
  | true => r
  | false => .bad
def OutS (J : Jx) (W : WX) (τ : List (Sv × V)) (r : Sr) (D : Ends) : Prop := match r with
  | .next ρ => ∀ σ H, Iv J ρ τ σ H → D.nx σ H
  | .brk ρ => ∀ σ H, Iv J ρ τ σ H → D.bk σ H
  | .cont ρ => ∀ σ H, Iv J ρ τ σ H → D.ct σ H
  | .ret s ρ => ∀ v σ H, Iv J ρ ((s, v) :: τ) σ H → D.rt v H
  | .exc c fs ρ => ∀ cls d σ H, Ix J ρ c fs σ H cls d → W cls d σ H
  | .bad => False
def tS (J : Jx) (W : WX) (f : SemS) : TS := fun D σ H => ∃ ρ τ, Iv J ρ τ σ H ∧ NoTmp τ ∧ OutS J W τ (f ρ) D
structure XS (X : Cx) (J : Jx) (W : WX) (st : Stmt) (f : SemS) : Prop where
  ps : PS X st (tS J W f)
structure XB (X : Cx) (J : Jx) (W : WX) (sts : List Stmt) (f : SemS) : Prop where
  pss : PSs X sts (tS J W f)
theorem _root_.L2.PS.imp {X : Cx} {e : Stmt} {t t' : TS} (h : PS X e t) (i : ∀ σ H Q, t' Q σ H → t Q σ H) : PS X e t' := ⟨fun pins s σ H Q I q => h.run pins s σ H Q I (i σ H Q q)⟩
theorem _root_.L2.PSs.imp {X : Cx} {e : List Stmt} {t t' : TS} (h : PSs X e t) (i : ∀ σ H Q, t' Q σ H → t Q σ H) : PSs X e t' := ⟨fun pins s σ H Q I q => h.run pins s σ H Q I (i σ H Q q)⟩
theorem outS_grd {J : Jx} {W : WX} {τ : List (Sv × V)} {b : Bool} {r : Sr} {D : Ends} (m : OutS J W τ (grdS b r) D) : b = true ∧ OutS J W τ r D := by
  cases b with
  | true => exact ⟨rfl, m⟩
  | false => exact m.elim
section
variable {X : Cx} {J : Jx} {W : WX} {e a b c : Expr} {es : List Expr} {st : Stmt} {sts body orelse : List Stmt} {q qa qb qc qr : Bool} {fa fb fc : Sem1} {f g : SemS} {gc : SemB} {pos : Pos} {τ : List (Sv × V)} {σ : St} {H : Hp} {ρ : En}
theorem outS_bnd {r : Rs Sv} {k : Sv → En → Sr} {D : Ends} {Q : VK} (m : OutS J W τ (bndS r k) D) (h : ∀ s ρ1, OutS J W τ (k s ρ1) D → ∀ v H1, Iv J ρ1 ((s, v) :: τ) σ H1 → Q v H1) : Out J W τ σ r Q := by
  cases r with
  | ok s ρ1 => exact fun v H1 I1 => h s ρ1 m v H1 I1
  | exc c fs ρ1 => exact fun cls d H1 => m cls d σ H1
  | bad => exact m
theorem outS_bndB {r : Rs Bool} {k : Bool → En → Sr} {D : Ends} {Q : Bool → Hp → Prop} (m : OutS J W τ (bndS r k) D) (h : ∀ s ρ1, OutS J W τ (k s ρ1) D → ∀ H1, Iv J ρ1 τ σ H1 → Q s H1) : OutB J W τ σ r Q := by
  cases r with
  | ok s ρ1 => exact fun H1 I1 => h s ρ1 m H1 I1
  | exc c fs ρ1 => exact fun cls d H1 => m cls d σ H1
  | bad => exact m
def sNil : SemS := fun ρ => .next ρ
def sSeq (f g : SemS) : SemS := fun ρ => match f ρ with
  | .next ρ1 => g ρ1
  | r => r
theorem xb_nil : XB X J W [] sNil := ⟨pss_nil.imp fun σ H D ⟨ρ, τ, I, c, m⟩ => m σ H I⟩
theorem xb_cons (h1 : XS X J W st f) (h2 : XB X J W sts g) : XB X J W (st :: sts) (sSeq f g) := by
  refine ⟨(pss_cons h1.ps h2.pss).imp fun σ H D h => ?_⟩
  obtain ⟨ρ, τ, I, c, m⟩ := h
  refine ⟨ρ, τ, I, c, ?_⟩
  unfold sSeq at m
  cases e : f ρ with
  | next ρ1 => rw [e] at m; exact fun σ1 H1 I1 => ⟨ρ1, τ, I1, c, m⟩
  | brk ρ1 => rw [e] at m; exact m
  | cont ρ1 => rw [e] at m; exact m
  | ret s ρ1 => rw [e] at m; exact m
  | exc cc fs ρ1 => rw [e] at m; exact m
  | bad => rw [e] at m; exact m
theorem xb_one (h1 : XS X J W st f) : XB X J W [st] f := ⟨pss_one h1.ps⟩
def sBrk : SemS := fun ρ => .brk ρ
def sCont : SemS := fun ρ => .cont ρ
theorem xs_pass : XS X J W (.Pass pos) sNil := ⟨ps_pass.imp fun σ H D ⟨ρ, τ, I, c, m⟩ => m σ H I⟩
theorem xs_break : XS X J W (.Break pos) sBrk := ⟨ps_break.imp fun σ H D ⟨ρ, τ, I, c, m⟩ => m σ H I⟩
theorem xs_continue : XS X J W (.Continue pos) sCont := ⟨ps_continue.imp fun σ H D ⟨ρ, τ, I, c, m⟩ => m σ H I⟩
def sExpr (fa : Sem1) : SemS := fun ρ => bndS (fa ρ) fun _ ρ1 => .next ρ1
theorem xs_expr (ha : XE X J W a qa fa) (hs : swapsWith a none pos.line X.env = pure false := by rfl) : XS X J W (.Expr a pos) (sExpr fa) := by
  refine ⟨(ps_expr ha.pe hs).imp fun σ H D h => ?_⟩
  obtain ⟨ρ, τ, I, c, m⟩ := h
  exact ⟨ρ, τ, I, .inr c, outS_bnd m fun s ρ1 m1 v H1 I1 => m1 σ H1 I1.drop1⟩
def sRet (fa : Sem1) : SemS := fun ρ => bndS (fa ρ) fun s ρ1 => .ret s ρ1
theorem xs_ret (ha : XE X J W a qa fa) : XS X J W (.Return (some a) pos) (sRet fa) := by
  refine ⟨(ps_ret ha.pe).imp fun σ H D h => ?_⟩
  obtain ⟨ρ, τ, I, c, m⟩ := h
  exact ⟨ρ, τ, I, .inr c, outS_bnd m fun s ρ1 m1 v H1 I1 => m1 v σ H1 I1⟩
def sRetN : SemS := fun ρ => .ret ⟨.shr, .non⟩ ρ
theorem xs_retN : XS X J W (.Return none pos) sRetN := ⟨ps_retN.imp fun σ H D ⟨ρ, τ, ⟨F, B, O, I⟩, c, m⟩ => m .non σ H (I.push (s := ⟨.shr, .non⟩) rfl)⟩
def sIf (gc : SemB) (f g : SemS) : SemS := fun ρ => bndS (gc ρ) fun x ρ1 => match x with
  | true => f ρ1
  | false => g ρ1
theorem xs_if (hc : XT X J W c qc gc) (hf : XB X J W body f) (hg : XB X J W orelse g) : XS X J W (.If c body orelse pos) (sIf gc f g) := by
  refine ⟨(ps_if hc.pt hf.pss hg.pss).imp fun σ H D h => ?_⟩
  obtain ⟨ρ, τ, I, cc, m⟩ := h
  refine ⟨ρ, τ, I, .inr cc, outS_bndB m fun x ρ1 m1 H1 I1 => ?_⟩
  cases x with
  | true => rw [if_pos rfl]; exact ⟨ρ1, τ, I1, cc, m1⟩
  | false => rw [if_neg Bool.false_ne_true]; exact ⟨ρ1, τ, I1, cc, m1⟩
/-! ### stores -/
def noIo (ρ : En) (i : Nat) : Bool := match ρ[i]? with
  | some (some ⟨.io, _⟩) => false
  | _ => true
def sto (m : Md) : Bool := match m with
  | .own => true
  | .bor => true
  | .shr => true
  | _ => false
theorem SR.reown {F B H : Hp} {O : Addr → Option Ow} {k k' : Nat} {s : Sv} {v : V} (h : SR J F B H O (.inr k) s v) : ∃ O' : Addr → Option Ow, SR J F B H O' (.inr k') s v ∧ ∀ a ow, O a = some ow → ow ≠ .inr k → O' a = some ow := by
  obtain ⟨m, d⟩ := s
  cases m with
  | own =>
    obtain ⟨p, o, ev, g, r, qo, n, z⟩ := h
    refine ⟨fun b => if b = p then some (.inr k') else O b, ⟨p, o, ev, g, r, if_pos rfl, n, z⟩, fun a ow e h1 => ?_⟩
    by_cases c : a = p
    · subst c; rw [qo] at e; exact absurd (Option.some.inj e).symm h1
    · exact (if_neg c).trans e
  | io =>
    obtain ⟨p, o, ev, g, r, qo, n, i, z, _⟩ := h
    cases z
  | tmp => exact ⟨O, h, fun a ow e _ => e⟩
  | bor => exact ⟨O, h, fun a ow e _ => e⟩
  | shr => exact ⟨O, h, fun a ow e _ => e⟩
theorem SR.move {F B H : Hp} {O O' : Addr → Option Ow} {ow : Ow} {s : Sv} {v : V} {k : Nat} (h : SR J F B H O ow s v) (no : ow ≠ .inr k) (f : ∀ a ow, O a = some ow → ow ≠ .inr k → O' a = some ow) : SR J F B H O' ow s v := by
  obtain ⟨m, d⟩ := s
  cases m with
  | own => obtain ⟨p, o, ev, g, r, qo, z⟩ := h; exact ⟨p, o, ev, g, r, f _ _ qo no, z⟩
  | io => obtain ⟨p, o, ev, g, r, qo, z⟩ := h; exact ⟨p, o, ev, g, r, f _ _ qo no, z⟩
  | tmp => obtain ⟨p, o, ev, g, r, i, qo⟩ := h; exact ⟨p, o, ev, g, r, i, f _ _ qo (fun z => nomatch z)⟩
  | bor => exact h
  | shr => exact h
theorem Iv.store {i : Nat} {s : Sv} {v : V} (nf : NF J i) (I : Iv J ρ ((s, v) :: τ) σ H) (h : sto s.m = true) : Iv J (ρ.set i (some s)) τ (σ.set i (some v)) H := by
  obtain ⟨F, B, O, I⟩ := I
  have nio : s.m ≠ .io := fun y => by rw [y] at h; cases h
  have ntm : s.m ≠ .tmp := fun y => by rw [y] at h; cases h
  -- the owner is now the slot
  have own : ∃ O' : Addr → Option Ow, SR J F B H O' (.inl i) s v ∧ ∀ a ow, O a = some ow → ow ≠ .inr τ.length → O' a = some ow := by
    have t := I.top
    obtain ⟨md, d⟩ := s
    cases md with
    | own =>
      obtain ⟨p, o, ev, g, r, qo, n, z⟩ := t
      refine ⟨fun b => if b = p then some (.inl i) else O b, ⟨p, o, ev, g, r, if_pos rfl, n, z⟩, fun a ow e h1 => ?_⟩
      by_cases c : a = p
      · subst c; rw [qo] at e; exact absurd (Option.some.inj e).symm h1
      · exact (if_neg c).trans e
    | io => exact absurd rfl nio
    | tmp => exact absurd rfl ntm
    | bor => exact ⟨O, t, fun _ _ e _ => e⟩
    | shr => exact ⟨O, t, fun _ _ e _ => e⟩
  obtain ⟨O', r', ho⟩ := own
  refine ⟨F, B, O', I.base, I.len.set2 nf, fun j s2 e2 => ?_, ?_⟩
  · by_cases hj : i = j
    · subst hj
      by_cases hl : i < ρ.length
      · rw [List.getElem?_set_self hl] at e2
        cases e2
        exact ⟨ntm, v, List.getElem?_set_self (by rw [← I.len.eq]; exact hl), r'⟩
      · rw [List.getElem?_eq_none (by simpa using hl)] at e2; cases e2
    · rw [List.getElem?_set_ne hj] at e2
      obtain ⟨t2, v2, e3, r2⟩ := I.slot j s2 e2
      exact ⟨t2, v2, by rw [List.getElem?_set_ne hj]; exact e3, r2.move (fun y => nomatch y) ho⟩
  · exact I.drop1.temp.imp fun s v k hm hk h => h.move (fun y => Nat.ne_of_lt hk (Sum.inr.inj y)) ho
def stS (i : Nat) (s : Sv) (ρ : En) : Sr := grdS (noIo ρ i && sto s.m) (.next (ρ.set i (some s)))
def sAsg (i : Nat) (fa : Sem1) : SemS := fun ρ => bndS (fa ρ) (stS i)
theorem stS_ok {i : Nat} {s : Sv} {v : V} {D : Ends} (nf : NF J i) (m : OutS J W τ (stS i s ρ) D) (I : Iv J ρ ((s, v) :: τ) σ H) : D.nx (σ.set i (some v)) H := by
  obtain ⟨h, m⟩ := outS_grd m
  rw [Bool.and_eq_true] at h
  exact m _ _ (Iv.store nf I h.2)
theorem xs_asg {i : Nat} {x : Str} {p : Pos} (hN : X.N.Nodup) (hi : X.N[i]? = some x) (hx : Loc X.env.scope x) (ha : XE X J W a qa fa) (hs : swapsWith a (some (.Name x p)) pos.line X.env = pure false := by rfl) (hf : X.fn x = true ∨ X.env.scope.names.lookup x = some .local := by first | exact .inl rfl | exact .inr rfl | assumption) (nf : NF J i := by first | exact nf_none (by assumption) | exact nf_ne (by assumption) rfl) :
    XS X J W (.Assign [.Name x p] a pos) (sAsg i fa) := by
  refine ⟨(ps_set hN hi hx ha.pe hs hf).imp fun σ H D h => ?_⟩
  obtain ⟨ρ, τ, I, c, m⟩ := h
  exact ⟨ρ, τ, I, .inr c, outS_bnd m fun s ρ1 m1 v H1 I1 => stS_ok nf m1 I1⟩
/-- a ghost: a slot is frozen -/
def frzR (i : Nat) (ρ : En) : Option En := match ρ[i]? with
  | some (some ⟨.own, d⟩) => some (ρ.set i (some ⟨.shr, d⟩))
  | some (some ⟨.shr, _⟩) => some ρ
  | _ => none
def sFz (i : Nat) (f : SemS) : SemS := fun ρ => match frzR i ρ with
  | some ρ1 => f ρ1
  | none => .bad
theorem frzR_ok {i : Nat} {ρ1 : En} (h : frzR i ρ = some ρ1) (I : Iv J ρ τ σ H) : Iv J ρ1 τ σ H := by
  obtain ⟨F, B, O, I⟩ := I
  unfold frzR at h
  cases e : ρ[i]? with
  | none => rw [e] at h; cases h
  | some o =>
    cases o with
    | none => rw [e] at h; cases h
    | some s =>
      obtain ⟨md, d⟩ := s
      rw [e] at h
      cases md with
      | own => cases h; exact I.frzS e
      | shr => cases h; exact ⟨F, B, O, I⟩
      | _ => cases h
theorem xs_fz {i : Nat} (h : XS X J W st f) : XS X J W st (sFz i f) := by
  refine ⟨h.ps.imp fun σ H D h => ?_⟩
  obtain ⟨ρ, τ, I, c, m⟩ := h
  unfold sFz at m
  cases e : frzR i ρ with
  | none => rw [e] at m; exact m.elim
  | some ρ1 => rw [e] at m; exact ⟨ρ1, τ, frzR_ok e I, c, m⟩
/-- name op= e, of ints -/
def kIS (k : Int → En → Sr) : Sv → En → Sr := fun s ρ => match s.d with
  | .int i => k i ρ
  | _ => .bad
def sAug (op : Int → Int → Int) (i : Nat) (fa : Sem1) : SemS := fun ρ => match ρ[i]? with
  | some (some ⟨m, .int x⟩) => bndS (fa ρ) (kIS fun y ρ1 => .next (ρ1.set i (some ⟨.shr, .int (op x y)⟩)))
  | _ => .bad
theorem xs_aug {i : Nat} {x : Str} {op : Operator} {fop : Int → Int → Int} {p : Pos} (hN : X.N.Nodup) (hi : X.N[i]? = some x) (hx : Loc X.env.scope x) (ha : XE X J W a qa fa) (ho : PIp X op (ipI fop)) (hf : X.fn x = true ∨ X.env.scope.names.lookup x = some .local := by first | exact .inl rfl | exact .inr rfl | assumption) (nf : NF J i := by first | exact nf_none (by assumption) | exact nf_ne (by assumption) rfl) :
    XS X J W (.AugAssign (.Name x p) op a pos) (sAug fop i fa) := by
  refine ⟨(ps_aug hN hi hx ha.pe ho hf).imp fun σ H D h => ?_⟩
  obtain ⟨ρ, τ, I, c, m⟩ := h
  unfold sAug at m
  cases e : ρ[i]? with
  | none => rw [e] at m; exact m.elim
  | some o =>
    cases o with
    | none => rw [e] at m; exact m.elim
    | some s =>
      obtain ⟨md, d⟩ := s
      rw [e] at m
      cases d with
      | int y =>
        have hv : σ[i]? = some (some (.int y)) := by
          obtain ⟨F, B, O, I⟩ := I
          obtain ⟨_, v, e1, r⟩ := I.slot i _ e
          rw [e1, show v = .int y from r.rep I.base]
        have m : OutS J W τ (bndS (fa ρ) (kIS fun z ρ1 => .next (ρ1.set i (some ⟨.shr, .int (fop y z)⟩)))) D := m
        refine ⟨_, hv, ρ, τ, I, .inr c, outS_bnd m fun s ρ1 m1 v H1 ⟨F, B, O, I1⟩ => ?_⟩
        obtain ⟨md2, d2⟩ := s
        cases d2 with
        | int z =>
          refine ⟨y, z, rfl, I1.top.rep I1.base, m1 _ _ (Iv.store (s := ⟨.shr, .int (fop y z)⟩) (v := .int (fop y z)) nf ?_ rfl)⟩
          exact I1.drop1.push (s := ⟨.shr, .int (fop y z)⟩) (v := .int (fop y z)) rfl
        | _ => exact m1.elim
      | _ => exact m.elim
/-! ### what a slot owns is changed -/
theorem IvW.mut {F B : Hp} {O : Addr → Option Ow} {i : Nat} {m : Md} {d : Vl} (I : IvW J F B O ρ τ σ H) (nt : NoTmp τ) (h : ρ[i]? = some (some ⟨m, d⟩)) (hm : m = .own ∨ m = .io) :
    ∃ a o, σ[i]? = some (some (.ref a)) ∧ H a = some o ∧ OwnO J.K F d o ∧ ∀ d' o', OwnO J.K F d' o' → IvW J F B O (ρ.set i (some ⟨m, d'⟩)) τ σ (upd H a o') := by
  obtain ⟨t, v, e1, r⟩ := I.slot i _ h
  have r' : ∃ a o, v = .ref a ∧ H a = some o ∧ OwnO J.K F d o ∧ O a = some (.inl i) ∧ B a = none ∧ (m = .own → J.H0 a = none) ∧ (m = .io → ∃ j, (Sum.inl i : Ow) = .inl j ∧ J.ios.lookup j = some a) := by
    rcases hm with e | e
    · subst e
      obtain ⟨a, o, e, g, r, q, n, z⟩ := r
      exact ⟨a, o, e, g, r, q, n, (fun _ => z), (fun y => nomatch y)⟩
    · subst e
      obtain ⟨a, o, e, g, r, q, n, z⟩ := r
      obtain ⟨i2, z1, z2⟩ := z
      exact ⟨a, o, e, g, r, q, n, (fun y => nomatch y), (fun _ => ⟨i2, z1, z2⟩)⟩
  obtain ⟨a, o, ev, g, ro, q, n, z1, z2⟩ := r'
  subst ev
  refine ⟨a, o, e1, g, ro, fun d' o' rn => ?_⟩
  have nF := I.base.freeF n
  have keep : ∀ (ow : Ow) s v, ow ≠ .inl i → s.m ≠ .tmp → SR J F B H O ow s v → SR J F B (upd H a o') O ow s v := fun ow s v no nt h => by
    have ne : ∀ b, O b = some ow → b ≠ a := fun b y x => by subst x; rw [q] at y; exact no (Option.some.inj y).symm
    obtain ⟨md, d⟩ := s
    cases md with
    | shr => exact h
    | bor => exact h
    | tmp => exact absurd rfl nt
    | own => obtain ⟨b, u, e, g, r, q, z⟩ := h; exact ⟨b, u, e, by rw [upd_ne (ne b q)]; exact g, r, q, z⟩
    | io => obtain ⟨b, u, e, g, r, q, z⟩ := h; exact ⟨b, u, e, by rw [upd_ne (ne b q)]; exact g, r, q, z⟩
  refine ⟨⟨I.base.fb, fun b u e => ?_, I.base.f0, I.base.new, fun b u e y => ?_, fun b y => ?_⟩, I.len.set, fun j s2 e2 => ?_, ?_⟩
  · rw [upd_ne (ne_of_none e n)]; exact I.base.bh b u e
  · have ne : b ≠ a := fun x => by
      subst x
      rcases hm with x | x
      · rw [z1 x] at e; cases e
      · obtain ⟨_, _, q⟩ := z2 x; exact y (lookup_io q)
    rw [upd_ne ne]; exact I.base.keep b u e y
  · by_cases x : b = a
    · subst x; exact ⟨o', upd_same⟩
    · rw [upd_ne x]; exact I.base.iot b y
  · by_cases hj : i = j
    · subst hj
      have hl : i < ρ.length := (List.getElem?_eq_some_iff.mp h).1
      rw [List.getElem?_set_self hl] at e2
      cases e2
      refine ⟨t, _, e1, ?_⟩
      rcases hm with e | e
      · subst e; exact ⟨a, o', rfl, upd_same, rn, q, n, z1 rfl⟩
      · subst e; exact ⟨a, o', rfl, upd_same, rn, q, n, z2 rfl⟩
    · rw [List.getElem?_set_ne hj] at e2
      obtain ⟨t2, v2, e3, r2⟩ := I.slot j s2 e2
      exact ⟨t2, v2, e3, keep _ _ _ (fun y => hj (Sum.inl.inj y).symm) t2 r2⟩
  · exact I.temp.imp fun s v k hk _ h => keep _ _ _ (fun y => nomatch y) (nt _ hk) h
def mutb (m : Md) : Bool := match m with
  | .own => true
  | .io => true
  | _ => false
theorem mutb_or {m : Md} (h : mutb m = true) : m = .own ∨ m = .io := by
  cases m <;> first | exact .inl rfl | exact .inr rfl | cases h
def isL (ρ : En) (i : Nat) : Bool := match ρ[i]? with
  | some (some ⟨m, .lst _⟩) => true
  | _ => false
/-- the slot i holds a list: k changes it -/
def onL (i : Nat) (k : List Vl → Option (Vl × List Vl)) (ρ : En) : Rs Sv := match ρ[i]? with
  | some (some ⟨m, .lst xs⟩) => grd (mutb m) (match k xs with
    | some (d, ys) => .ok (mk .shr d) (ρ.set i (some ⟨m, .lst ys⟩))
    | none => .bad)
  | _ => .bad
theorem onL_ok {F B : Hp} {O : Addr → Option Ow} {i : Nat} {k : List Vl → Option (Vl × List Vl)} {Q : VK} (I : IvW J F B O ρ τ σ H) (nt : NoTmp τ) (m : Out J W τ σ (onL i k ρ) Q) :
    ∃ a vs xs d ys, σ[i]? = some (some (.ref a)) ∧ H a = some (.lst vs) ∧ RepL J.K F xs vs ∧ k xs = some (d, ys) ∧ ∀ ws v, RepL J.K F ys ws → Rep J.K F d v → Q v (upd H a (.lst ws)) := by
  unfold onL at m
  cases e : ρ[i]? with
  | none => rw [e] at m; exact m.elim
  | some o =>
    cases o with
    | none => rw [e] at m; exact m.elim
    | some s =>
      obtain ⟨md, d⟩ := s
      rw [e] at m
      cases d with
      | lst xs =>
        obtain ⟨h, m⟩ := out_grd (b := mutb md) m
        obtain ⟨a, o, e1, g, ⟨vs, eo, r⟩, nw⟩ := I.mut nt e (mutb_or h)
        subst eo
        cases z : k xs with
        | none => rw [z] at m; exact m.elim
        | some p =>
          obtain ⟨d, ys⟩ := p
          rw [z] at m
          refine ⟨a, vs, xs, d, ys, e1, g, r, z, fun ws v rw' rd => ?_⟩
          have I2 := nw (.lst ys) (.lst ws) ⟨ws, rfl, rw'⟩
          have m : Out J W τ σ (.ok (mk .shr d) (ρ.set i (some ⟨md, .lst ys⟩))) Q := m
          exact m v _ (I2.push ((show SR J F B (upd H a (.lst ws)) O (.inr τ.length) ⟨.shr, d⟩ v from rd).mk I2.base))
      | _ => exact m.elim
theorem isL_ok {F B : Hp} {O : Addr → Option Ow} {i : Nat} (I : IvW J F B O ρ τ σ H) (h : isL ρ i = true) : ∃ a vs, σ[i]? = some (some (.ref a)) ∧ H a = some (.lst vs) := by
  unfold isL at h
  cases e : ρ[i]? with
  | none => rw [e] at h; cases h
  | some o =>
    cases o with
    | none => rw [e] at h; cases h
    | some s =>
      obtain ⟨md, d⟩ := s
      rw [e] at h
      cases d with
      | lst xs =>
        obtain ⟨_, v, e1, r⟩ := I.slot i _ e
        obtain ⟨a, vs, ev, g, _⟩ := r.list I.base
        subst ev
        exact ⟨a, vs, e1, g⟩
      | _ => cases h
/-- x.append(e) -/
def kApp (d : Vl) (xs : List Vl) : Option (Vl × List Vl) := if xs.length < sizeLine then some (.non, xs ++ [d]) else none
def isShr : Md → Bool
  | .shr => true
  | _ => false
def fApp (i : Nat) (fa : Sem1) : Sem1 := fun ρ => grd (isL ρ i) (bnd (fa ρ) fun s ρ1 => grd (isShr s.m) (onL i (kApp s.d) ρ1))
theorem xe_app {i : Nat} {x : Str} {px apos : Pos} (hN : X.N[i]? = some x) (hv : Vis X.env.scope x) (ha : XE X J W a qa fa) (hd : (x == ("__debug__" : Str)) = false := by decide) (hcd : (x == ("__classdict__" : Str)) = false := by decide)
    (hst : starEach [a] X.env = (false, eval a X.env) :: starEach [] X.env := by rfl) (hpe : PE X (.Call (.Attribute (.Name x px) "append" apos) [a] [] pos) (tBM X.K "list" rAppend (tVar i) (tCons (tE J W qa fa) tNil)) := by exact (pe_bm PySem.F.plainAttrs_list PySem.F.slot_list_append PySem.F.type_list_append mt_append (pe_var (by assumption) (by assumption)) (pa_cons (XE.pe (by assumption)) pa_nil))) :
    XE X J W (.Call (.Attribute (.Name x px) "append" apos) [a] [] pos) false (fApp i fa) := by
  refine ⟨hpe.imp fun σ H Q h => ?_⟩
  obtain ⟨ρ, τ, ⟨F, B, O, I⟩, c, m⟩ := h
  have nt : NoTmp τ := c.elim (fun z => nomatch z) id
  obtain ⟨h, m⟩ := out_grd (b := isL ρ i) m
  obtain ⟨p, vs, e1, g⟩ := isL_ok I h
  refine ⟨.ref p, e1, .inl ⟨rfl, _, SqL.of g⟩, ρ, τ, ⟨F, B, O, I⟩, .inr nt, ?_⟩
  cases e : fa ρ with
  | ok s ρ1 =>
    rw [e] at m
    rintro v H1 ⟨F1, B1, O1, I1⟩
    obtain ⟨h2, m⟩ := out_grd (b := isShr s.m) m
    obtain ⟨md, d⟩ := s
    cases md with
    | shr =>
      obtain ⟨p2, vs2, xs, d2, ys, e2, g2, r, k, f⟩ := onL_ok I1.drop1 nt m
      rw [e1] at e2
      cases e2
      have k' : (if xs.length < sizeLine then some (Vl.non, xs ++ [d]) else none) = some (d2, ys) := k
      by_cases z : xs.length < sizeLine
      · rw [if_pos z] at k'
        cases k'
        exact ⟨p, vs2, v, rfl, rfl, g2, by rw [r.len]; exact z, f _ .non (r.app (.cons I1.top .nil)) rfl⟩
      · rw [if_neg z] at k'; cases k'
    | _ => cases h2
  | exc cc fs ρ1 => rw [e] at m; exact m
  | bad => rw [e] at m; exact m
/-- x[k] = e -/
def kSet (k : Int) (d : Vl) (xs : List Vl) : Option (Vl × List Vl) := (ixN xs.length k).map fun j => (.non, xs.set j d)
def sSet (i : Nat) (fk fv : Sem1) : SemS := fun ρ => bndS (fv ρ) fun s ρ1 => grdS (isShr s.m && isL ρ1 i) (bndS (fk ρ1) (kIS fun k ρ2 => match onL i (kSet k s.d) ρ2 with
  | .ok _ ρ3 => .next ρ3
  | _ => .bad))
theorem xs_set {i : Nat} {x : Str} {p ps' : Pos} (hN : X.N[i]? = some x) (hv : Vis X.env.scope x) (hb : XE X J W b true fb) (ha : XE X J W a qa fa) (hd : (x == ("__debug__" : Str)) = false := by decide) (hcd : (x == ("__classdict__" : Str)) = false := by decide)
    (has : ∀ v, assign (.Subscript (.Name x p) b ps') X.env v = (do
      let ov ← holding [v] (eval (.Name x p) X.env)
      let iv ← holding [v, ov] (eval b X.env)
      standAt ps'
      holding [v, ov, iv] (setItem ov iv v)
      release [v, ov, iv] []) := by intro _; rfl)
    (hs : swapsWithSole [.Subscript (.Name x p) b ps'] a pos.line X.env = pure false := by rfl) (hw : swappedStores [.Subscript (.Name x p) b ps'] a X.env = pure none := by rfl)
    (h1 : (assignEach [.Subscript (.Name x p) b ps'] X.env).map (·.2) = [assign (.Subscript (.Name x p) b ps') X.env] := by rfl) :
    XS X J W (.Assign [.Subscript (.Name x p) b ps'] a pos) (sSet i fb fa) := by
  refine ⟨(ps_asg ha.pe (pg_sub (pe_var hN hv hd hcd) hb.pe set_list has) hs hw h1).imp fun σ H D h => ?_⟩
  obtain ⟨ρ, τ, I, c, m⟩ := h
  refine ⟨ρ, τ, I, .inr c, outS_bnd m fun s ρ1 m1 v H1 ⟨F, B, O, I1⟩ => ?_⟩
  obtain ⟨h, m1⟩ := outS_grd m1
  rw [Bool.and_eq_true] at h
  obtain ⟨md, d⟩ := s
  cases md with
  | shr =>
    obtain ⟨p1, vs, e1, g⟩ := isL_ok I1 h.2
    refine ⟨.ref p1, e1, ρ1, _, ⟨F, B, O, I1⟩, .inl rfl, ?_⟩
    cases e : fb ρ1 with
    | ok t ρ2 =>
      rw [e] at m1
      rintro u H2 ⟨F2, B2, O2, I2⟩
      obtain ⟨mt, dt⟩ := t
      cases dt with
      | int k =>
        have hu : u = .int k := I2.top.rep I2.base
        have m1 : OutS J W τ (match onL i (kSet k d) ρ2 with | .ok _ ρ3 => .next ρ3 | _ => .bad) D := m1
        have rd : Rep J.K F2 d v := I2.drop1.top
        have mm : Out J W τ σ (onL i (kSet k d) ρ2) (fun _ H => D.nx σ H) := by
          cases z : onL i (kSet k d) ρ2 with
          | ok _ ρ3 => rw [z] at m1; exact fun v H I => m1 σ H I.drop1
          | exc cc fs ρ1 => rw [z] at m1; exact m1.elim
          | bad => rw [z] at m1; exact m1.elim
        obtain ⟨p2, vs2, xs, d2, ys, e2, g2, r, kk, f⟩ := onL_ok I2.drop1.drop1 c mm
        rw [e1] at e2
        cases e2
        obtain ⟨j, j1, j2⟩ := Option.map_eq_some_iff.mp (show (ixN xs.length k).map _ = some (d2, ys) from kk)
        cases j2
        exact ⟨p1, vs2, k, j, rfl, hu, g2, by rw [r.len]; exact j1, f _ .non (r.set rd j) rfl⟩
      | _ => exact m1.elim
    | exc cc fs ρ1 => rw [e] at m1; exact fun cls d H => m1 cls d σ H
    | bad => rw [e] at m1; exact m1
  | _ => cases h.1
/-- x.pop(k) -/
def kPopAt (k : Int) (xs : List Vl) : Option (Vl × List Vl) := if -(2 ^ 63) ≤ k ∧ k < 2 ^ 63 then (seqIndex? k xs.length).bind fun j => xs[j]?.map fun d => (d, xs.eraseIdx j) else none
def fPopAt (i : Nat) (fa : Sem1) : Sem1 := fun ρ => grd (isL ρ i) (bnd (fa ρ) (kI fun k ρ1 => onL i (kPopAt k) ρ1))
theorem xe_popAt {i : Nat} {x : Str} {px apos : Pos} (hN : X.N[i]? = some x) (hv : Vis X.env.scope x) (ha : XE X J W a qa fa) (hd : (x == ("__debug__" : Str)) = false := by decide) (hcd : (x == ("__classdict__" : Str)) = false := by decide)
    (hpe : PE X (.Call (.Attribute (.Name x px) "pop" apos) [a] [] pos) (tBM X.K "list" rPopAt (tVar i) (tCons (tE J W qa fa) tNil))) :
    XE X J W (.Call (.Attribute (.Name x px) "pop" apos) [a] [] pos) false (fPopAt i fa) := by
  refine ⟨hpe.imp fun σ H Q h => ?_⟩
  obtain ⟨ρ, τ, ⟨F, B, O, I⟩, c, m⟩ := h
  have nt : NoTmp τ := c.elim (fun z => nomatch z) id
  obtain ⟨h, m⟩ := out_grd (b := isL ρ i) m
  obtain ⟨p, vs, e1, g⟩ := isL_ok I h
  refine ⟨.ref p, e1, .inl ⟨rfl, _, SqL.of g⟩, tE_int ⟨F, B, O, I⟩ (.inr nt) m fun k ρ1 H1 ⟨F1, B1, O1, I1⟩ m1 => ?_⟩
  obtain ⟨p2, vs2, xs, d, ys, e2, g2, r, kk, f⟩ := onL_ok I1 nt m1
  rw [e1] at e2
  cases e2
  have kk : (if -(2 ^ 63) ≤ k ∧ k < 2 ^ 63 then (seqIndex? k xs.length).bind fun j => xs[j]?.map fun d => (d, xs.eraseIdx j) else none) = some (d, ys) := kk
  by_cases z : -(2 ^ 63) ≤ k ∧ k < 2 ^ 63
  · rw [if_pos z] at kk
    obtain ⟨j, j1, j2⟩ := Option.bind_eq_some_iff.mp kk
    obtain ⟨d', d1, d2⟩ := Option.map_eq_some_iff.mp j2
    cases d2
    obtain ⟨w, w1, w2⟩ := r.get d1
    exact ⟨p, vs2, k, j, w, rfl, rfl, g2, z.1, z.2, by rw [r.len]; exact j1, w1, f _ w (r.eraseIdx j) w2⟩
  · rw [if_neg z] at kk; cases kk
/-- x.pop(), x.clear() -/
def kPop (xs : List Vl) : Option (Vl × List Vl) := xs[xs.length - 1]?.map fun d => (d, xs.dropLast)
def kClear (_ : List Vl) : Option (Vl × List Vl) := some (.non, [])
def fOnL (i : Nat) (k : List Vl → Option (Vl × List Vl)) : Sem1 := fun ρ => onL i k ρ
theorem xe_pop {i : Nat} {x : Str} {px apos : Pos} (hpe : PE X (.Call (.Attribute (.Name x px) "pop" apos) [] [] pos) (tBM0 X.K "list" rPop (tVar i))) : XE X J W (.Call (.Attribute (.Name x px) "pop" apos) [] [] pos) false (fOnL i kPop) := by
  refine ⟨hpe.imp fun σ H Q h => ?_⟩
  obtain ⟨ρ, τ, ⟨F, B, O, I⟩, c, m⟩ := h
  have nt : NoTmp τ := c.elim (fun z => nomatch z) id
  obtain ⟨p2, vs2, xs, d, ys, e2, g2, r, kk, f⟩ := onL_ok I nt m
  obtain ⟨d', d1, d2⟩ := Option.map_eq_some_iff.mp (show xs[xs.length - 1]?.map _ = some (d, ys) from kk)
  cases d2
  obtain ⟨w, w1, w2⟩ := r.get d1
  exact ⟨.ref p2, e2, .inl ⟨rfl, _, SqL.of g2⟩, p2, vs2, w, rfl, rfl, g2, by rw [r.len]; exact w1, f _ w r.dropLast w2⟩
theorem xe_clear {i : Nat} {x : Str} {px apos : Pos} (hpe : PE X (.Call (.Attribute (.Name x px) "clear" apos) [] [] pos) (tBM0 X.K "list" rClear (tVar i))) : XE X J W (.Call (.Attribute (.Name x px) "clear" apos) [] [] pos) false (fOnL i kClear) := by
  refine ⟨hpe.imp fun σ H Q h => ?_⟩
  obtain ⟨ρ, τ, ⟨F, B, O, I⟩, c, m⟩ := h
  have nt : NoTmp τ := c.elim (fun z => nomatch z) id
  obtain ⟨p2, vs2, xs, d, ys, e2, g2, r, kk, f⟩ := onL_ok I nt m
  cases kk
  exact ⟨.ref p2, e2, .inl ⟨rfl, _, SqL.of g2⟩, p2, vs2, rfl, rfl, g2, f [] .non rfl rfl⟩
end
end MV
namespace MV
open PySem PySem.Spec PyProof.Rows L2
section
variable {X : Cx} {J : Jx} {W : WX} {e a b c tg iter elt : Expr} {es : List Expr} {st : Stmt} {sts body orelse : List Stmt} {q qa qb qc qr qe : Bool} {fa fb fc : Sem1} {f g : SemS} {gc : SemB} {pos : Pos} {τ τ1 : List (Sv × V)} {σ : St} {H : Hp} {ρ : En}
/-! ### moving the top down -/
theorem TOk.below {F B H : Hp} {O : Addr → Option Ow} : ∀ {l τ : List (Sv × V)}, TOk J F B H O (l ++ τ) → TOk J F B H O τ
  | [], _, h => h
  | x :: l, _, h => TOk.below (l := l) h.2
/-- what lies under the top is dropped -/
theorem Iv.under {s : Sv} {v : V} {l : List (Sv × V)} (I : Iv J ρ ((s, v) :: (l ++ τ)) σ H) : Iv J ρ ((s, v) :: τ) σ H := by
  obtain ⟨F, B, O, I⟩ := I
  obtain ⟨O', r, ho⟩ := I.top.reown (k' := τ.length)
  refine ⟨F, B, O', I.base, I.len, fun i s e => ?_, r, ?_⟩
  · obtain ⟨t, v, e1, h⟩ := I.slot i s e
    exact ⟨t, v, e1, h.move (fun z => nomatch z) ho⟩
  · refine (TOk.below I.drop1.temp).imp fun s v k _ hk h => h.move (fun z => ?_) ho
    have := Sum.inr.inj z
    rw [List.length_append] at this
    omega
theorem Iv.dropL {l : List (Sv × V)} (I : Iv J ρ (l ++ τ) σ H) : Iv J ρ τ σ H := by
  obtain ⟨F, B, O, I⟩ := I
  exact ⟨F, B, O, I.base, I.len, I.slot, TOk.below I.temp⟩
/-! ### what is walked -/
structure Wk (J : Jx) (τ : List (Sv × V)) (items : List Sv) (I : It) : Prop where
  go : ∀ pre k ρ σ H, k < items.length → Iv J ρ (pre ++ τ) σ H → I.go k H
  stop : ∀ pre k ρ σ H, items.length ≤ k → Iv J ρ (pre ++ τ) σ H → I.stop k H
  yld : ∀ pre k s ρ σ H x H', items[k]? = some s → Iv J ρ (pre ++ τ) σ H → I.yld k H x H' → Iv J ρ ((s, x) :: (pre ++ τ)) σ H'
abbrev SemI := En → Rs (Bool × List Sv)
def OutI (J : Jx) (W : WX) (τ : List (Sv × V)) (σ : St) (r : Rs (Bool × List Sv)) (R : It → Hp → Prop) : Prop := match r with
  | .ok items ρ => ∀ l I H, Iv J ρ (l ++ τ) σ H → Wk J (l ++ τ) items.2 I → (items.1 = true → NoTmp l) → R I H
  | .exc c fs ρ => ∀ cls d H, Ix J ρ c fs σ H cls d → W cls d σ H
  | .bad => False
def tI (J : Jx) (W : WX) (q : Bool) (f : SemI) : TI := fun σ H R => ∃ ρ τ, Iv J ρ τ σ H ∧ (q = true ∨ NoTmp τ) ∧ OutI J W τ σ (f ρ) R
structure XI (X : Cx) (J : Jx) (W : WX) (tg iter : Expr) (q : Bool) (f : SemI) : Prop where
  pi : PI X tg iter (tI J W q f)
theorem _root_.L2.PI.imp {X : Cx} {tg e : Expr} {t t' : TI} (h : PI X tg e t) (i : ∀ σ H Q, t' σ H Q → t σ H Q) : PI X tg e t' := ⟨fun pins s σ H Q I q => h.run pins s σ H Q I (i σ H Q q)⟩
/-- a list, a tuple -/
def kItL : Sv → En → Rs (Bool × List Sv) := fun s ρ => match s.d with
  | .lst xs => .ok (!s.m.isT, xs.map (mk s.m.kid)) ρ
  | _ => .bad
def kItT : Sv → En → Rs (Bool × List Sv) := fun s ρ => match s.d with
  | .tup xs => .ok (!s.m.isT, xs.map (mk s.m.kid)) ρ
  | _ => .bad
def iSrc (fa : Sem1) (k : Sv → En → Rs (Bool × List Sv)) : SemI := fun ρ => bnd (fa ρ) k
theorem outI_bnd {α : Type} {r : Rs Sv} {k : Sv → En → Rs (Bool × List Sv)} {R : It → Hp → Prop} {Q : VK} (m : OutI J W τ σ (bnd r k) R) (h : ∀ s ρ1, OutI J W τ σ (k s ρ1) R → ∀ v H1, Iv J ρ1 ((s, v) :: τ) σ H1 → Q v H1) : Out J W τ σ r Q := by
  cases r with
  | ok s ρ1 => exact fun v H1 I1 => h s ρ1 m v H1 I1
  | exc c fs ρ1 => exact m
  | bad => exact m
theorem cv_list {K : PySem.W.Frag} {R : It → Hp → Prop} (h : tI J W qa (iSrc fa kItL) σ H R) : iList K (tE J W qa fa) σ H R := by
  obtain ⟨ρ, τ, I, c, m⟩ := h
  refine ⟨ρ, τ, I, c, outI_bnd (α := Unit) m fun s ρ1 m1 v H1 ⟨F, B, O, I1⟩ => ?_⟩
  obtain ⟨md, d⟩ := s
  cases d with
  | lst xs =>
    obtain ⟨p, vs, ev, g, r⟩ := I1.top.list I1.base
    subst ev
    refine ⟨p, rfl, ⟨vs, SqL.of g⟩, m1 [(⟨md, .lst xs⟩, .ref p)] _ _ ⟨F, B, O, I1⟩ ⟨fun pre k ρ σ H hk I => ?_, fun pre k ρ σ H hk I => ?_, fun pre k s ρ σ H x H' hs I hy => ?_⟩ ?_⟩
    · obtain ⟨F, B, O, I⟩ := I
      obtain ⟨p', vs, ev, g, r⟩ := SR.list I.base (show SR J F B H O _ ⟨md, .lst xs⟩ (.ref p) from (TOk.below (l := pre) I.temp).1)
      cases ev
      rw [List.length_map] at hk
      exact ⟨vs, vs[k]'(by rw [r.len]; exact hk), SqL.of g, by simp⟩
    · obtain ⟨F, B, O, I⟩ := I
      obtain ⟨p', vs, ev, g, r⟩ := SR.list I.base (show SR J F B H O _ ⟨md, .lst xs⟩ (.ref p) from (TOk.below (l := pre) I.temp).1)
      cases ev
      rw [List.length_map] at hk
      exact ⟨vs, SqL.of g, by rw [r.len]; exact hk⟩
    · obtain ⟨F, B, O, I⟩ := I
      obtain ⟨p', vs, ev, g, r⟩ := SR.list I.base (show SR J F B H O _ ⟨md, .lst xs⟩ (.ref p) from (TOk.below (l := pre) I.temp).1)
      cases ev
      obtain ⟨e1, y⟩ := hy
      subst e1
      rw [List.getElem?_map] at hs
      obtain ⟨d, hd, es⟩ := Option.map_eq_some_iff.mp hs
      subst es
      obtain ⟨w, hw, rw'⟩ := r.get hd
      have hx := y vs (SqL.of g)
      rw [hw] at hx
      cases hx
      exact I.push ((reg_kid rw' _).mk I.base)
    · intro z x hx
      rw [List.mem_singleton.mp hx]
      intro y
      have y : md = .tmp := y
      subst y
      cases z
  | _ => exact m1.elim
theorem xi_list (ha : XE X J W iter qa fa) : XI X J W tg iter qa (iSrc fa kItL) := ⟨(pi_list ha.pe).imp fun σ H R h => cv_list h⟩
theorem xi_tup (ha : XE X J W iter qa fa) : XI X J W tg iter qa (iSrc fa kItT) := by
  refine ⟨(pi_tup ha.pe).imp fun σ H R h => ?_⟩
  obtain ⟨ρ, τ, I, c, m⟩ := h
  refine ⟨ρ, τ, I, c, outI_bnd (α := Unit) m fun s ρ1 m1 v H1 ⟨F, B, O, I1⟩ => ?_⟩
  obtain ⟨md, d⟩ := s
  cases d with
  | tup xs =>
    obtain ⟨p, vs, ev, g, r⟩ := I1.top.tup I1.base
    subst ev
    refine ⟨p, rfl, ⟨vs, SqT.of g⟩, m1 [(⟨md, .tup xs⟩, .ref p)] _ _ ⟨F, B, O, I1⟩ ⟨fun pre k ρ σ H hk I => ?_, fun pre k ρ σ H hk I => ?_, fun pre k s ρ σ H x H' hs I hy => ?_⟩ ?_⟩
    · obtain ⟨F, B, O, I⟩ := I
      obtain ⟨p', vs, ev, g, r⟩ := SR.tup I.base (show SR J F B H O _ ⟨md, .tup xs⟩ (.ref p) from (TOk.below (l := pre) I.temp).1)
      cases ev
      rw [List.length_map] at hk
      exact ⟨vs, vs[k]'(by rw [r.len]; exact hk), SqT.of g, by simp⟩
    · obtain ⟨F, B, O, I⟩ := I
      obtain ⟨p', vs, ev, g, r⟩ := SR.tup I.base (show SR J F B H O _ ⟨md, .tup xs⟩ (.ref p) from (TOk.below (l := pre) I.temp).1)
      cases ev
      rw [List.length_map] at hk
      exact ⟨vs, SqT.of g, by rw [r.len]; exact hk⟩
    · obtain ⟨F, B, O, I⟩ := I
      obtain ⟨p', vs, ev, g, r⟩ := SR.tup I.base (show SR J F B H O _ ⟨md, .tup xs⟩ (.ref p) from (TOk.below (l := pre) I.temp).1)
      cases ev
      obtain ⟨e1, y⟩ := hy
      subst e1
      rw [List.getElem?_map] at hs
      obtain ⟨d, hd, es⟩ := Option.map_eq_some_iff.mp hs
      subst es
      obtain ⟨w, hw, rw'⟩ := r.get hd
      have hx := y vs (SqT.of g)
      rw [hw] at hx
      cases hx
      exact I.push ((reg_kid rw' _).mk I.base)
    · intro z x hx
      rw [List.mem_singleton.mp hx]
      intro y
      have y : md = .tmp := y
      subst y
      cases z
  | _ => exact m1.elim
/-- ranges -/
def rngI (lo c : Int) (n : Nat) : List Sv := (List.range n).map fun (k : Nat) => ⟨.shr, .int (lo + (k : Int) * c)⟩
def c62 (i : Int) : Bool := decide (-(2 ^ 62) ≤ i) && decide (i < 2 ^ 62)
theorem c62_ok {i : Int} (h : c62 i = true) : -(2 ^ 62) ≤ i ∧ i < 2 ^ 62 := by
  have h' : (decide (-(2 ^ 62) ≤ i) && decide (i < 2 ^ 62)) = true := h
  rw [Bool.and_eq_true] at h'
  exact ⟨of_decide_eq_true h'.1, of_decide_eq_true h'.2⟩
theorem wk_rng {lo c : Int} {n : Nat} {I : It} (hg : ∀ k H, k < n → I.go k H) (hs : ∀ k H, n ≤ k → I.stop k H) (hy : ∀ k H x H', I.yld k H x H' → H' = H ∧ x = .int (lo + (k : Int) * c)) : Wk J τ (rngI lo c n) I := by
  have len : (rngI lo c n).length = n := by unfold rngI; rw [List.length_map, List.length_range]
  refine ⟨fun pre k ρ σ H hk _ => hg k H (by rw [len] at hk; exact hk), fun pre k ρ σ H hk _ => hs k H (by rw [len] at hk; exact hk), fun pre k s ρ σ H x H' e I y => ?_⟩
  obtain ⟨e1, e2⟩ := hy k H x H' y
  subst e1 e2
  obtain ⟨F, B, O, I⟩ := I
  unfold rngI at e
  rw [List.getElem?_map] at e
  obtain ⟨j, hj, es⟩ := Option.map_eq_some_iff.mp e
  have : j = k := by
    have hk := (List.getElem?_eq_some_iff.mp hj)
    obtain ⟨h1, h2⟩ := hk
    rw [List.getElem_range] at h2
    exact h2.symm
  subst this
  subst es
  exact I.push (s := ⟨.shr, .int (lo + (j : Int) * c)⟩) rfl
def kII (k : Int → En → Rs (Bool × List Sv)) : Sv → En → Rs (Bool × List Sv) := fun s ρ => match s.d with
  | .int i => k i ρ
  | _ => .bad
theorem tE_intI {k : Int → En → Rs (Bool × List Sv)} {Q : VK} {R : It → Hp → Prop} (I : Iv J ρ τ σ H) (c : q = true ∨ NoTmp τ) (m : OutI J W τ σ (bnd (fa ρ) (kII k)) R)
    (h : ∀ i ρ1 H1, Iv J ρ1 τ σ H1 → OutI J W τ σ (k i ρ1) R → Q (.int i) H1) : tE J W q fa σ H Q := by
  refine ⟨ρ, τ, I, c, outI_bnd (α := Unit) m fun s ρ1 m1 v H1 ⟨F, B, O, I1⟩ => ?_⟩
  obtain ⟨md, d⟩ := s
  cases d with
  | int x =>
    have hv : v = .int x := I1.top.rep I1.base
    subst hv
    exact h x ρ1 H1 ⟨F, B, O, I1.drop1⟩ m1
  | _ => exact m1.elim
theorem outI_grd {b : Bool} {r : Rs (Bool × List Sv)} {R : It → Hp → Prop} (m : OutI J W τ σ (grd b r) R) : b = true ∧ OutI J W τ σ r R := by
  cases b with
  | true => exact ⟨rfl, m⟩
  | false => exact m.elim
def iR1 (fa : Sem1) : SemI := fun ρ => bnd (fa ρ) (kII fun j ρ1 => grd (c62 j) (.ok (true, rngI 0 1 j.toNat) ρ1))
theorem xi_r1 {p : Pos} (hg : Gl X "range") (hm : X.mg "range" = none) (ha : XE X J W a qa fa) (hs : starEach [a] X.env = (false, eval a X.env) :: starEach [] X.env := by rfl) (hs2 : starEach [a] X.env = [(false, eval a X.env)] := by rfl) : XI X J W tg (.Call (.Name "range" p) [a] [] pos) qa (iR1 fa) := by
  refine ⟨(pi_range1 hg hm (pa_cons ha.pe pa_nil hs) hs2).imp fun σ H R h => ?_⟩
  obtain ⟨ρ, τ, I, c, m⟩ := h
  refine tE_intI I c m fun j ρ1 H1 I1 m1 => ?_
  obtain ⟨z, m1⟩ := outI_grd m1
  obtain ⟨b1, b2⟩ := c62_ok z
  exact ⟨j, rfl, b1, b2, m1 [] _ _ I1 (wk_rng (fun k H h => h) (fun k H h => h) fun k H x H' y => ⟨y.1, by rw [y.2, Int.mul_one]⟩) (fun _ x hx => absurd hx (by simp))⟩
def iR2 (fa fb : Sem1) : SemI := fun ρ => bnd (fa ρ) (kII fun i ρ1 => bnd (fb ρ1) (kII fun j ρ2 => grd (c62 i && c62 j) (.ok (true, rngI i 1 (j - i).toNat) ρ2)))
theorem xi_r2 {p : Pos} (hg : Gl X "range") (hm : X.mg "range" = none) (ha : XE X J W a qa fa) (hb : XE X J W b qb fb) (he : starEach [a, b] X.env = (false, eval a X.env) :: starEach [b] X.env := by rfl) (he2 : starEach [b] X.env = (false, eval b X.env) :: starEach [] X.env := by rfl)
    (hs : starEach [a, b] X.env = [(false, eval a X.env), (false, eval b X.env)] := by rfl) (hs2 : starEach [b] X.env = [(false, eval b X.env)] := by rfl) : XI X J W tg (.Call (.Name "range" p) [a, b] [] pos) (qa && qb) (iR2 fa fb) := by
  refine ⟨(pi_range2 hg hm (pa_cons ha.pe (pa_cons hb.pe pa_nil he2) he) hs hs2).imp fun σ H R h => ?_⟩
  obtain ⟨ρ, τ, I, c, m⟩ := h
  refine tE_intI I (qand c).1 m fun i ρ1 H1 I1 m1 => tE_intI I1 (qand c).2 m1 fun j ρ2 H2 I2 m2 => ?_
  obtain ⟨z, m2⟩ := outI_grd m2
  rw [Bool.and_eq_true] at z
  obtain ⟨b1, b2⟩ := c62_ok z.1
  obtain ⟨b3, b4⟩ := c62_ok z.2
  exact ⟨i, j, rfl, ⟨b1, b2, b3, b4⟩, m2 [] _ _ I2 (wk_rng (fun k H h => h) (fun k H h => h) fun k H x H' y => ⟨y.1, by rw [y.2, Int.mul_one]⟩) (fun _ x hx => absurd hx (by simp))⟩
/-- range(a, b, -1) -/
def iR3 (fa fb : Sem1) : SemI := fun ρ => bnd (fa ρ) (kII fun i ρ1 => bnd (fb ρ1) (kII fun j ρ2 => grd (c62 i && c62 j) (.ok (true, rngI i (-1) (i - j).toNat) ρ2)))
theorem xi_r3 {p p1 p2 : Pos} {k1 : Nat} (hg : Gl X "range") (hm : X.mg "range" = none) (ha : XE X J W a qa fa) (hb : XE X J W b qb fb)
    (hpi : PI X tg (.Call (.Name "range" p) [a, b, .UnaryOp .USub (.Constant (.int 1) k1 p1) p2] [] pos) (iRng3 (tCons (tE J W qa fa) (tCons (tE J W qb fb) (tCons (tUn (rU fun i => .int (-i)) (tC (.int 1))) tNil))))) : XI X J W tg (.Call (.Name "range" p) [a, b, .UnaryOp .USub (.Constant (.int 1) k1 p1) p2] [] pos) (qa && qb) (iR3 fa fb) := by
  refine ⟨hpi.imp fun σ H R h => ?_⟩
  obtain ⟨ρ, τ, I, c, m⟩ := h
  refine tE_intI I (qand c).1 m fun i ρ1 H1 I1 m1 => tE_intI I1 (qand c).2 m1 fun j ρ2 H2 I2 m2 => ?_
  obtain ⟨z, m2⟩ := outI_grd m2
  rw [Bool.and_eq_true] at z
  obtain ⟨b1, b2⟩ := c62_ok z.1
  obtain ⟨b3, b4⟩ := c62_ok z.2
  exact ⟨1, rfl, i, j, -1, _, rfl, RgC.neg b1 b2 b3 b4, m2 [] _ _ I2 (wk_rng (fun k H h => h) (fun k H h => h) fun k H x H' y => ⟨y.1, by rw [y.2]⟩) (fun _ x hx => absurd hx (by simp))⟩
/-! ### targets -/
abbrev SemG := Sv → En → Option En
def tG (J : Jx) (ix : List Nat) (f : SemG) : TG := fun v σ H Q => ∃ s ρ τ, Iv J ρ ((s, v) :: τ) σ H ∧ match f s ρ with
  | some ρ1 => ∀ σ' H', Iv J ρ1 τ σ' H' → (∀ vs, (∀ i ∈ ix, i ∈ vs) → wipe σ' vs = wipe σ vs) → Q σ' H'
  | none => False
structure XG (X : Cx) (J : Jx) (tg : Expr) (ix : List Nat) (f : SemG) : Prop where
  pg : PG X tg (tG J ix f)
theorem wipe_set {σ : St} {i : Nat} {x : Option V} : ∀ {vs : List Nat}, i ∈ vs → wipe (σ.set i x) vs = wipe σ vs
  | [], h => by simp at h
  | v :: vs, h => by
    unfold wipe
    by_cases e : i = v
    · subst e
      by_cases h2 : i ∈ vs
      · rw [wipe_set h2]
      · have : ∀ (ws : List Nat) (σ : St), i ∉ ws → wipe (σ.set i x) ws = (wipe σ ws).set i x := by
          intro ws
          induction ws with
          | nil => intro σ _; rfl
          | cons w ws ih =>
            intro σ hn
            have hn' : ¬ (i = w) ∧ i ∉ ws := by simpa using hn
            show (wipe (σ.set i x) ws).set w none = ((wipe σ ws).set w none).set i x
            rw [ih σ hn'.2, List.set_comm _ _ hn'.1]
        rw [this vs σ h2, List.set_set]
    · have h2 : i ∈ vs := by
        rcases List.mem_cons.mp h with z | z
        · exact absurd z e
        · exact z
      rw [wipe_set h2]
def gNm (i : Nat) : SemG := fun s ρ => match noIo ρ i && sto s.m with
  | true => some (ρ.set i (some s))
  | false => none
theorem xg_name {i : Nat} {x : Str} {p : Pos} (hN : X.N.Nodup) (hi : X.N[i]? = some x) (hx : Loc X.env.scope x) (hf : X.fn x = true ∨ X.env.scope.names.lookup x = some .local := by first | exact .inl rfl | exact .inr rfl | assumption) (nf : NF J i := by first | exact nf_none (by assumption) | exact nf_ne (by assumption) rfl) : XG X J (.Name x p) [i] (gNm i) := by
  refine ⟨⟨fun pins s0 σ H v u Q I0 r h => (pg_name (X := X) hN hi hx hf).run pins s0 σ H v u Q I0 r ?_⟩⟩
  obtain ⟨s, ρ, τ, I, m⟩ := h
  unfold gNm at m
  cases z : noIo ρ i && sto s.m with
  | true =>
    rw [z] at m
    rw [Bool.and_eq_true] at z
    exact m _ _ (Iv.store nf I z.2) fun vs hv => wipe_set (hv i (List.mem_singleton.mpr rfl))
  | false => rw [z] at m; exact m.elim
/-! ### for -/
def loopL (tgt : SemG) (body : SemS) : List Sv → En → Sr
  | [], ρ => .next ρ
  | x :: xs, ρ => match tgt x ρ with
    | some ρ1 => (match body ρ1 with
      | .next ρ2 => loopL tgt body xs ρ2
      | .cont ρ2 => loopL tgt body xs ρ2
      | .brk ρ2 => .next ρ2
      | r => r)
    | none => .bad
def sFor (src : SemI) (tgt : SemG) (body : SemS) : SemS := fun ρ => bndS (src ρ) fun items ρ1 => grdS items.1 (loopL tgt body items.2 ρ1)
theorem NoTmp.app {l : List (Sv × V)} (h : NoTmp l) (h' : NoTmp τ) : NoTmp (l ++ τ) := fun x hx => (List.mem_append.mp hx).elim (h x) (h' x)
theorem xs_for {tb : SemS} {src : SemI} {tgt : SemG} {ix : List Nat} (hp : PassesOwn (model X.prog X.w) X.A X.env X.xe) (hc : X.calm = true) (hi : XI X J W tg iter q src) (hg : XG X J tg ix tgt) (hb : XB X J W body tb)
    (hs : ∀ x, foldedSetIterable iter X.env x = pure x := by intro _; rfl) : XS X J W (.For tg iter body [] pos) (sFor src tgt tb) := by
  refine ⟨(ps_for hp hc hi.pi hg.pg hb.pss hs).imp fun σ H D h => ?_⟩
  obtain ⟨ρ, τ, I, c, m⟩ := h
  refine ⟨ρ, τ, I, .inr c, ?_⟩
  unfold sFor at m
  cases e : src ρ with
  | ok its ρ1 =>
    rw [e] at m
    intro l J1 H1 I1 w nl
    obtain ⟨nt, m⟩ := outS_grd m
    have ntt := (nl nt).app c
    obtain ⟨nb, items⟩ := its
    have m : OutS J W τ (loopL tgt tb items ρ1) D := m
    have w : Wk J (l ++ τ) items J1 := w
    refine ⟨fun k n σ H => n = items.length - k ∧ k ≤ items.length ∧ ∃ ρ', Iv J ρ' (l ++ τ) σ H ∧ OutS J W τ (loopL tgt tb (items.drop k) ρ') D, ⟨items.length, by simp, Nat.zero_le _, ρ1, I1, by simpa using m⟩, ?_⟩
    rintro k n σ H ⟨rfl, hk, ρ', I', m'⟩
    by_cases hlt : k < items.length
    · refine .inr ⟨w.go [] k ρ' σ H hlt I', fun σ' H' => ∃ ρ'', Iv J ρ'' (l ++ τ) σ' H' ∧ OutS J W τ (loopL tgt tb (items.drop (k + 1)) ρ'') D, fun σ' H' ⟨ρ'', a1, a2⟩ => ⟨items.length - (k + 1), by omega, rfl, hlt, ρ'', a1, a2⟩, fun x H' y => ?_⟩
      have hs : items[k]? = some items[k] := by simp [hlt]
      rw [List.drop_eq_getElem_cons hlt] at m'
      refine ⟨items[k], ρ', l ++ τ, w.yld [] k _ ρ' σ H x H' hs I' y, ?_⟩
      have m' : OutS J W τ (match tgt items[k] ρ' with
        | some ρ1 => (match tb ρ1 with
          | .next ρ2 => loopL tgt tb (items.drop (k + 1)) ρ2
          | .cont ρ2 => loopL tgt tb (items.drop (k + 1)) ρ2
          | .brk ρ2 => .next ρ2
          | r => r)
        | none => .bad) D := m'
      cases z : tgt items[k] ρ' with
      | none => rw [z] at m'; exact m'.elim
      | some ρ3 =>
        rw [z] at m'
        intro σ3 H3 I3 _
        refine ⟨ρ3, l ++ τ, I3, ntt, ?_⟩
        have m' : OutS J W τ (match tb ρ3 with
          | .next ρ2 => loopL tgt tb (items.drop (k + 1)) ρ2
          | .cont ρ2 => loopL tgt tb (items.drop (k + 1)) ρ2
          | .brk ρ2 => .next ρ2
          | r => r) D := m'
        cases zz : tb ρ3 with
        | next ρ4 => rw [zz] at m'; exact fun σ4 H4 I4 => ⟨ρ4, I4, m'⟩
        | cont ρ4 => rw [zz] at m'; exact fun σ4 H4 I4 => ⟨ρ4, I4, m'⟩
        | brk ρ4 => rw [zz] at m'; exact fun σ4 H4 I4 => m' σ4 H4 I4.dropL
        | ret s ρ4 => rw [zz] at m'; exact fun v σ4 H4 I4 => m' v σ4 H4 I4.under
        | exc cc fs ρ4 => rw [zz] at m'; exact m'
        | bad => rw [zz] at m'; exact m'
    · have ek : k = items.length := by omega
      subst ek
      rw [List.drop_length] at m'
      exact .inl ⟨w.stop [] _ ρ' σ H (Nat.le_refl _) I', m' σ H I'.dropL⟩
  | exc cc fs ρ1 => rw [e] at m; exact fun cls d H => m cls d σ H
  | bad => rw [e] at m; exact m
/-! ### while -/
def loopW (c : SemB) (body : SemS) : Nat → En → Sr
  | 0, _ => .bad
  | n + 1, ρ => bndS (c ρ) fun b ρ1 => match b with
    | true => (match body ρ1 with
      | .next ρ2 => loopW c body n ρ2
      | .cont ρ2 => loopW c body n ρ2
      | .brk ρ2 => .next ρ2
      | r => r)
    | false => .next ρ1
def wMax : Nat := 1000000000000
def sWhile (c : SemB) (body : SemS) : SemS := fun ρ => loopW c body wMax ρ
theorem xs_while {tb : SemS} {gc : SemB} (hp : PassesOwn (model X.prog X.w) X.A X.env X.xe) (hc : XT X J W c qc gc) (hb : XB X J W body tb) : XS X J W (.While c body [] pos) (sWhile gc tb) := by
  refine ⟨(ps_while hp hc.pt hb.pss).imp fun σ H D h => ?_⟩
  obtain ⟨ρ, τ, I, cc, m⟩ := h
  refine ⟨fun n σ H => ∃ ρ', Iv J ρ' τ σ H ∧ OutS J W τ (loopW gc tb n ρ') D, ⟨wMax, ρ, I, m⟩, ?_⟩
  rintro n σ H ⟨ρ', I', m'⟩
  cases n with
  | zero => exact m'.elim
  | succ n =>
    refine ⟨ρ', τ, I', .inr cc, outS_bndB m' fun b ρ1 m1 H1 I1 => ?_⟩
    cases b with
    | true =>
      rw [if_pos rfl]
      refine ⟨fun σ' H' => ∃ ρ'', Iv J ρ'' τ σ' H' ∧ OutS J W τ (loopW gc tb n ρ'') D, fun σ' H' q => ⟨n, Nat.lt_succ_self _, q⟩, ρ1, τ, I1, cc, ?_⟩
      have m1 : OutS J W τ (match tb ρ1 with
        | .next ρ2 => loopW gc tb n ρ2
        | .cont ρ2 => loopW gc tb n ρ2
        | .brk ρ2 => .next ρ2
        | r => r) D := m1
      cases zz : tb ρ1 with
      | next ρ4 => rw [zz] at m1; exact fun σ4 H4 I4 => ⟨ρ4, I4, m1⟩
      | cont ρ4 => rw [zz] at m1; exact fun σ4 H4 I4 => ⟨ρ4, I4, m1⟩
      | brk ρ4 => rw [zz] at m1; exact fun σ4 H4 I4 => m1 σ4 H4 I4
      | ret s ρ4 => rw [zz] at m1; exact m1
      | exc cc fs ρ4 => rw [zz] at m1; exact m1
      | bad => rw [zz] at m1; exact m1
    | false => rw [if_neg Bool.false_ne_true]; exact m1 σ H1 I1
end
end MV
namespace MV
open PySem PySem.Spec PyProof.Rows L2
section
variable {X : Cx} {J : Jx} {W : WX} {e a b c tg iter elt : Expr} {es : List Expr} {st : Stmt} {sts body orelse : List Stmt} {q qa qb qc qr qe : Bool} {fa fb fc : Sem1} {f g : SemS} {gc : SemB} {pos : Pos} {τ τ1 : List (Sv × V)} {σ : St} {H : Hp} {ρ : En}
/-! ### comprehensions -/
def wipeE (ρ : En) : List Nat → En
  | [] => ρ
  | v :: vs => (wipeE ρ vs).set v none
theorem wipeE_len : ∀ (vs : List Nat), (wipeE ρ vs).length = ρ.length
  | [] => rfl
  | v :: vs => by unfold wipeE; rw [List.length_set, wipeE_len vs]
theorem wipeE_some {i : Nat} {x : Sv} : ∀ {vs : List Nat}, (wipeE ρ vs)[i]? = some (some x) → ρ[i]? = some (some x) ∧ i ∉ vs
  | [], h => ⟨h, by simp⟩
  | v :: vs, h => by
    unfold wipeE at h
    by_cases hi : v = i
    · subst hi
      by_cases hv : v < (wipeE ρ vs).length
      · rw [List.getElem?_set_self hv] at h; cases h
      · rw [List.getElem?_eq_none (by simpa using hv)] at h; cases h
    · rw [List.getElem?_set_ne hi] at h
      obtain ⟨h1, h2⟩ := wipeE_some h
      exact ⟨h1, by simp only [List.mem_cons, not_or]; exact ⟨fun e => hi e.symm, h2⟩⟩
theorem Iv.wipe {vs : List Nat} {σ2 σ3 : St} (nf : ∀ i ∈ vs, NF J i) (I : Iv J ρ τ σ2 H) (h : L2.wipe σ2 vs = L2.wipe σ3 vs) : Iv J (wipeE ρ vs) τ σ3 H := by
  obtain ⟨F, B, O, I⟩ := I
  refine ⟨F, B, O, I.base, ?_, fun i s e => ?_, I.temp⟩
  · have h1 := congrArg List.length h
    rw [wipe_length, wipe_length] at h1
    refine ⟨by rw [wipeE_len, I.len.eq, h1], fun i v e => ?_⟩
    have ni : i ∉ vs := fun z => nf i z v e
    have h2 : (L2.wipe σ2 vs)[i]? = (L2.wipe σ3 vs)[i]? := by rw [h]
    rw [wipe_out' ni, wipe_out' ni] at h2
    rw [← h2]; exact I.len.fx i v e
  · obtain ⟨e1, e2⟩ := wipeE_some e
    obtain ⟨t, v, e3, r⟩ := I.slot i s e1
    refine ⟨t, v, ?_, r⟩
    have h2 : (L2.wipe σ2 vs)[i]? = (L2.wipe σ3 vs)[i]? := by rw [h]
    rw [wipe_out' e2, wipe_out' e2] at h2
    rw [← h2]; exact e3
where
  wipe_out' {σ : St} {i : Nat} : ∀ {vs : List Nat}, i ∉ vs → (L2.wipe σ vs)[i]? = σ[i]?
    | [], _ => rfl
    | v :: vs, h => by
      have h' : ¬ (i = v) ∧ i ∉ vs := by simpa using h
      unfold L2.wipe
      rw [List.getElem?_set_ne (fun e => h'.1 e.symm)]
      exact wipe_out' h'.2
/-- the list on top grows -/
theorem IvW.mutT {F B : Hp} {O : Addr → Option Ow} {d d' : Vl} {o' : HO} {D : Addr} (I : IvW J F B O ρ ((⟨.own, d⟩, .ref D) :: τ) σ H) (rn : OwnO J.K F d' o') : IvW J F B O ρ ((⟨.own, d'⟩, .ref D) :: τ) σ (upd H D o') := by
  obtain ⟨a, o, e, g, r, q, n, z⟩ := I.top
  cases e
  have ne : ∀ (ow : Ow), ow ≠ .inr τ.length → ∀ b, O b = some ow → b ≠ D := fun ow h b y x => by subst x; rw [q] at y; exact h (Option.some.inj y).symm
  have keep : ∀ (ow : Ow) s v, ow ≠ .inr τ.length → SR J F B H O ow s v → SR J F B (upd H D o') O ow s v := fun ow s v no h => by
    obtain ⟨md, d⟩ := s
    cases md with
    | shr => exact h
    | bor => exact h
    | tmp => obtain ⟨b, u, e, g, r, i, q⟩ := h; exact ⟨b, u, e, by rw [upd_ne (ne (.inl i) (fun y => nomatch y) b q)]; exact g, r, i, q⟩
    | own => obtain ⟨b, u, e, g, r, q, z⟩ := h; exact ⟨b, u, e, by rw [upd_ne (ne _ no b q)]; exact g, r, q, z⟩
    | io => obtain ⟨b, u, e, g, r, q, z⟩ := h; exact ⟨b, u, e, by rw [upd_ne (ne _ no b q)]; exact g, r, q, z⟩
  refine ⟨⟨I.base.fb, fun b u e => ?_, I.base.f0, I.base.new, fun b u e y => ?_, fun b y => ?_⟩, I.len, fun j s2 e2 => ?_, ⟨D, o', rfl, upd_same, rn, q, n, z⟩, ?_⟩
  · rw [upd_ne (ne_of_none e n)]; exact I.base.bh b u e
  · have nb : b ≠ D := fun x => by subst x; rw [z] at e; cases e
    rw [upd_ne nb]; exact I.base.keep b u e y
  · by_cases x : b = D
    · subst x; exact ⟨o', upd_same⟩
    · rw [upd_ne x]; exact I.base.iot b y
  · obtain ⟨t2, v2, e3, r2⟩ := I.slot j s2 e2
    exact ⟨t2, v2, e3, keep _ _ _ (fun y => nomatch y) r2⟩
  · exact I.drop1.temp.imp fun s v k _ hk h => keep _ _ _ (fun y => Nat.ne_of_lt hk (Sum.inr.inj y)) h
def bndN {α β : Type} (r : Rs α) (k : α → En → Rs β) : Rs β := match r with
  | .ok a ρ => k a ρ
  | _ => .bad
def compL (own : List Nat) (tgt : SemG) (cond : SemB) (elt : Sem1) : List Sv → En → List Vl → Rs (List Vl)
  | [], ρ, acc => .ok acc ρ
  | x :: xs, ρ, acc => match tgt x ρ with
    | some ρ1 => bndN (cond ρ1) fun b ρ2 => match b with
      | true => bndN (elt ρ2) fun s ρ3 => grd (isShr s.m && decide (acc.length < sizeLine)) (compL own tgt cond elt xs (wipeE ρ3 own) (acc ++ [s.d]))
      | false => compL own tgt cond elt xs (wipeE ρ2 own) acc
    | none => .bad
def fLc (qn : Bool) (own : List Nat) (src : SemI) (tgt : SemG) (cond : SemB) (elt : Sem1) : Sem1 := fun ρ => bnd (src ρ) fun its ρ1 => grd (its.1 || qn) (bnd (compL own tgt cond elt its.2 (wipeE ρ1 own) []) fun ds ρ2 => .ok ⟨.own, .lst ds⟩ ρ2)
def bYes : SemB := fun ρ => .ok true ρ
abbrev WN : WX := fun _ _ _ _ => False
/-- the tests of a comprehension -/
structure XPs (X : Cx) (J : Jx) (W : WX) (ifs : List Expr) (q : Bool) (f : SemB) : Prop where
  pts : PTs X ifs (tT J W q f)
theorem xps_nil : XPs X J W [] true bYes := by
  refine ⟨⟨fun pins s σ H Q I h => (pts_nil (X := X)).run pins s σ H Q I ?_⟩⟩
  obtain ⟨ρ, τ, I, c, m⟩ := h
  exact m H I
theorem xps_one (h : XT X J W c qc gc) : XPs X J W [c] qc gc := ⟨pts_one h.pt⟩
theorem grd_inv {α : Type} {b : Bool} {r : Rs α} {x : Rs α} (h : grd b r = x) (n : x ≠ .bad) : b = true ∧ r = x := by
  cases b with
  | true => exact ⟨rfl, h⟩
  | false => exact absurd h.symm n
theorem tLc_ok {J1 : It} {l : List (Sv × V)} {items : List Sv} {D : Addr} {tgt : SemG} {ix own : List Nat} {cond : SemB} {elt : Sem1} {ρ' ρe : En} {ds : List Vl} {Q : VK} {H1 : Hp} (nf : ∀ i ∈ own, NF J i) (w : Wk J (l ++ τ) items J1) (hix : ∀ i ∈ ix, i ∈ own)
    (nt : (qc = true ∧ qe = true) ∨ NoTmp (l ++ τ)) (I1 : Iv J ρ' ((⟨.own, .lst []⟩, .ref D) :: (l ++ τ)) (wipe σ own) (upd H1 D (.lst []))) (m : compL own tgt cond elt items ρ' [] = .ok ds ρe)
    (done : ∀ H, Iv J ρe ((⟨.own, .lst ds⟩, .ref D) :: (l ++ τ)) (wipe σ own) H → Q (.ref D) H) :
    ∃ W : Nat → Nat → Hp → Prop, (∃ m, W 0 m (upd H1 D (.lst []))) ∧ ∀ i m H, W i m H →
      (J1.stop i H ∧ Q (.ref D) H) ∨ (J1.go i H ∧ ∃ Nx : Hp → Prop, (∀ H', Nx H' → ∃ m', m' < m ∧ W (i + 1) m' H') ∧ ∀ x H', J1.yld i H x H' → tG J ix tgt x (wipe σ own) H' fun σ2 H2 => wipe σ2 own = wipe σ own ∧ tT J WN qc cond σ2 H2 fun b H3 =>
        if b = true then tE J WN qe elt σ2 H3 fun y H4 => ∃ acc, H4 D = some (.lst acc) ∧ acc.length < sizeLine ∧ Nx (upd H4 D (.lst (acc ++ [y]))) else Nx H3) := by
  have ww : wipe (wipe σ own) own = wipe σ own := by
    have : ∀ (vs ws : List Nat) (σ : St), (∀ i ∈ ws, i ∈ vs) → wipe (wipe σ ws) vs = wipe σ vs := by
      intro vs ws
      induction ws with
      | nil => intro σ _; rfl
      | cons v ws ih =>
        intro σ h
        show wipe ((wipe σ ws).set v none) vs = _
        rw [wipe_set (h v List.mem_cons_self), ih σ fun i hi => h i (List.mem_cons_of_mem _ hi)]
    exact this own own σ fun _ h => h
  refine ⟨fun k n H => n = items.length - k ∧ k ≤ items.length ∧ ∃ ρ'' acc, Iv J ρ'' ((⟨.own, .lst acc⟩, .ref D) :: (l ++ τ)) (wipe σ own) H ∧ compL own tgt cond elt (items.drop k) ρ'' acc = .ok ds ρe, ⟨items.length, by simp, Nat.zero_le _, ρ', [], I1, by simpa using m⟩, ?_⟩
  rintro k n H ⟨rfl, hk, ρ2, acc, I', m'⟩
  by_cases hlt : k < items.length
  · refine .inr ⟨w.go [(⟨.own, .lst acc⟩, .ref D)] k ρ2 _ H hlt I', fun H' => ∃ ρ'' acc, Iv J ρ'' ((⟨.own, .lst acc⟩, .ref D) :: (l ++ τ)) (wipe σ own) H' ∧ compL own tgt cond elt (items.drop (k + 1)) ρ'' acc = .ok ds ρe,
      fun H' ⟨ρ'', acc', a1, a2⟩ => ⟨items.length - (k + 1), by omega, rfl, hlt, ρ'', acc', a1, a2⟩, fun x H' y => ?_⟩
    have hs : items[k]? = some items[k] := by simp [hlt]
    rw [List.drop_eq_getElem_cons hlt] at m'
    have m' : (match tgt items[k] ρ2 with
      | some ρ1 => bndN (cond ρ1) fun b ρ2 => match b with
        | true => bndN (elt ρ2) fun s ρ3 => grd (isShr s.m && decide (acc.length < sizeLine)) (compL own tgt cond elt (items.drop (k + 1)) (wipeE ρ3 own) (acc ++ [s.d]))
        | false => compL own tgt cond elt (items.drop (k + 1)) (wipeE ρ2 own) acc
      | none => .bad) = .ok ds ρe := m'
    have Iy := w.yld [(⟨.own, .lst acc⟩, .ref D)] k _ ρ2 _ H x H' hs I' y
    refine ⟨items[k], ρ2, _, Iy, ?_⟩
    cases z : tgt items[k] ρ2 with
    | none => rw [z] at m'; cases m'
    | some ρ3 =>
      rw [z] at m'
      intro σ2 H2 I2 hw
      have hw2 : wipe σ2 own = wipe σ own := (hw own hix).trans ww
      refine ⟨hw2, ρ3, _, I2, ?_, ?_⟩
      · exact nt.imp (fun z => z.1) fun z => z.cons (fun y => nomatch y)
      · have m' : (bndN (cond ρ3) fun b ρ2 => match b with
          | true => bndN (elt ρ2) fun s ρ3 => grd (isShr s.m && decide (acc.length < sizeLine)) (compL own tgt cond elt (items.drop (k + 1)) (wipeE ρ3 own) (acc ++ [s.d]))
          | false => compL own tgt cond elt (items.drop (k + 1)) (wipeE ρ2 own) acc) = .ok ds ρe := m'
        cases zc : cond ρ3 with
        | ok b ρ4 =>
          rw [zc] at m'
          intro H4 I4
          cases b with
          | true =>
            rw [if_pos rfl]
            have m' : (bndN (elt ρ4) fun s ρ3 => grd (isShr s.m && decide (acc.length < sizeLine)) (compL own tgt cond elt (items.drop (k + 1)) (wipeE ρ3 own) (acc ++ [s.d]))) = .ok ds ρe := m'
            refine ⟨ρ4, _, I4, nt.imp (fun z => z.2) fun z => z.cons (fun y => nomatch y), ?_⟩
            cases ze : elt ρ4 with
            | ok s ρ5 =>
              rw [ze] at m'
              rintro v H5 ⟨F, B, O, I5⟩
              obtain ⟨h, m'⟩ := grd_inv m' (fun y => nomatch y)
              rw [Bool.and_eq_true] at h
              obtain ⟨ms, dd⟩ := s
              cases ms with
              | shr =>
                have rd : Rep J.K F dd v := I5.top
                obtain ⟨p, o, ev, g, ⟨vs, eo, r⟩, _⟩ := I5.drop1.top
                cases ev
                subst eo
                refine ⟨vs, g, by rw [r.len]; exact of_decide_eq_true h.2, wipeE ρ5 own, acc ++ [dd], ?_, m'⟩
                have I6 : IvW J F B O ρ5 ((⟨.own, .lst (acc ++ [dd])⟩, .ref D) :: (l ++ τ)) σ2 (upd H5 D (.lst (vs ++ [v]))) := I5.drop1.mutT (d' := .lst (acc ++ [dd])) ⟨_, rfl, r.app (.cons rd .nil)⟩
                exact Iv.wipe nf ⟨F, B, O, I6⟩ (hw2.trans ww.symm)
              | _ => cases h.1
            | exc cc fs ρ5 => rw [ze] at m'; cases m'
            | bad => rw [ze] at m'; cases m'
          | false =>
            rw [if_neg Bool.false_ne_true]
            exact ⟨wipeE ρ4 own, acc, Iv.wipe nf I4 (hw2.trans ww.symm), m'⟩
        | exc cc fs ρ5 => rw [zc] at m'; cases m'
        | bad => rw [zc] at m'; cases m'
  · have ek : k = items.length := by omega
    subst ek
    rw [List.drop_length] at m'
    cases m'
    exact .inl ⟨w.stop [(⟨.own, .lst _⟩, .ref D)] _ _ _ H (Nat.le_refl _) I', done H I'⟩
theorem lc_ok {src : SemI} {tgt : SemG} {ix own : List Nat} {cond : SemB} {elt : Sem1} {Q : VK} (nf : ∀ i ∈ own, NF J i) (hix : ∀ i ∈ ix, i ∈ own) (h : tE J W (q && (qc && qe)) (fLc (qc && qe) own src tgt cond elt) σ H Q) :
    tLc (tI J W q src) (tG J ix tgt) (tT J WN qc cond) (tE J WN qe elt) own σ H Q := by
  obtain ⟨ρ, τ, I, c, m⟩ := h
  refine ⟨ρ, τ, I, (qand c).1, ?_⟩
  unfold fLc at m
  cases e : src ρ with
  | ok its ρ1 =>
    rw [e] at m
    intro l J1 H1 I1 w nl D nD
    obtain ⟨hq, m⟩ := out_grd (b := its.1 || (qc && qe)) m
    have nt : (qc = true ∧ qe = true) ∨ NoTmp (l ++ τ) := by
      rcases (Bool.or_eq_true _ _).mp hq with z | z
      · rcases (qand c).2 with y | y
        · rw [Bool.and_eq_true] at y; exact .inl y
        · exact .inr ((nl z).app y)
      · rw [Bool.and_eq_true] at z; exact .inl z
    cases z : compL own tgt cond elt its.2 (wipeE ρ1 own) [] with
    | ok ds ρ2 =>
      rw [z] at m
      have m : Out J W τ σ (.ok ⟨.own, .lst ds⟩ ρ2) Q := m
      have I2 : Iv J (wipeE ρ1 own) ((⟨.own, .lst []⟩, .ref D) :: (l ++ τ)) (wipe σ own) (upd H1 D (.lst [])) := by
        have I3 : Iv J ρ1 ((⟨.own, .lst []⟩, .ref D) :: (l ++ τ)) σ (upd H1 D (.lst [])) := by
          obtain ⟨F, B, O, I1⟩ := I1
          exact I1.new nD ⟨[], rfl, rfl⟩
        exact Iv.wipe nf I3 (wipe_wipe own own (fun _ h => h)).symm
      refine tLc_ok nf w hix nt I2 z fun H I => ?_
      have I4 : Iv J ρ2 ((⟨.own, .lst ds⟩, .ref D) :: (l ++ τ)) σ H := by
        obtain ⟨F, B, O, I⟩ := I
        refine ⟨F, B, O, I.base, ⟨by rw [I.len.eq, wipe_length], fun i v e => (wipe_some (I.len.fx i v e)).1⟩, fun i s e => ?_, I.temp⟩
        obtain ⟨t, v, e1, r⟩ := I.slot i s e
        exact ⟨t, v, (wipe_some e1).1, r⟩
      exact m _ _ I4.under
    | exc cc fs ρ2 =>
      exfalso
      exact compL_exc z
    | bad => rw [z] at m; exact m.elim
  | exc cc fs ρ1 => rw [e] at m; exact m
  | bad => rw [e] at m; exact m
where
  wipe_wipe {σ : St} (vs ws : List Nat) (h : ∀ i ∈ ws, i ∈ vs) : wipe (wipe σ ws) vs = wipe σ vs := by
    induction ws with
    | nil => rfl
    | cons v ws ih =>
      show wipe ((wipe σ ws).set v none) vs = _
      rw [wipe_set (h v List.mem_cons_self), ih fun i hi => h i (List.mem_cons_of_mem _ hi)]
  compL_exc {tgt : SemG} {own : List Nat} {cond : SemB} {elt : Sem1} {cc : Str} {fs : List (Str × Vl)} {ρ2 : En} : ∀ {xs : List Sv} {ρ : En} {acc : List Vl}, compL own tgt cond elt xs ρ acc = .exc cc fs ρ2 → False
    | [], _, _, h => by cases h
    | x :: xs, ρ, acc, h => by
      unfold compL at h
      cases z : tgt x ρ with
      | none => rw [z] at h; cases h
      | some ρ1 =>
        rw [z] at h
        replace h : bndN (cond ρ1) _ = _ := h
        cases zc : cond ρ1 with
        | ok b ρ3 =>
          rw [zc] at h
          cases b with
          | true =>
            cases ze : elt ρ3 with
            | ok s ρ4 =>
              have h : bndN (elt ρ3) (fun s ρ3 => grd (isShr s.m && decide (acc.length < sizeLine)) (compL own tgt cond elt xs (wipeE ρ3 own) (acc ++ [s.d]))) = _ := h
              rw [ze] at h
              obtain ⟨_, h⟩ := grd_inv h (fun y => nomatch y)
              exact compL_exc h
            | exc _ _ _ => have h : bndN (elt ρ3) _ = _ := h; rw [ze] at h; cases h
            | bad => have h : bndN (elt ρ3) _ = _ := h; rw [ze] at h; cases h
          | false => exact compL_exc h
        | exc _ _ _ => rw [zc] at h; cases h
        | bad => rw [zc] at h; cases h
/-- [elt for tg in iter if ..] -/
theorem xe_lc {src : SemI} {tgt : SemG} {ix : List Nat} {cond : SemB} {felt : Sem1} {ifs : List Expr} {scope : Scope} {own : List (Str × Nat)} (hix : ∀ i ∈ ix, i ∈ own.map (·.2)) (hc : X.calm = true) (hN : X.N.Nodup) (hi : XI X J W tg iter q src) (ok : BlkOk X.N X.env.scope scope own)
    (hg : ∀ (s : Shared) (H : Hp) (C : Addr) (cl : List (Str × Addr)) (fp : List Addr), XG (X.blk s H scope (compEnvC scope cl C X.env) fp) J tg ix tgt) (ht : ∀ (s : Shared) (H : Hp) (C : Addr) (cl : List (Str × Addr)) (fp : List Addr), XPs (X.blk s H scope (compEnvC scope cl C X.env) fp) J WN ifs qc cond)
    (he : ∀ (s : Shared) (H : Hp) (C : Addr) (cl : List (Str × Addr)) (fp : List Addr), XE (X.blk s H scope (compEnvC scope cl C X.env) fp) J WN elt qe felt) (hs : ∀ x, foldedSetIterable iter X.env x = pure x := by intro _; rfl) (nf : ∀ i ∈ own.map (·.2), NF J i := by first | exact fun _ _ => nf_none (by assumption) | exact nfs_ne (by assumption) rfl) :
    XE X J W (.ListComp elt [⟨tg, iter, ifs, 0⟩] scope pos) (q && (qc && qe)) (fLc (qc && qe) (own.map (·.2)) src tgt cond felt) :=
  ⟨(pe_lc hc hN hi.pi ok (fun s H C cl fp => (hg s H C cl fp).pg) (fun s H C cl fp => (ht s H C cl fp).pts) (fun s H C cl fp => (he s H C cl fp).pe) hs).imp fun σ H Q h => lc_ok nf hix h⟩
/-- name = [..] on one line, the name a local -/
theorem xs_asgLc {i : Nat} {y : Str} {py spos : Pos} {src : SemI} {tgt : SemG} {ix : List Nat} {cond : SemB} {felt : Sem1} {ifs : List Expr} {scope : Scope} {own : List (Str × Nat)} (hix : ∀ i ∈ ix, i ∈ own.map (·.2)) (hc : X.calm = true) (hN : X.N.Nodup) (hy : X.N[i]? = some y) (hyl : X.env.scope.names.lookup y = some .local)
    (hsw : swapsWith (.ListComp elt [⟨tg, iter, ifs, 0⟩] scope pos) (some (.Name y py)) spos.line X.env = pure true) (hi : XI X J W tg iter q src) (ok : BlkOk X.N X.env.scope scope own)
    (hg : ∀ (s : Shared) (H : Hp) (C : Addr) (cl : List (Str × Addr)) (fp : List Addr), XG (X.blk s H scope (compEnvC scope cl C X.env) fp) J tg ix tgt) (ht : ∀ (s : Shared) (H : Hp) (C : Addr) (cl : List (Str × Addr)) (fp : List Addr), XPs (X.blk s H scope (compEnvC scope cl C X.env) fp) J WN ifs qc cond)
    (he : ∀ (s : Shared) (H : Hp) (C : Addr) (cl : List (Str × Addr)) (fp : List Addr), XE (X.blk s H scope (compEnvC scope cl C X.env) fp) J WN elt qe felt) (hs : ∀ x, foldedSetIterable iter X.env x = pure x := by intro _; rfl) (nf : ∀ i ∈ own.map (·.2), NF J i := by first | exact fun _ _ => nf_none (by assumption) | exact nfs_ne (by assumption) rfl) (nfi : NF J i := by first | exact nf_none (by assumption) | exact nf_ne (by assumption) rfl) :
    XS X J W (.Assign [.Name y py] (.ListComp elt [⟨tg, iter, ifs, 0⟩] scope pos) spos) (sAsg i (fLc (qc && qe) (own.map (·.2)) src tgt cond felt)) := by
  refine ⟨(ps_setLc hc hN hy hyl hsw hi.pi ok (fun s H C cl fp => (hg s H C cl fp).pg) (fun s H C cl fp => (ht s H C cl fp).pts) (fun s H C cl fp => (he s H C cl fp).pe) hs).imp fun σ H D h => ?_⟩
  obtain ⟨ρ, τ, I, c, m⟩ := h
  exact lc_ok nf hix ⟨ρ, τ, I, .inr c, outS_bnd m fun s ρ1 m1 v H1 I1 => stS_ok nfi m1 I1⟩
/-- .. frozen at once -/
theorem xs_asgLcF {i : Nat} {y : Str} {py spos : Pos} {src : SemI} {tgt : SemG} {ix : List Nat} {cond : SemB} {felt : Sem1} {ifs : List Expr} {scope : Scope} {own : List (Str × Nat)} (hix : ∀ i ∈ ix, i ∈ own.map (·.2)) (hc : X.calm = true) (hN : X.N.Nodup) (hy : X.N[i]? = some y) (hyl : X.env.scope.names.lookup y = some .local)
    (hsw : swapsWith (.ListComp elt [⟨tg, iter, ifs, 0⟩] scope pos) (some (.Name y py)) spos.line X.env = pure true) (hi : XI X J W tg iter q src) (ok : BlkOk X.N X.env.scope scope own)
    (hg : ∀ (s : Shared) (H : Hp) (C : Addr) (cl : List (Str × Addr)) (fp : List Addr), XG (X.blk s H scope (compEnvC scope cl C X.env) fp) J tg ix tgt) (ht : ∀ (s : Shared) (H : Hp) (C : Addr) (cl : List (Str × Addr)) (fp : List Addr), XPs (X.blk s H scope (compEnvC scope cl C X.env) fp) J WN ifs qc cond)
    (he : ∀ (s : Shared) (H : Hp) (C : Addr) (cl : List (Str × Addr)) (fp : List Addr), XE (X.blk s H scope (compEnvC scope cl C X.env) fp) J WN elt qe felt) (hs : ∀ x, foldedSetIterable iter X.env x = pure x := by intro _; rfl) (nf : ∀ i ∈ own.map (·.2), NF J i := by first | exact fun _ _ => nf_none (by assumption) | exact nfs_ne (by assumption) rfl) (nfi : NF J i := by first | exact nf_none (by assumption) | exact nf_ne (by assumption) rfl) :
    XS X J W (.Assign [.Name y py] (.ListComp elt [⟨tg, iter, ifs, 0⟩] scope pos) spos) (sAsg i (fFrz (fLc (qc && qe) (own.map (·.2)) src tgt cond felt))) := by
  refine ⟨(ps_setLc hc hN hy hyl hsw hi.pi ok (fun s H C cl fp => (hg s H C cl fp).pg) (fun s H C cl fp => (ht s H C cl fp).pts) (fun s H C cl fp => (he s H C cl fp).pe) hs).imp fun σ H D h => ?_⟩
  obtain ⟨ρ, τ, I, c, m⟩ := h
  refine lc_ok nf hix ⟨ρ, τ, I, .inr c, ?_⟩
  have m2 : Out J W τ σ (fFrz (fLc (qc && qe) (own.map (·.2)) src tgt cond felt) ρ) (fun v H => D.nx (σ.set i (some v)) H) := outS_bnd m fun s ρ1 m1 v H1 I1 => stS_ok nfi m1 I1
  unfold fFrz at m2
  cases e : fLc (qc && qe) (own.map (·.2)) src tgt cond felt ρ with
  | ok s ρ1 =>
    rw [e] at m2
    rintro v H1 ⟨F, B, O, I1⟩
    obtain ⟨md, d⟩ := s
    cases md with
    | own => exact m2 v H1 I1.frz
    | shr => exact m2 v H1 ⟨F, B, O, I1⟩
    | _ => exact m2.elim
  | exc cc fs ρ1 => rw [e] at m2; exact m2
  | bad => rw [e] at m2; exact m2
/-! ### several targets -/
/-- (a, b, ..) = a tuple, names alone -/
def setAll : List Nat → List Vl → Md → En → Option En
  | [], [], _, ρ => some ρ
  | i :: is, d :: ds, m, ρ => (match noIo ρ i with
    | true => setAll is ds m (ρ.set i (some (mk m d)))
    | false => none)
  | _, _, _, _ => none
def gTp (is : List Nat) : SemG := fun s ρ => match s.d with
  | .tup ds => (match s.m with
    | .bor => setAll is ds .bor ρ
    | .shr => setAll is ds .shr ρ
    | _ => none)
  | _ => none
end
end MV
namespace MV
open PySem PySem.Spec PyProof.Rows L2
section
variable {X : Cx} {J : Jx} {W : WX} {e a b c o tg iter elt : Expr} {es : List Expr} {st : Stmt} {sts body orelse : List Stmt} {q qa qb qc qr qe : Bool} {fa fb fc : Sem1} {f g : SemS} {gc : SemB} {pos : Pos} {τ τ1 : List (Sv × V)} {σ : St} {H : Hp} {ρ : En}
/-! ### several targets -/
theorem IvW.storeK {F B : Hp} {O : Addr → Option Ow} {i : Nat} {m : Md} {d : Vl} {v : V} (I : IvW J F B O ρ τ σ H) (nf : NF J i) (h : Rep J.K (reg F B m) d v) (hm : m = .bor ∨ m = .shr) : IvW J F B O (ρ.set i (some (MV.mk m d))) τ (σ.set i (some v)) H := by
  have r : ∀ k, SR J F B H O k (MV.mk m d) v := fun k => by
    refine SR.mk ?_ I.base
    rcases hm with e | e <;> (subst e; exact h)
  have ntm : (MV.mk m d).m ≠ Md.tmp := by
    unfold MV.mk
    rcases hm with e | e <;> (subst e; split <;> exact fun z => nomatch z)
  refine ⟨I.base, I.len.set2 nf, fun j s2 e2 => ?_, I.temp⟩
  by_cases hj : i = j
  · subst hj
    by_cases hl : i < ρ.length
    · rw [List.getElem?_set_self hl] at e2
      cases e2
      exact ⟨ntm, v, List.getElem?_set_self (by rw [← I.len.eq]; exact hl), r _⟩
    · rw [List.getElem?_eq_none (by simpa using hl)] at e2; cases e2
  · rw [List.getElem?_set_ne hj] at e2
    obtain ⟨t2, v2, e3, r2⟩ := I.slot j s2 e2
    exact ⟨t2, v2, by rw [List.getElem?_set_ne hj]; exact e3, r2⟩
def tGs (J : Jx) (ix is : List Nat) : TGs := fun vs σ H Q => ∃ ρ τ F B O ds m, IvW J F B O ρ τ σ H ∧ RepL J.K (reg F B m) ds vs ∧ (m = .bor ∨ m = .shr) ∧ match setAll is ds m ρ with
  | some ρ1 => ∀ σ' H', Iv J ρ1 τ σ' H' → (∀ vs, (∀ i ∈ ix, i ∈ vs) → wipe σ' vs = wipe σ vs) → Q σ' H'
  | none => False
structure XGs (X : Cx) (J : Jx) (tgs : List Expr) (ix is : List Nat) : Prop where
  pgs : PGs X tgs (tGs J ix is)
theorem xgs_nil {ix : List Nat} : XGs X J [] ix [] := by
  refine ⟨⟨fun pins s σ H vs us Q I r h => (pgs_nil (X := X)).run pins s σ H vs us Q I r ?_⟩⟩
  obtain ⟨ρ, τ, F, B, O, ds, m, I, rl, hm, k⟩ := h
  cases ds with
  | nil => exact ⟨rl, k σ H ⟨F, B, O, I⟩ fun _ _ => rfl⟩
  | cons d ds => exact k.elim
theorem xgs_cons {ix is : List Nat} {i : Nat} {x : Str} {p : Pos} {es : List Expr} (hmem : i ∈ ix) (hN : X.N.Nodup) (hi : X.N[i]? = some x) (hx : Loc X.env.scope x) (hr : XGs X J es ix is) (hf : X.fn x = true ∨ X.env.scope.names.lookup x = some .local := by first | exact .inl rfl | exact .inr rfl | assumption)
    (hs : (assignEach (.Name x p :: es) X.env).map (·.2) = assign (.Name x p) X.env :: (assignEach es X.env).map (·.2) := by rfl) (nf : NF J i := by first | exact nf_none (by assumption) | exact nf_ne (by assumption) rfl) : XGs X J (.Name x p :: es) ix (i :: is) := by
  refine ⟨⟨fun pins s σ H vs us Q I r h => (pgs_cons (pg_name (X := X) (pos := p) hN hi hx hf) hr.pgs hs).run pins s σ H vs us Q I r ?_⟩⟩
  obtain ⟨ρ, τ, F, B, O, ds, m, I, rl, hm, k⟩ := h
  cases ds with
  | nil => exact k.elim
  | cons d ds =>
    obtain ⟨v, r, ev, r1, r2⟩ := rl
    refine ⟨v, r, ev, ?_⟩
    have k : (match (match noIo ρ i with | true => setAll is ds m (ρ.set i (some (mk m d))) | false => none) with
      | some ρ1 => ∀ σ' H', Iv J ρ1 τ σ' H' → (∀ vs, (∀ i ∈ ix, i ∈ vs) → wipe σ' vs = wipe σ vs) → Q σ' H'
      | none => False) := k
    cases z : noIo ρ i with
    | false => rw [z] at k; exact k.elim
    | true =>
      rw [z] at k
      refine ⟨ρ.set i (some (mk m d)), τ, F, B, O, ds, m, I.storeK nf r1 hm, r2, hm, ?_⟩
      replace k : (match setAll is ds m (ρ.set i (some (mk m d))) with
        | some ρ1 => ∀ σ' H', Iv J ρ1 τ σ' H' → (∀ vs, (∀ i ∈ ix, i ∈ vs) → wipe σ' vs = wipe σ vs) → Q σ' H'
        | none => False) := k
      cases zz : setAll is ds m (ρ.set i (some (mk m d))) with
      | none => rw [zz] at k; exact k.elim
      | some ρ1 =>
        rw [zz] at k
        exact fun σ' H' I' hw => k σ' H' I' fun vs hv => (hw vs hv).trans (wipe_set (hv i hmem))
theorem xg_tup {is : List Nat} {es : List Expr} {k : Nat} (hc : X.calm = true) (h : XGs X J es is is)
    (hn : (assignEach es X.env).length = is.length := by rfl) (hst : (assignEach es X.env).findIdx? (·.1) = none := by rfl) : XG X J (.Tuple es k pos) is (gTp is) := by
  refine ⟨⟨fun pins s σ H v u Q I r hw => (pg_tup (n := is.length) hc h.pgs hn hst).run pins s σ H v u Q I r ?_⟩⟩
  obtain ⟨sv, ρ, τ, ⟨F, B, O, I1⟩, k⟩ := hw
  obtain ⟨md, d⟩ := sv
  have setLen : ∀ {is : List Nat} {ds : List Vl} {m : Md} {ρ ρ1 : En}, setAll is ds m ρ = some ρ1 → ds.length = is.length := by
    intro is
    induction is with
    | nil => intro ds m ρ ρ1 h; cases ds with
      | nil => rfl
      | cons d ds => cases h
    | cons i is ih => intro ds m ρ ρ1 h; cases ds with
      | nil => cases h
      | cons d ds =>
        have h : (match noIo ρ i with | true => setAll is ds m (ρ.set i (some (mk m d))) | false => none) = some ρ1 := h
        cases z : noIo ρ i with
        | false => rw [z] at h; cases h
        | true => rw [z] at h; rw [List.length_cons, List.length_cons, ih h]
  cases d with
  | tup ds =>
    obtain ⟨p, vs, e, g, r⟩ := I1.top.tup I1.base
    have go : ∀ m, (m = .bor ∨ m = .shr) → md = m → (match setAll is ds m ρ with
      | some ρ1 => ∀ σ' H', Iv J ρ1 τ σ' H' → (∀ vs, (∀ i ∈ is, i ∈ vs) → wipe σ' vs = wipe σ vs) → Q σ' H'
      | none => False) → gTup X.K is.length (tGs J is is) v σ H Q := fun m hm e2 k => by
      subst e2
      have hl : ds.length = is.length := by
        cases zz : setAll is ds md ρ with
        | none => rw [zz] at k; exact k.elim
        | some ρ1 => exact setLen zz
      exact ⟨p, vs, e, SqT.of g, by rw [r.len]; exact hl, ρ, τ, F, B, O, ds, md, I1.drop1, r, hm, k⟩
    cases md with
    | bor => exact go .bor (.inl rfl) rfl k
    | shr => exact go .shr (.inr rfl) rfl k
    | _ => exact k.elim
  | _ => exact k.elim
def sUnp (tgt : SemG) (fa : Sem1) : SemS := fun ρ => bndS (fa ρ) fun s ρ1 => match tgt s ρ1 with
  | some ρ2 => .next ρ2
  | none => .bad
theorem xs_unp {tgt : SemG} {ix : List Nat} (hg : XG X J tg ix tgt) (ha : XE X J W a qa fa) (hs : swapsWithSole [tg] a pos.line X.env = pure false := by rfl) (hw : swappedStores [tg] a X.env = pure none := by rfl)
    (h1 : (assignEach [tg] X.env).map (·.2) = [assign tg X.env] := by rfl) : XS X J W (.Assign [tg] a pos) (sUnp tgt fa) := by
  refine ⟨(ps_asg ha.pe hg.pg hs hw h1).imp fun σ H D h => ?_⟩
  obtain ⟨ρ, τ, I, c, m⟩ := h
  refine ⟨ρ, τ, I, .inr c, outS_bnd m fun s ρ1 m1 v H1 I1 => ⟨s, ρ1, τ, I1, ?_⟩⟩
  cases z : tgt s ρ1 with
  | none => rw [z] at m1; exact m1.elim
  | some ρ2 => rw [z] at m1; exact fun σ' H' I' _ => m1 σ' H' I'
/-! ### fields -/
def kFld (f : Str) (cs : List Str) : K1 := fun s ρ => match s.d with
  | .ins c fs => grd (decide (c ∈ cs)) (match fs.lookup f with
    | some d => .ok (mk s.m.kid d) ρ
    | none => .bad)
  | _ => .bad
structure FldOk (K : PySem.W.Frag) (cs : List Str) (f : Str) : Prop where
  ok : ∀ c ∈ cs, Cls K (He.ga K c) ∧ NoAttr K (He.ga K c) f
theorem xe_fld {f : Str} {cs : List Str} (hK : J.K = X.K) (hf : FldOk X.K cs f) (ha : XE X J W a qa fa) (hb : attributeBase a f X.env (eval a X.env) = eval a X.env := by rfl) : XE X J W (.Attribute a f pos) qa (fOne fa (kFld f cs)) := by
  refine ⟨(pe_fld ha.pe hb).imp fun σ H Q h => tE_one (fun _ _ _ _ _ I _ _ _ o h => o _ _ _ _ _ _ _ I h) (r := fun x H1 Q => ∃ a C dx fs v, x = .ref a ∧ H1 a = some (.ins C dx fs) ∧ Cls X.K C ∧ NoAttr X.K C f ∧ fs.lookup f = some v ∧ Q v H1) ?_ h⟩
  rintro ρ τ σ H ⟨md, d⟩ v Q ⟨F, B, O, I⟩ m
  cases d with
  | ins c fs =>
    obtain ⟨h, m⟩ := out_grd (b := decide (c ∈ cs)) m
    obtain ⟨p, dx, ws, e, g, r⟩ := I.top.ins I.base
    obtain ⟨h1, h2⟩ := hf.ok c (of_decide_eq_true h)
    cases z : fs.lookup f with
    | none => rw [z] at m; exact m.elim
    | some d =>
      rw [z] at m
      obtain ⟨w, w1, w2⟩ := r.look z
      rw [hK] at g
      exact ⟨p, _, dx, ws, w, e, g, h1, h2, w1, kid_out I.drop1 w2 m⟩
  | _ => exact m.elim
/-- x.f = e, the object owned -/
def sFldS (i : Nat) (f : Str) (cs : List Str) (fa : Sem1) : SemS := fun ρ => bndS (fa ρ) fun s ρ1 => grdS (isShr s.m) (match ρ1[i]? with
  | some (some ⟨m, .ins c fs⟩) => grdS (mutb m && decide (c ∈ cs) && decide (fs.length < 1000)) (.next (ρ1.set i (some ⟨m, .ins c (putFV f s.d fs)⟩)))
  | _ => .bad)
theorem xs_fld {i : Nat} {x f : Str} {cs : List Str} {p pos' : Pos} (hK : J.K = X.K) (hf : FldOk X.K cs f) (hN : X.N[i]? = some x) (hv : Vis X.env.scope x) (ha : XE X J W a qa fa) (hs : swapsWith a (some (.Attribute (.Name x p) f pos')) pos.line X.env = pure false := by rfl)
    (hd : (x == ("__debug__" : Str)) = false := by decide) (hcd : (x == ("__classdict__" : Str)) = false := by decide) : XS X J W (.Assign [.Attribute (.Name x p) f pos'] a pos) (sFldS i f cs fa) := by
  refine ⟨(ps_fld (pe_var hN hv hd hcd) ha.pe hs).imp fun σ H D h => ?_⟩
  obtain ⟨ρ, τ, I, c, m⟩ := h
  refine ⟨ρ, τ, I, .inr c, outS_bnd m fun s ρ1 m1 v H1 ⟨F, B, O, I1⟩ => ?_⟩
  obtain ⟨h, m1⟩ := outS_grd m1
  obtain ⟨md, d⟩ := s
  cases md with
  | shr =>
    have rd : Rep J.K F d v := I1.top
    cases e : ρ1[i]? with
    | none => rw [e] at m1; exact m1.elim
    | some s2 =>
      cases s2 with
      | none => rw [e] at m1; exact m1.elim
      | some s2 =>
        obtain ⟨m2, d2⟩ := s2
        rw [e] at m1
        cases d2 with
        | ins cc fs =>
          obtain ⟨h2, m1⟩ := outS_grd (b := mutb m2 && decide (cc ∈ cs) && decide (fs.length < 1000)) m1
          rw [Bool.and_eq_true, Bool.and_eq_true] at h2
          obtain ⟨p, o, e1, g, ⟨dx, ws, eo, r⟩, nw⟩ := I1.drop1.mut c e (mutb_or h2.1.1)
          subst eo
          obtain ⟨h3, h4⟩ := hf.ok cc (of_decide_eq_true h2.1.2)
          have I2 := nw (.ins cc (putFV f d fs)) (.ins (He.ga J.K cc) dx (putF f v ws)) ⟨dx, _, rfl, r.put rd⟩
          rw [hK] at I2 g
          exact ⟨.ref p, e1, p, _, dx, ws, rfl, g, h3, h4, by rw [r.len]; exact of_decide_eq_true h2.2, m1 σ _ ⟨F, B, O, I2⟩⟩
        | _ => exact m1.elim
  | _ => cases h
end
end MV
namespace MV
open PySem PySem.Spec PyProof.Rows L2
/-! ### functions -/
inductive PM where
  | sca | bor | shr | io
inductive FRes where
  | ret (r : Vl) (outs : List Vl)
  | exc (c : Str) (fs : List (Str × Vl)) (outs : List Vl)
  | bad
abbrev Fn := List Vl → FRes
def mns (H : Hp) (ios : List Addr) : Hp := fun b => if b ∈ ios then none else H b
theorem mns_sub {H : Hp} {ios : List Addr} : Sub (mns H ios) H := fun b o e => by
  unfold mns at e
  split at e
  · cases e
  · exact e
theorem mns_of {H : Hp} {ios : List Addr} {b : Addr} {o : HO} (h : H b = some o) (n : b ∉ ios) : mns H ios b = some o := by
  unfold mns; rw [if_neg n]; exact h
theorem mns_no {H : Hp} {ios : List Addr} {b : Addr} (n : b ∈ ios) : mns H ios b = none := by
  unfold mns; rw [if_pos n]
def ArgsR (K : PySem.W.Frag) (F H : Hp) (all : List Addr) : List PM → List Vl → List V → List Addr → Prop
  | [], [], [], as => as = []
  | .sca :: pm, d :: ds, v :: vs, as => isSc d = true ∧ Rep K F d v ∧ ArgsR K F H all pm ds vs as
  | .bor :: pm, d :: ds, v :: vs, as => Rep K (mns H all) d v ∧ ArgsR K F H all pm ds vs as
  | .shr :: pm, d :: ds, v :: vs, as => Rep K F d v ∧ ArgsR K F H all pm ds vs as
  | .io :: pm, d :: ds, v :: vs, as => ∃ a r, as = a :: r ∧ v = .ref a ∧ (∃ o, H a = some o ∧ OwnO K F d o) ∧ ArgsR K F H all pm ds vs r
  | _, _, _, _ => False
def OutsR (K : PySem.W.Frag) (F H : Hp) : List Vl → List Addr → Prop
  | [], as => as = []
  | d :: ds, as => ∃ a r, as = a :: r ∧ (∃ o, H a = some o ∧ OwnO K F d o) ∧ OutsR K F H ds r
structure After (K : PySem.W.Frag) (F H : Hp) (ios : List Addr) (F' H' : Hp) (outs : List Vl) : Prop where
  keep : ∀ b o, H b = some o → b ∉ ios → H' b = some o
  ff : Sub F F'
  fh : Sub F' H'
  new : ∀ b o, F' b = some o → F b = some o ∨ H b = none
  outs : OutsR K F' H' outs ios
  iof : ∀ a, a ∈ ios → F' a = none
/-- what is handed back: a scalar, an own object, a frozen one -/
def ResR (K : PySem.W.Frag) (rm : Bool) (H F' H' : Hp) (r : Vl) (v : V) : Prop :=
  if isSc r = true then Rep K F' r v else match rm with
  | true => ∃ a o, v = .ref a ∧ H' a = some o ∧ OwnO K F' r o ∧ F' a = none ∧ H a = none
  | false => Rep K F' r v
def spF (K : PySem.W.Frag) (pm : List PM) (rm : Bool) (fn : Fn) : Sp := fun vs H Q E => ∃ F ios ds, Sub F (mns H ios) ∧ ios.Nodup ∧ ArgsR K F H ios pm ds vs ios ∧ match fn ds with
  | .ret r outs => ∀ v H' F', After K F H ios F' H' outs → ResR K rm H F' H' r v → Q v H'
  | .exc c fs outs => ∀ cls d H' F', After K F H ios F' H' outs → ErrR K F' c fs cls d → E cls d H'
  | .bad => False
/-! #### a body run -/
def initP : List PM → List Vl → En
  | .sca :: pm, d :: ds => some ⟨.shr, d⟩ :: initP pm ds
  | .bor :: pm, d :: ds => some (mk .bor d) :: initP pm ds
  | .shr :: pm, d :: ds => some ⟨.shr, d⟩ :: initP pm ds
  | .io :: pm, d :: ds => some ⟨.io, d⟩ :: initP pm ds
  | _, _ => []
def initE (pm : List PM) (ds : List Vl) (n : Nat) : En := initP pm ds ++ List.replicate (n - pm.length) none
def outsOf : List PM → Nat → En → Option (List Vl)
  | [], _, _ => some []
  | .io :: pm, j, ρ => (match ρ[j]? with
    | some (some ⟨.io, d⟩) => (outsOf pm (j + 1) ρ).map (d :: ·)
    | _ => none)
  | _ :: pm, j, ρ => outsOf pm (j + 1) ρ
def resOk (rm : Bool) (s : Sv) : Bool := isSc s.d || (match s.m, rm with
  | .own, _ => true
  | .shr, false => true
  | _, _ => false)
def fin (pm : List PM) (rm : Bool) (s : Sv) (ρ : En) : FRes := match outsOf pm 0 ρ with
  | some outs => (match resOk rm s with
    | true => .ret s.d outs
    | false => .bad)
  | none => .bad
def runB (pm : List PM) (rm : Bool) (n : Nat) (body : SemS) : Fn := fun ds => match body (initE pm ds n) with
  | .ret s ρ => fin pm rm s ρ
  | .next ρ => fin pm rm ⟨.shr, .non⟩ ρ
  | .exc c fs ρ => (match outsOf pm 0 ρ with
    | some outs => .exc c fs outs
    | none => .bad)
  | _ => .bad
/-! #### the entry -/
def ioIx : List PM → Nat → List Nat
  | [], _ => []
  | .io :: pm, j => j :: ioIx pm (j + 1)
  | _ :: pm, j => ioIx pm (j + 1)
section
variable {K : PySem.W.Frag} {F H : Hp} {all : List Addr}
theorem ArgsR.len : ∀ {pm : List PM} {ds : List Vl} {vs : List V} {as : List Addr} (j : Nat), ArgsR K F H all pm ds vs as → ds.length = pm.length ∧ vs.length = pm.length ∧ as.length = (ioIx pm j).length
  | [], [], [], _, _, h => by rw [show _ = [] from h]; exact ⟨rfl, rfl, rfl⟩
  | [], _ :: _, _, _, _, h => by cases h
  | [], [], _ :: _, _, _, h => by cases h
  | .sca :: pm, [], _, _, _, h => by cases h
  | .bor :: pm, [], _, _, _, h => by cases h
  | .shr :: pm, [], _, _, _, h => by cases h
  | .io :: pm, [], _, _, _, h => by cases h
  | .sca :: pm, _ :: _, [], _, _, h => by cases h
  | .bor :: pm, _ :: _, [], _, _, h => by cases h
  | .shr :: pm, _ :: _, [], _, _, h => by cases h
  | .io :: pm, _ :: _, [], _, _, h => by cases h
  | .sca :: pm, d :: ds, v :: vs, as, j, ⟨_, _, h⟩ => by
    obtain ⟨h1, h2, h3⟩ := h.len (j + 1)
    exact ⟨by rw [List.length_cons, List.length_cons, h1], by rw [List.length_cons, List.length_cons, h2], h3⟩
  | .bor :: pm, d :: ds, v :: vs, as, j, ⟨_, h⟩ => by
    obtain ⟨h1, h2, h3⟩ := h.len (j + 1)
    exact ⟨by rw [List.length_cons, List.length_cons, h1], by rw [List.length_cons, List.length_cons, h2], h3⟩
  | .shr :: pm, d :: ds, v :: vs, as, j, ⟨_, h⟩ => by
    obtain ⟨h1, h2, h3⟩ := h.len (j + 1)
    exact ⟨by rw [List.length_cons, List.length_cons, h1], by rw [List.length_cons, List.length_cons, h2], h3⟩
  | .io :: pm, d :: ds, v :: vs, as, j, ⟨a, r, e, _, _, h⟩ => by
    obtain ⟨h1, h2, h3⟩ := h.len (j + 1)
    subst e
    exact ⟨by rw [List.length_cons, List.length_cons, h1], by rw [List.length_cons, List.length_cons, h2], by show _ = (ioIx pm (j + 1)).length + 1; rw [List.length_cons, h3]⟩
theorem initP_len : ∀ {pm : List PM} {ds : List Vl}, ds.length = pm.length → (initP pm ds).length = pm.length
  | [], [], _ => rfl
  | [], _ :: _, h => by cases h
  | p :: pm, [], h => by cases h
  | p :: pm, d :: ds, h => by
    have ih := initP_len (pm := pm) (ds := ds) (by simpa using h)
    cases p <;> (show (initP pm ds).length + 1 = _; rw [ih]; rfl)
theorem args_slot {J : Jx} {B : Hp} {O : Addr → Option Ow} (hJ : J.K = K) (hB : B = mns H all) (hF : Sub F B) : ∀ {pm : List PM} {ds : List Vl} {vs : List V} {as : List Addr} (j : Nat), ArgsR K F H all pm ds vs as →
    (∀ p ∈ (ioIx pm j).zip as, O p.2 = some (.inl p.1) ∧ J.ios.lookup p.1 = some p.2 ∧ B p.2 = none) →
    ∀ i s, (initP pm ds)[i]? = some (some s) → s.m ≠ .tmp ∧ ∃ v, vs[i]? = some v ∧ SR J F B H O (.inl (j + i)) s v
  | [], [], [], _, _, _, _, i, s, e => by cases e
  | [], _ :: _, _, _, _, h, _, _, _, _ => by cases h
  | [], [], _ :: _, _, _, h, _, _, _, _ => by cases h
  | .sca :: pm, [], _, _, _, h, _, _, _, _ => by cases h
  | .bor :: pm, [], _, _, _, h, _, _, _, _ => by cases h
  | .shr :: pm, [], _, _, _, h, _, _, _, _ => by cases h
  | .io :: pm, [], _, _, _, h, _, _, _, _ => by cases h
  | .sca :: pm, _ :: _, [], _, _, h, _, _, _, _ => by cases h
  | .bor :: pm, _ :: _, [], _, _, h, _, _, _, _ => by cases h
  | .shr :: pm, _ :: _, [], _, _, h, _, _, _, _ => by cases h
  | .io :: pm, _ :: _, [], _, _, h, _, _, _, _ => by cases h
  | .sca :: pm, d :: ds, v :: vs, as, j, ⟨_, r, h⟩, ho, i, s, e => by
    cases i with
    | zero => cases e; exact ⟨(fun z => nomatch z), v, rfl, by subst hJ; exact r⟩
    | succ i =>
      obtain ⟨h1, v, h2, h3⟩ := args_slot hJ hB hF (j + 1) h ho i s e
      exact ⟨h1, v, h2, by rw [show j + (i + 1) = j + 1 + i by omega]; exact h3⟩
  | .shr :: pm, d :: ds, v :: vs, as, j, ⟨r, h⟩, ho, i, s, e => by
    cases i with
    | zero => cases e; exact ⟨(fun z => nomatch z), v, rfl, by subst hJ; exact r⟩
    | succ i =>
      obtain ⟨h1, v, h2, h3⟩ := args_slot hJ hB hF (j + 1) h ho i s e
      exact ⟨h1, v, h2, by rw [show j + (i + 1) = j + 1 + i by omega]; exact h3⟩
  | .bor :: pm, d :: ds, v :: vs, as, j, ⟨r, h⟩, ho, i, s, e => by
    cases i with
    | zero =>
      cases e
      subst hJ hB
      refine ⟨?_, v, rfl, ?_⟩
      · unfold mk; split <;> exact fun z => nomatch z
      · unfold mk
        split
        · rename_i q; exact Rep.sc r q
        · exact r
    | succ i =>
      obtain ⟨h1, v, h2, h3⟩ := args_slot hJ hB hF (j + 1) h ho i s e
      exact ⟨h1, v, h2, by rw [show j + (i + 1) = j + 1 + i by omega]; exact h3⟩
  | .io :: pm, d :: ds, v :: vs, as, j, ⟨a, r, ea, ev, ⟨o, g, ow⟩, h⟩, ho, i, s, e => by
    subst ea
    have ho' : ∀ p ∈ (j :: ioIx pm (j + 1)).zip (a :: r), O p.2 = some (.inl p.1) ∧ J.ios.lookup p.1 = some p.2 ∧ B p.2 = none := ho
    cases i with
    | zero =>
      cases e
      obtain ⟨q1, q2, q3⟩ := ho' (j, a) List.mem_cons_self
      exact ⟨(fun z => nomatch z), v, rfl, a, o, ev, g, by rw [hJ]; exact ow, q1, q3, j, rfl, q2⟩
    | succ i =>
      obtain ⟨h1, v, h2, h3⟩ := args_slot hJ hB hF (j + 1) h (fun p hp => ho' p (List.mem_cons_of_mem _ hp)) i s e
      exact ⟨h1, v, h2, by rw [show j + (i + 1) = j + 1 + i by omega]; exact h3⟩
/-- at the end: what the io parameters hold -/
theorem outs_end {J : Jx} {B : Hp} {O : Addr → Option Ow} {ρ : En} {σ : St} {τ : List (Sv × V)} (hJ : J.K = K) (I : IvW J F B O ρ τ σ H) : ∀ {pm : List PM} {as : List Addr} {outs : List Vl} (j : Nat), as.length = (ioIx pm j).length →
    (∀ p ∈ (ioIx pm j).zip as, J.ios.lookup p.1 = some p.2) → outsOf pm j ρ = some outs → OutsR K F H outs as ∧ ∀ a ∈ as, B a = none
  | [], as, outs, j, hl, _, e => by
    cases e
    have : as = [] := List.length_eq_zero_iff.mp hl
    subst this
    exact ⟨rfl, fun a h => by cases h⟩
  | .sca :: pm, as, outs, j, hl, hp, e => outs_end hJ I (pm := pm) (j + 1) hl hp e
  | .bor :: pm, as, outs, j, hl, hp, e => outs_end hJ I (pm := pm) (j + 1) hl hp e
  | .shr :: pm, as, outs, j, hl, hp, e => outs_end hJ I (pm := pm) (j + 1) hl hp e
  | .io :: pm, [], outs, j, hl, hp, e => by cases hl
  | .io :: pm, a :: as, outs, j, hl, hp, e => by
    have e : (match ρ[j]? with
      | some (some ⟨.io, d⟩) => (outsOf pm (j + 1) ρ).map (d :: ·)
      | _ => none) = some outs := e
    have hp' : ∀ p ∈ (j :: ioIx pm (j + 1)).zip (a :: as), J.ios.lookup p.1 = some p.2 := hp
    cases q : ρ[j]? with
    | none => rw [q] at e; cases e
    | some x =>
      cases x with
      | none => rw [q] at e; cases e
      | some s =>
        obtain ⟨m, d⟩ := s
        rw [q] at e
        cases m with
        | io =>
          obtain ⟨ds, e1, e2⟩ := Option.map_eq_some_iff.mp (show (outsOf pm (j + 1) ρ).map (d :: ·) = some outs from e)
          subst e2
          obtain ⟨h1, h2⟩ := outs_end hJ I (pm := pm) (as := as) (j + 1) (Nat.succ.inj hl) (fun p h => hp' p (List.mem_cons_of_mem _ h)) e1
          obtain ⟨_, v, e3, a2, o, ev, g, r, qo, nb, i2, ei, lk⟩ := I.slot j _ q
          have ei' : j = i2 := Sum.inl.inj ei
          subst ei'
          have lk2 := hp' (j, a) List.mem_cons_self
          rw [lk] at lk2
          have : a2 = a := Option.some.inj lk2
          subst this
          rw [hJ] at r
          exact ⟨⟨a2, as, rfl, ⟨o, g, r⟩, h1⟩, fun b hb => by
            rcases List.mem_cons.mp hb with z | z
            · rw [z]; exact nb
            · exact h2 b z⟩
        | _ => cases e
end
theorem lookup_zip {is : List Nat} {as : List Addr} (nd : is.Nodup) : ∀ p ∈ is.zip as, (is.zip as).lookup p.1 = some p.2 := by
  induction is generalizing as with
  | nil => intro p h; simp at h
  | cons i is ih =>
    cases as with
    | nil => intro p h; simp at h
    | cons a as =>
      intro p h
      rw [List.zip_cons_cons] at h ⊢
      rw [List.lookup_cons]
      rcases List.mem_cons.mp h with z | z
      · subst z; simp
      · have hne : p.1 ≠ i := fun y => (List.nodup_cons.mp nd).1 (by rw [← y]; exact (List.of_mem_zip z).1)
        have : (p.1 == i) = false := by simpa using hne
        rw [this]
        exact ih (List.nodup_cons.mp nd).2 p z
theorem ioIx_ge : ∀ {pm : List PM} {j i : Nat}, i ∈ ioIx pm j → j ≤ i
  | [], _, _, h => by cases h
  | .sca :: pm, j, i, h => Nat.le_of_succ_le (ioIx_ge (pm := pm) h)
  | .bor :: pm, j, i, h => Nat.le_of_succ_le (ioIx_ge (pm := pm) h)
  | .shr :: pm, j, i, h => Nat.le_of_succ_le (ioIx_ge (pm := pm) h)
  | .io :: pm, j, i, h => by
    rcases List.mem_cons.mp (show i ∈ j :: ioIx pm (j + 1) from h) with z | z
    · exact Nat.le_of_eq z.symm
    · exact Nat.le_of_succ_le (ioIx_ge z)
theorem ioIx_nd : ∀ {pm : List PM} {j : Nat}, (ioIx pm j).Nodup
  | [], _ => List.nodup_nil
  | .sca :: pm, j => ioIx_nd (pm := pm)
  | .bor :: pm, j => ioIx_nd (pm := pm)
  | .shr :: pm, j => ioIx_nd (pm := pm)
  | .io :: pm, j => by
    show (j :: ioIx pm (j + 1)).Nodup
    exact List.nodup_cons.mpr ⟨fun h => Nat.not_succ_le_self _ (ioIx_ge h), ioIx_nd⟩
/-- who owns an io address -/
def ownOf (l : List (Nat × Addr)) (b : Addr) : Option Ow := match l with
  | [] => none
  | (i, a) :: r => if b = a then some (.inl i) else ownOf r b
theorem ownOf_zip {is : List Nat} {as : List Addr} (nd : as.Nodup) : ∀ p ∈ is.zip as, ownOf (is.zip as) p.2 = some (.inl p.1) := by
  induction is generalizing as with
  | nil => intro p h; simp at h
  | cons i is ih =>
    cases as with
    | nil => intro p h; simp at h
    | cons a as =>
      intro p h
      rw [List.zip_cons_cons] at h ⊢
      unfold ownOf
      rcases List.mem_cons.mp h with z | z
      · subst z; exact if_pos rfl
      · have hne : p.2 ≠ a := fun y => (List.nodup_cons.mp nd).1 (by rw [← y]; exact (List.of_mem_zip z).2)
        rw [if_neg hne]
        exact ih (List.nodup_cons.mp nd).2 p z
theorem zip_snd {is : List Nat} {as : List Addr} (h : as.length = is.length) : (is.zip as).map (·.2) = as := by
  induction is generalizing as with
  | nil => cases as with
    | nil => rfl
    | cons a as => cases h
  | cons i is ih => cases as with
    | nil => rfl
    | cons a as => rw [List.zip_cons_cons, List.map_cons, ih (by simpa using h)]
/-- the state at the entry -/
theorem entry {K : PySem.W.Frag} {F H : Hp} {ios : List Addr} {pm : List PM} {ds : List Vl} {vs : List V} {N : List Str} (hn : pm.length ≤ N.length) (hF : Sub F (mns H ios)) (nd : ios.Nodup) (a : ArgsR K F H ios pm ds vs ios) (iot : ∀ x, x ∈ ios → ∃ o, H x = some o) :
    Iv ⟨K, H, F, (ioIx pm 0).zip ios, none⟩ (initE pm ds N.length) [] (L2.start N vs) H := by
  obtain ⟨l1, l2, l3⟩ := a.len 0
  have em : ((ioIx pm 0).zip ios).map (·.2) = ios := zip_snd l3
  have eio : (Jx.mk K H F ((ioIx pm 0).zip ios) none).io = ios := em
  refine ⟨F, mns H ios, ownOf ((ioIx pm 0).zip ios), ⟨hF, mns_sub, fun _ _ e => e, fun b o e => .inl e, fun b o e n => e, fun b hb => ?_⟩, ?_, fun i s e => ?_, trivial⟩
  · rw [eio] at hb; exact iot b hb
  · refine ⟨?_, fun i v e => by cases e⟩
    unfold initE L2.start
    rw [List.length_append, List.length_append, List.length_replicate, List.length_replicate, List.length_map, initP_len l1, l2]
  · have hi : i < (initP pm ds).length := by
      by_cases c : i < (initP pm ds).length
      · exact c
      · unfold initE at e
        rw [List.getElem?_append_right (Nat.le_of_not_lt c), List.getElem?_replicate] at e
        split at e <;> cases e
    have e2 : (initP pm ds)[i]? = some (some s) := by
      unfold initE at e
      rwa [List.getElem?_append_left hi] at e
    obtain ⟨h1, v, h2, h3⟩ := args_slot (J := ⟨K, H, F, (ioIx pm 0).zip ios, none⟩) (B := mns H ios) (O := ownOf ((ioIx pm 0).zip ios)) rfl rfl hF 0 a (fun p hp => ⟨ownOf_zip nd p hp, lookup_zip ioIx_nd p hp, mns_no (List.of_mem_zip hp).2⟩) i s e2
    rw [Nat.zero_add] at h3
    refine ⟨h1, v, ?_, h3⟩
    unfold L2.start
    have hv : i < vs.length := (List.getElem?_eq_some_iff.mp h2).1
    rw [List.getElem?_append_left (by rw [List.length_map]; exact hv), List.getElem?_map, h2]
    rfl
/-- behind the end -/
theorem after_of {K : PySem.W.Frag} {F H F' B' H' : Hp} {O' : Addr → Option Ow} {ios : List Addr} {pm : List PM} {outs : List Vl} {ρ : En} {σ : St} {τ : List (Sv × V)} (l3 : ios.length = (ioIx pm 0).length) (I : IvW ⟨K, H, F, (ioIx pm 0).zip ios, none⟩ F' B' O' ρ τ σ H') (ho : outsOf pm 0 ρ = some outs) : After K F H ios F' H' outs := by
  have eio : (Jx.mk K H F ((ioIx pm 0).zip ios) none).io = ios := zip_snd l3
  obtain ⟨h1, h2⟩ := outs_end (J := ⟨K, H, F, (ioIx pm 0).zip ios, none⟩) rfl I 0 l3 (fun p hp => lookup_zip ioIx_nd p hp) ho
  exact ⟨fun b o e n => I.base.keep b o e (by rw [eio]; exact n), I.base.f0, fun b o e => I.base.bh _ _ (I.base.fb b o e), I.base.new, h1, fun a ha => I.base.freeF (h2 a ha)⟩
theorem res_of {K : PySem.W.Frag} {F H F' B' H' : Hp} {O' : Addr → Option Ow} {ios : List (Nat × Addr)} {rm : Bool} {ρ : En} {σ : St} {s : Sv} {v : V} {τ : List (Sv × V)} (I : IvW ⟨K, H, F, ios, none⟩ F' B' O' ρ ((s, v) :: τ) σ H') (h : resOk rm s = true) (nf : s.m = .own → rm = true) : ResR K rm H F' H' s.d v := by
  unfold ResR
  split
  · rename_i q; exact Rep.sc (I.top.rep I.base) q
  · rename_i q
    have q' : isSc s.d = false := by simpa using q
    obtain ⟨m, d⟩ := s
    unfold resOk at h
    rw [q', Bool.false_or] at h
    cases m with
    | own =>
      rw [nf rfl]
      obtain ⟨a, o, e, g, r, _, nb, h0⟩ := I.top
      exact ⟨a, o, e, g, r, I.base.freeF nb, h0⟩
    | shr =>
      cases rm with
      | true => cases h
      | false => exact I.top
    | _ => cases rm <;> cases h
theorem argsR_io {K : PySem.W.Frag} {F H : Hp} {all : List Addr} : ∀ {pm : List PM} {ds : List Vl} {vs : List V} {as : List Addr}, ArgsR K F H all pm ds vs as → ∀ x, x ∈ as → ∃ o, H x = some o
  | [], [], [], _, h, x, hx => by rw [show _ = [] from h] at hx; cases hx
  | [], _ :: _, _, _, h, _, _ => by cases h
  | [], [], _ :: _, _, h, _, _ => by cases h
  | .sca :: pm, [], _, _, h, _, _ => by cases h
  | .bor :: pm, [], _, _, h, _, _ => by cases h
  | .shr :: pm, [], _, _, h, _, _ => by cases h
  | .io :: pm, [], _, _, h, _, _ => by cases h
  | .sca :: pm, _ :: _, [], _, h, _, _ => by cases h
  | .bor :: pm, _ :: _, [], _, h, _, _ => by cases h
  | .shr :: pm, _ :: _, [], _, h, _, _ => by cases h
  | .io :: pm, _ :: _, [], _, h, _, _ => by cases h
  | .sca :: pm, d :: ds, v :: vs, as, ⟨_, _, h⟩, x, hx => argsR_io h x hx
  | .bor :: pm, d :: ds, v :: vs, as, ⟨_, h⟩, x, hx => argsR_io h x hx
  | .shr :: pm, d :: ds, v :: vs, as, ⟨_, h⟩, x, hx => argsR_io h x hx
  | .io :: pm, d :: ds, v :: vs, as, ⟨a, r, e, _, ⟨o, g, _⟩, h⟩, x, hx => by
    subst e
    rcases List.mem_cons.mp hx with z | z
    · rw [z]; exact ⟨o, g⟩
    · exact argsR_io h x z
/-- what a body's run says, as the promise wants it -/
theorem body_ends {K : PySem.W.Frag} {F H : Hp} {ios : List Addr} {pm : List PM} {rm : Bool} {ds : List Vl} {n : Nat} {body : SemS} {Q : VK} {E : XK} (l3 : ios.length = (ioIx pm 0).length) (h : match runB pm rm n body ds with
    | .ret r outs => ∀ v H' F', After K F H ios F' H' outs → ResR K rm H F' H' r v → Q v H'
    | .exc c fs outs => ∀ cls d H' F', After K F H ios F' H' outs → ErrR K F' c fs cls d → E cls d H'
    | .bad => False) : OutS ⟨K, H, F, (ioIx pm 0).zip ios, none⟩ (fun cls d _ H => E cls d H) [] (body (initE pm ds n)) { nx := fun _ H' => Q .non H', rt := Q } := by
  have fin_ok : ∀ (s : Sv) (ρ : En), (match fin pm rm s ρ with
    | .ret r outs => ∀ v H' F', After K F H ios F' H' outs → ResR K rm H F' H' r v → Q v H'
    | .exc c fs outs => ∀ cls d H' F', After K F H ios F' H' outs → ErrR K F' c fs cls d → E cls d H'
    | .bad => False) → ∀ v σ H', Iv ⟨K, H, F, (ioIx pm 0).zip ios, none⟩ ρ [(s, v)] σ H' → Q v H' := fun s ρ h v σ H' I => by
    unfold fin at h
    cases e : outsOf pm 0 ρ with
    | none => rw [e] at h; exact h.elim
    | some outs =>
      rw [e] at h
      replace h : (match (match resOk rm s with | true => FRes.ret s.d outs | false => FRes.bad) with
        | .ret r outs => ∀ v H' F', After K F H ios F' H' outs → ResR K rm H F' H' r v → Q v H'
        | .exc c fs outs => ∀ cls d H' F', After K F H ios F' H' outs → ErrR K F' c fs cls d → E cls d H'
        | .bad => False) := h
      cases z : resOk rm s with
      | false => rw [z] at h; exact h.elim
      | true =>
        rw [z] at h
        obtain ⟨m, d⟩ := s
        by_cases y : m = .own ∧ rm = false
        · obtain ⟨y1, y2⟩ := y
          subst y1 y2
          obtain ⟨F', B', O', I⟩ := I
          obtain ⟨F', B', O', I2⟩ := I.frz
          have I3 : IvW ⟨K, H, F, (ioIx pm 0).zip ios, none⟩ F' B' O' ρ [(⟨.shr, d⟩, v)] σ H' := I2
          refine h v H' F' (after_of l3 I3 e) ?_
          unfold ResR
          split
          · exact I3.top
          · exact I3.top
        · obtain ⟨F', B', O', I⟩ := I
          refine h v H' F' (after_of l3 I e) (res_of I z fun q => ?_)
          cases rm with
          | true => rfl
          | false => exact absurd ⟨q, rfl⟩ y
  unfold runB at h
  cases e : body (initE pm ds n) with
  | ret s ρ => rw [e] at h; exact fun v σ H' I => fin_ok s ρ h v σ H' I
  | next ρ =>
    rw [e] at h
    refine fun σ H' I => fin_ok ⟨.shr, .non⟩ ρ h .non σ H' ?_
    obtain ⟨F', B', O', I⟩ := I
    exact I.push (s := ⟨.shr, .non⟩) rfl
  | exc c fs ρ =>
    rw [e] at h
    rintro cls d σ H' ⟨F', B', O', I, er⟩
    replace h : (match (match outsOf pm 0 ρ with | some outs => FRes.exc c fs outs | none => FRes.bad) with
        | .ret r outs => ∀ v H' F', After K F H ios F' H' outs → ResR K rm H F' H' r v → Q v H'
        | .exc c fs outs => ∀ cls d H' F', After K F H ios F' H' outs → ErrR K F' c fs cls d → E cls d H'
        | .bad => False) := h
    cases z : outsOf pm 0 ρ with
    | none => rw [z] at h; exact h.elim
    | some outs => rw [z] at h; exact h cls d H' F' (after_of l3 I z) er
  | brk ρ => rw [e] at h; exact h.elim
  | cont ρ => rw [e] at h; exact h.elim
  | bad => rw [e] at h; exact h.elim
/-- THE RULE: a def by its body's meaning -/
theorem fn_mv {P : Program} {w : World} {K : PySem.W.Frag} {mg : Str → Option Value} {base : Heap} {x qual : Str} {params : Arguments} {body : List Stmt} {scope : Scope} {dvs : List V} {kws : List (Str × V)} {f : Addr} {fd : FuncData} {N ps : List Str} {k : Nat} {pm : List PM} {rm : Bool} {bd : SemS}
    (F : FunD K x qual params body scope dvs kws f fd) (S : FnScope N ps scope) (hp : pm.length = ps.length)
    (hb : ∀ (cdv : Value) (A : Around) (outer : List Env) (s : Shared) (H : Hp) (E : XK) (J : Jx), J.K = K → J.fx = none → Room k (A.deeper (envOfC qual scope s.heap.objs.size f cdv)) →
      XB (cxOf (L2N.CX P w) P w K mg base N qual scope f cdv A outer s H E) J (fun cls d _ H => E cls d H) body bd) :
    FnOk P w K mg base (L2N.CX P w) (k + 1) f fd ps (spF K pm rm (runB pm rm N.length bd)) := by
  have hpl : ps.length ≤ N.length := by have := congrArg List.length S.pre; rw [List.length_take] at this; omega
  refine F.ok S (fun vs H Q E h => ?_) fun cdv A outer s H vs Q E hr h => ?_
  · obtain ⟨F0, ios, ds, _, _, a, _⟩ := h
    rw [(a.len 0).2.1, hp]
  · obtain ⟨F0, ios, ds, hF, nd, a, m⟩ := h
    refine ⟨_, (hb cdv A outer s H E ⟨K, H, F0, (ioIx pm 0).zip ios, none⟩ rfl rfl hr).pss, initE pm ds N.length, [], entry (by rw [hp]; exact hpl) hF nd a (argsR_io a), fun _ h => by simp at h, body_ends (a.len 0).2.2 m⟩
end MV
namespace MV
open PySem PySem.Spec PyProof.Rows L2
/-! ### calls of own defs -/
/-- f, called here, keeps the promise sp -/
def CallAt (X : Cx) (W : WX) (f : Addr) (sp : Sp) : Prop := ∀ (pins : List (Addr × Obj)) (σ : St) (H : Hp) (s : Shared) (Q : VK) (us : List Value) (vs : List V), Inv X pins σ H s → Vals vs us → sp vs H Q (WE W σ) →
  wpAny (model X.prog X.w) X.A (call (.ref f) us) (EP X pins σ Q) X.xe s
theorem callAt {X : Cx} {W : WX} {k : Nat} {f : Addr} {fd : FuncData} {ps : List Str} {sp : Sp} {dvs : List V} {ds : List Value} (F : FnOk X.prog X.w X.K X.mg X.base (L2N.CX X.prog X.w) k f fd ps sp) (hr : Room k X.A) (hb : Binds X.K fd ps ds) (hd : Vals dvs ds) (tk : Takes X W) :
    CallAt X W f (fun vs => sp (vs ++ dvs)) := fun pins σ H s Q us vs I r h => run_fnSD F hr hb hd (passAt tk σ) I r h
theorem callAt0 {X : Cx} {W : WX} {k : Nat} {f : Addr} {fd : FuncData} {ps : List Str} {sp : Sp} (F : FnOk X.prog X.w X.K X.mg X.base (L2N.CX X.prog X.w) k f fd ps sp) (hr : Room k X.A) (hb : Binds X.K fd ps []) (tk : Takes X W) :
    CallAt X W f sp := fun pins σ H s Q us vs I r h => run_fnS F hr hb (passAt tk σ) I r h
/-- the slots that are handed over to be changed -/
def ioSl : List PM → List Ar → List Nat
  | .io :: pm, .sl i :: as => i :: ioSl pm as
  | _ :: pm, _ :: as => ioSl pm as
  | _, _ => []
def chkA (is : List Nat) : List PM → List Ar → Bool
  | [], [] => true
  | .io :: pm, .sl _ :: as => chkA is pm as
  | .io :: _, .ex _ :: _ => false
  | _ :: pm, .sl i :: as => !(is.contains i) && chkA is pm as
  | _ :: pm, .ex _ :: as => chkA is pm as
  | _, _ => false
def arV (ρ : En) : Ar → Option Sv
  | .ex s => some s
  | .sl i => match ρ[i]? with
    | some (some s) => some s
    | _ => none
def arD (p : PM) (s : Sv) : Option Vl := match p with
  | .sca => if isSc s.d then some s.d else none
  | .bor => if s.m.isT then none else some s.d
  | .shr => match s.m with
    | .shr => some s.d
    | _ => none
  | .io => match s.m with
    | .own => some s.d
    | .io => some s.d
    | _ => none
def argVs (ρ : En) : List PM → List Ar → Option (List Vl)
  | [], [] => some []
  | p :: pm, a :: as => match arV ρ a with
    | some s => match arD p s with
      | some d => (argVs ρ pm as).map (d :: ·)
      | none => none
    | none => none
  | _, _ => none
theorem arV_sl {ρ : En} {i : Nat} : arV ρ (.sl i) = (match ρ[i]? with
    | some (some s) => some s
    | _ => none) := rfl
theorem argVs_cons {ρ : En} {p : PM} {pm : List PM} {a : Ar} {as : List Ar} : argVs ρ (p :: pm) (a :: as) = (match arV ρ a with
    | some s => match arD p s with
      | some d => (argVs ρ pm as).map (d :: ·)
      | none => none
    | none => none) := rfl
def putD (ρ : En) (i : Nat) (d : Vl) : En := match ρ[i]? with
  | some (some ⟨m, _⟩) => ρ.set i (some ⟨m, d⟩)
  | _ => ρ
def setOuts : List Nat → List Vl → En → En
  | i :: is, d :: ds, ρ => setOuts is ds (putD ρ i d)
  | _, _, ρ => ρ
def resM (rm : Bool) (r : Vl) : Sv := if isSc r then ⟨.shr, r⟩ else match rm with
  | true => ⟨.own, r⟩
  | false => ⟨.shr, r⟩
def ndB : List Nat → Bool
  | [] => true
  | i :: is => !(is.contains i) && ndB is
theorem ndB_nd : ∀ {is : List Nat}, ndB is = true → is.Nodup
  | [], _ => List.nodup_nil
  | i :: is, h => by
    obtain ⟨h1, h2⟩ := Bool.and_eq_true_iff.mp (show (!(is.contains i) && ndB is) = true from h)
    refine List.nodup_cons.mpr ⟨fun z => ?_, ndB_nd h2⟩
    rw [List.contains_iff_mem.mpr z] at h1
    cases h1
/-- the call, behind its arguments -/
def kCall (pm : List PM) (rm : Bool) (fn : Fn) (as : List Ar) (ρ : En) : Rs Sv :=
  grd (ndB (ioSl pm as) && chkA (ioSl pm as) pm as) (match argVs ρ pm as with
    | none => .bad
    | some ds => match fn ds with
      | .ret r outs => .ok (resM rm r) (setOuts (ioSl pm as) outs ρ)
      | .exc c fs outs => .exc c fs (setOuts (ioSl pm as) outs ρ)
      | .bad => .bad)
def fCall (pm : List PM) (rm : Bool) (fn : Fn) (fa : SemA) : Sem1 := fun ρ => bnd (fa ρ) fun as ρ1 => kCall pm rm fn as ρ1
def adr (σ : St) (i : Nat) : Addr := match σ[i]? with
  | some (some (.ref a)) => a
  | _ => 0
def isO : Md → Bool
  | .own => true
  | .io => true
  | _ => false
section
variable {J : Jx} {F B H : Hp} {O : Addr → Option Ow} {ρ : En} {τ : List (Sv × V)} {σ : St} {ow : Ow} {s : Sv} {v : V}
theorem IvW.oslot {i : Nat} {m : Md} {d : Vl} (I : IvW J F B O ρ τ σ H) (e : ρ[i]? = some (some ⟨m, d⟩)) (hm : isO m = true) : σ[i]? = some (some (.ref (adr σ i))) ∧ (∃ o, H (adr σ i) = some o ∧ OwnO J.K F d o) ∧ O (adr σ i) = some (.inl i) ∧ B (adr σ i) = none ∧ (J.H0 (adr σ i) = none ∨ adr σ i ∈ J.io) := by
  obtain ⟨_, v, e1, r⟩ := I.slot i _ e
  cases m with
  | own =>
    obtain ⟨a, o, ev, g, w, q, n, z⟩ := r
    subst ev
    have : adr σ i = a := by unfold adr; rw [e1]
    rw [this]
    exact ⟨e1, ⟨o, g, w⟩, q, n, .inl z⟩
  | io =>
    obtain ⟨a, o, ev, g, w, q, n, j, ej, z⟩ := r
    subst ev
    have : adr σ i = a := by unfold adr; rw [e1]
    rw [this]
    exact ⟨e1, ⟨o, g, w⟩, q, n, .inr (lookup_io z)⟩
  | _ => cases hm
def OSl (ρ : En) (i : Nat) : Prop := ∃ m d, ρ[i]? = some (some ⟨m, d⟩) ∧ isO m = true
theorem arD_sca {s : Sv} {d : Vl} (e : arD .sca s = some d) : isSc s.d = true ∧ d = s.d := by
  unfold arD at e
  split at e
  · rename_i z; split at e
    · rename_i q; cases e; exact ⟨q, rfl⟩
    · cases e
  all_goals (rename_i h; cases h)
theorem arD_bor {s : Sv} {d : Vl} (e : arD .bor s = some d) : d = s.d ∧ s.m ≠ .tmp := by
  obtain ⟨m, d0⟩ := s
  cases m <;> first | (cases e; done) | (cases e; exact ⟨rfl, fun z => nomatch z⟩)
theorem Rep.up {K : PySem.W.Frag} {G G' : Hp} {d : Vl} {v : V} (q : Sub G G') (h : Rep K G d v) : Rep K G' d v := Rep.mono q h
theorem fmns {is : List Nat} (I : IvW J F B O ρ τ σ H) (ok : ∀ i ∈ is, OSl ρ i) : Sub F (mns H (is.map (adr σ))) := fun b o e => by
  refine mns_of (I.base.bh _ _ (I.base.fb _ _ e)) fun hm => ?_
  obtain ⟨i, hi, rfl⟩ := List.mem_map.mp hm
  obtain ⟨m, d, e1, e2⟩ := ok i hi
  have := (I.oslot e1 e2).2.2.2.1
  rw [I.base.fb _ _ e] at this
  cases this
theorem bmns {is : List Nat} (I : IvW J F B O ρ τ σ H) (ok : ∀ i ∈ is, OSl ρ i) : Sub B (mns H (is.map (adr σ))) := fun b o e => by
  refine mns_of (I.base.bh _ _ e) fun hm => ?_
  obtain ⟨i, hi, rfl⟩ := List.mem_map.mp hm
  obtain ⟨m, d, e1, e2⟩ := ok i hi
  have := (I.oslot e1 e2).2.2.2.1
  rw [e] at this
  cases this
/-- what is held, and is not handed over, can be read while the others change -/
theorem SR.bor {is : List Nat} (I : IvW J F B O ρ τ σ H) (ok : ∀ i ∈ is, OSl ρ i) (h : SR J F B H O ow s v) (nt : s.m ≠ .tmp) (hw : ∀ i ∈ is, ow ≠ .inl i) : Rep J.K (mns H (is.map (adr σ))) s.d v := by
  have key : ∀ {a : Addr} {o : HO}, H a = some o → O a = some ow → mns H (is.map (adr σ)) a = some o := fun {a o} g q => mns_of g fun hm => by
    obtain ⟨i, hi, e⟩ := List.mem_map.mp hm
    obtain ⟨m, d, e1, e2⟩ := ok i hi
    have := (I.oslot e1 e2).2.2.1
    rw [e, q] at this
    exact hw i hi (Option.some.inj this)
  obtain ⟨m, d⟩ := s
  cases m with
  | shr => exact Rep.mono (fmns I ok) h
  | bor => exact Rep.mono (bmns I ok) h
  | tmp => exact absurd rfl nt
  | own => obtain ⟨a, o, e, g, r, q, _⟩ := h; subst e; exact r.rep (fmns I ok) (key g q)
  | io => obtain ⟨a, o, e, g, r, q, _⟩ := h; subst e; exact r.rep (fmns I ok) (key g q)
theorem nmem_of {is : List Nat} {i : Nat} (h : (!(is.contains i)) = true) : ∀ j ∈ is, (Sum.inl i : Ow) ≠ .inl j := fun j hj e => by
  cases e
  rw [List.contains_iff_mem.mpr hj] at h
  cases h
theorem args_R {is : List Nat} (nt : NoTmp τ) (ok : ∀ i ∈ is, OSl ρ i) : ∀ (pm : List PM) (as : List Ar) (ds : List Vl) (vs : List V) (τ τ' : List (Sv × V)), argVs ρ pm as = some ds → chkA is pm as = true → (∀ i ∈ ioSl pm as, i ∈ is) → Stk σ as vs τ τ' → IvW J F B O ρ τ' σ H →
    IvW J F B O ρ τ σ H ∧ ArgsR J.K F H (is.map (adr σ)) pm ds vs ((ioSl pm as).map (adr σ))
  | [], [], ds, vs, τ, τ', e, _, _, k, I => by
    cases e
    cases vs with
    | nil => rw [show τ' = τ from k] at I; exact ⟨I, rfl⟩
    | cons v vs => exact k.elim
  | [], a :: as, _, _, _, _, e, _, _, _, _ => by cases e
  | p :: pm, [], _, _, _, _, e, _, _, _, _ => by cases e
  | p :: pm, .ex s :: as, ds, [], τ, τ', e, c, hi, k, I => k.elim
  | p :: pm, .sl i :: as, ds, [], τ, τ', e, c, hi, k, I => k.elim
  | p :: pm, .ex s :: as, ds, v :: vs, τ, τ', e, c, hi, k, I => by
    have e' : (match arD p s with | some d => (argVs ρ pm as).map (d :: ·) | none => none) = some ds := e
    cases ed : arD p s with
    | none => rw [ed] at e'; cases e'
    | some d =>
      rw [ed] at e'
      obtain ⟨ds', e1, e2⟩ := Option.map_eq_some_iff.mp (show (argVs ρ pm as).map (d :: ·) = some ds from e')
      subst e2
      cases p with
      | io => cases c
      | sca =>
        obtain ⟨I1, r⟩ := args_R nt ok pm as ds' vs ((s, v) :: τ) τ' e1 c hi k I
        obtain ⟨q, hd⟩ := arD_sca ed
        subst hd
        exact ⟨I1.drop1, q, Rep.sc (I1.top.rep I1.base) q, r⟩
      | bor =>
        obtain ⟨I1, r⟩ := args_R nt ok pm as ds' vs ((s, v) :: τ) τ' e1 c hi k I
        obtain ⟨hd, nts⟩ := arD_bor ed
        subst hd
        exact ⟨I1.drop1, I1.top.bor I1 ok nts (fun _ _ z => nomatch z), r⟩
      | shr =>
        obtain ⟨I1, r⟩ := args_R nt ok pm as ds' vs ((s, v) :: τ) τ' e1 c hi k I
        obtain ⟨m, d0⟩ := s
        cases m <;> first | (cases ed; done) | (cases ed; exact ⟨I1.drop1, I1.top, r⟩)
  | p :: pm, .sl i :: as, ds, v :: vs, τ, τ', e, c, hi, k, I => by
    cases es : ρ[i]? with
    | none => rw [argVs_cons, arV_sl, es] at e; cases e
    | some so =>
      cases so with
      | none => rw [argVs_cons, arV_sl, es] at e; cases e
      | some s =>
        have e' : (match arD p s with | some d => (argVs ρ pm as).map (d :: ·) | none => none) = some ds := by
          rw [argVs_cons, arV_sl, es] at e; exact e
        cases ed : arD p s with
        | none => rw [ed] at e'; cases e'
        | some d =>
          rw [ed] at e'
          obtain ⟨ds', e1, e2⟩ := Option.map_eq_some_iff.mp (show (argVs ρ pm as).map (d :: ·) = some ds from e')
          subst e2
          obtain ⟨k1, k2⟩ := (show σ[i]? = some (some v) ∧ Stk σ as vs τ τ' from k)
          obtain ⟨nts, v', ev, r0⟩ := I.slot i s es
          rw [k1] at ev
          cases ev
          cases p with
          | io =>
            obtain ⟨I1, r⟩ := args_R nt ok pm as ds' vs τ τ' e1 c (fun j hj => hi j (List.mem_cons_of_mem _ hj)) k2 I
            have ho : ∃ m, s = ⟨m, d⟩ ∧ isO m = true := by
              obtain ⟨m, d0⟩ := s
              cases m <;> first | (cases ed; done) | (cases ed; exact ⟨_, rfl, rfl⟩)
            obtain ⟨m, hs, hm⟩ := ho
            subst hs
            obtain ⟨z1, z2, _⟩ := I1.oslot es hm
            rw [k1] at z1
            have z1 : v = .ref (adr σ i) := Option.some.inj (Option.some.inj z1)
            exact ⟨I1, adr σ i, _, rfl, z1, z2, r⟩
          | sca =>
            have c' := Bool.and_eq_true_iff.mp (show (!(is.contains i) && chkA is pm as) = true from c)
            obtain ⟨I1, r⟩ := args_R nt ok pm as ds' vs τ τ' e1 c'.2 hi k2 I
            obtain ⟨q, hd⟩ := arD_sca ed
            subst hd
            exact ⟨I1, q, Rep.sc (r0.rep I.base) q, r⟩
          | bor =>
            have c' := Bool.and_eq_true_iff.mp (show (!(is.contains i) && chkA is pm as) = true from c)
            obtain ⟨I1, r⟩ := args_R nt ok pm as ds' vs τ τ' e1 c'.2 hi k2 I
            obtain ⟨hd, nts⟩ := arD_bor ed
            subst hd
            exact ⟨I1, r0.bor I ok nts (nmem_of c'.1), r⟩
          | shr =>
            have c' := Bool.and_eq_true_iff.mp (show (!(is.contains i) && chkA is pm as) = true from c)
            obtain ⟨I1, r⟩ := args_R nt ok pm as ds' vs τ τ' e1 c'.2 hi k2 I
            obtain ⟨m, d0⟩ := s
            cases m <;> first | (cases ed; done) | (cases ed; exact ⟨I1, r0, r⟩)
theorem ioSl_ok : ∀ {pm : List PM} {as : List Ar} {ds : List Vl}, argVs ρ pm as = some ds → ∀ i ∈ ioSl pm as, OSl ρ i
  | [], as, ds, e, i, hi => by cases as <;> cases hi
  | p :: pm, [], ds, e, i, hi => by cases e
  | p :: pm, a :: as, ds, e, i, hi => by
    unfold argVs at e
    cases ea : arV ρ a with
    | none => rw [ea] at e; cases e
    | some s =>
      rw [ea] at e
      replace e : (match arD p s with | some d => (argVs ρ pm as).map (d :: ·) | none => none) = some ds := e
      cases ed : arD p s with
      | none => rw [ed] at e; cases e
      | some d =>
        rw [ed] at e
        obtain ⟨ds', e1, _⟩ := Option.map_eq_some_iff.mp (show (argVs ρ pm as).map (d :: ·) = some ds from e)
        cases p with
        | io =>
          cases a with
          | ex s => exact ioSl_ok e1 i hi
          | sl j =>
            rcases List.mem_cons.mp (show i ∈ j :: ioSl pm as from hi) with z | z
            · subst z
              rw [arV_sl] at ea
              cases er : ρ[i]? with
              | none => rw [er] at ea; cases ea
              | some so =>
                cases so with
                | none => rw [er] at ea; cases ea
                | some s' =>
                  rw [er] at ea
                  cases ea
                  obtain ⟨m, d0⟩ := s
                  cases m <;> first | (cases ed; done) | exact ⟨_, _, er, rfl⟩
            · exact ioSl_ok e1 i z
        | sca => cases a <;> exact ioSl_ok e1 i hi
        | bor => cases a <;> exact ioSl_ok e1 i hi
        | shr => cases a <;> exact ioSl_ok e1 i hi
theorem putD_ne {ρ : En} {i j : Nat} {d : Vl} (h : i ≠ j) : (putD ρ i d)[j]? = ρ[j]? := by
  unfold putD
  split
  · rw [List.getElem?_set_ne h]
  · rfl
theorem putD_len {ρ : En} {i : Nat} {d : Vl} : (putD ρ i d).length = ρ.length := by
  unfold putD
  split
  · rw [List.length_set]
  · rfl
theorem setOuts_len : ∀ {is : List Nat} {ds : List Vl} {ρ : En}, (setOuts is ds ρ).length = ρ.length
  | [], _, _ => rfl
  | _ :: _, [], _ => rfl
  | i :: is, d :: ds, ρ => by
    show (setOuts is ds (putD ρ i d)).length = _
    rw [setOuts_len, putD_len]
theorem setOuts_ne : ∀ {is : List Nat} {ds : List Vl} {ρ : En} {j : Nat}, j ∉ is → (setOuts is ds ρ)[j]? = ρ[j]?
  | [], _, _, _, _ => rfl
  | _ :: _, [], _, _, _ => rfl
  | i :: is, d :: ds, ρ, j, h => by
    show (setOuts is ds (putD ρ i d))[j]? = _
    rw [setOuts_ne fun z => h (List.mem_cons_of_mem _ z), putD_ne fun z => h (by rw [z]; exact List.mem_cons_self)]
theorem setOuts_at {K : PySem.W.Frag} {F' H' : Hp} {g : Nat → Addr} : ∀ {is : List Nat} {ds : List Vl} {ρ : En}, is.Nodup → OutsR K F' H' ds (is.map g) → ∀ j ∈ is, ∀ m d0, ρ[j]? = some (some ⟨m, d0⟩) → ∃ d, (setOuts is ds ρ)[j]? = some (some ⟨m, d⟩) ∧ ∃ o, H' (g j) = some o ∧ OwnO K F' d o
  | [], _, _, _, _, j, hj, _, _, _ => by cases hj
  | i :: is, [], ρ, nd, h, j, hj, m, d0, e => by cases h
  | i :: is, d :: ds, ρ, nd, ⟨a, r, ea, hd, h⟩, j, hj, m, d0, e => by
    obtain ⟨rfl, rfl⟩ := List.cons.inj ea
    obtain ⟨n1, n2⟩ := List.nodup_cons.mp nd
    show ∃ d', (setOuts is ds (putD ρ i d))[j]? = some (some ⟨m, d'⟩) ∧ _
    rcases List.mem_cons.mp hj with z | z
    · subst z
      refine ⟨d, ?_, hd⟩
      rw [setOuts_ne n1]
      unfold putD
      rw [e]
      show (ρ.set j (some ⟨m, d⟩))[j]? = _
      rw [List.getElem?_set_self (List.getElem?_eq_some_iff.mp e).1]
    · exact setOuts_at n2 h j z m d0 (by rw [putD_ne fun y => n1 (by rw [y]; exact z)]; exact e)
/-- B behind a call -/
def bUp (B F' : Hp) : Hp := fun b => match B b with
  | some o => some o
  | none => F' b
theorem bUp_none {B F' : Hp} {a : Addr} (h1 : B a = none) (h2 : F' a = none) : bUp B F' a = none := by unfold bUp; rw [h1]; exact h2
theorem bUp_old {B F' : Hp} {a : Addr} {o : HO} (h1 : B a = some o) : bUp B F' a = some o := by unfold bUp; rw [h1]
/-- who owned what there was -/
def oUp (O : Addr → Option Ow) (H : Hp) : Addr → Option Ow := fun b => match H b with
  | some _ => O b
  | none => none
theorem oUp_old {O : Addr → Option Ow} {H : Hp} {a : Addr} {o : HO} (g : H a = some o) : oUp O H a = O a := by unfold oUp; rw [g]
theorem oUp_none {O : Addr → Option Ow} {H : Hp} {a : Addr} (g : H a = none) : oUp O H a = none := by unfold oUp; rw [g]
/-- the state behind a call -/
theorem IvW.call {F' H' : Hp} {is : List Nat} {outs : List Vl} (I : IvW J F B O ρ τ σ H) (nt : NoTmp τ) (nd : is.Nodup) (ok : ∀ i ∈ is, OSl ρ i) (A : After J.K F H (is.map (adr σ)) F' H' outs) :
    IvW J F' (bUp B F') (oUp O H) (setOuts is outs ρ) τ σ H' := by
  have own : ∀ a ∈ is.map (adr σ), ∃ i ∈ is, O a = some (.inl i) ∧ B a = none ∧ (J.H0 a = none ∨ a ∈ J.io) ∧ ∃ o, H a = some o := fun a ha => by
    obtain ⟨i, hi, rfl⟩ := List.mem_map.mp ha
    obtain ⟨m, d, e1, e2⟩ := ok i hi
    obtain ⟨_, ⟨o, g, _⟩, q, n, z⟩ := I.oslot e1 e2
    exact ⟨i, hi, q, n, z, o, g⟩
  have keepB : ∀ b o, B b = some o → H' b = some o := fun b o e => A.keep b o (I.base.bh _ _ e) fun z => by
    obtain ⟨_, _, _, n, _⟩ := own b z; rw [e] at n; cases n
  have freeF : ∀ a, (∃ o, H a = some o) → B a = none → F' a = none := fun a ⟨o, g⟩ n => by
    cases e : F' a with
    | none => rfl
    | some u =>
      rcases A.new a u e with z | z
      · rw [I.base.fb _ _ z] at n; cases n
      · rw [g] at z; cases z
  have fB : Sub F' (bUp B F') := fun b o e => by
    cases z : B b with
    | none => unfold bUp; rw [z]; exact e
    | some u =>
      rw [bUp_old z]
      rcases A.new b o e with y | y
      · rw [I.base.fb _ _ y] at z; exact z.symm
      · rw [I.base.bh _ _ z] at y; cases y
  have base : Base J F' (bUp B F') H' := by
    refine ⟨fB, fun b o e => ?_, fun b o e => A.ff _ _ (I.base.f0 _ _ e), fun b o e => ?_, fun b o e q => ?_, fun b e => ?_⟩
    · cases z : B b with
      | none => unfold bUp at e; rw [z] at e; exact A.fh _ _ e
      | some u => rw [bUp_old z] at e; cases e; exact keepB _ _ z
    · rcases A.new b o e with z | z
      · exact I.base.new _ _ z
      · exact .inr (I.base.freeH0 z)
    · refine A.keep b o (I.base.keep _ _ e q) fun z => ?_
      obtain ⟨_, _, _, _, y, _⟩ := own b z
      rcases y with y | y
      · rw [e] at y; cases y
      · exact q y
    · obtain ⟨o, g⟩ := I.base.iot b e
      by_cases z : b ∈ is.map (adr σ)
      · obtain ⟨i, hi, rfl⟩ := List.mem_map.mp z
        obtain ⟨m, d, e1, e2⟩ := ok i hi
        obtain ⟨d', _, o', g', _⟩ := setOuts_at nd A.outs i hi m d e1
        exact ⟨o', g'⟩
      · exact ⟨o, A.keep b o g z⟩
  have keep : ∀ (ow : Ow) (s : Sv) (v : V), s.m ≠ .tmp → (∀ i ∈ is, ow ≠ .inl i) → SR J F B H O ow s v → SR J F' (bUp B F') H' (oUp O H) ow s v := fun ow s v n1 n2 h => by
    have nm : ∀ {a : Addr}, O a = some ow → a ∉ is.map (adr σ) := fun {a} q z => by
      obtain ⟨i, hi, y, _⟩ := own a z
      rw [q] at y
      exact n2 i hi (Option.some.inj y)
    obtain ⟨m, d⟩ := s
    cases m with
    | shr => exact Rep.mono A.ff h
    | bor => exact Rep.mono (fun b o e => bUp_old e) h
    | tmp => exact absurd rfl n1
    | own =>
      obtain ⟨a, o, e, g, r, q, n, z⟩ := h
      exact ⟨a, o, e, A.keep _ _ g (nm q), r.mono A.ff, (oUp_old g).trans q, bUp_none n (freeF a ⟨o, g⟩ n), z⟩
    | io =>
      obtain ⟨a, o, e, g, r, q, n, z⟩ := h
      exact ⟨a, o, e, A.keep _ _ g (nm q), r.mono A.ff, (oUp_old g).trans q, bUp_none n (freeF a ⟨o, g⟩ n), z⟩
  refine ⟨base, I.len.of setOuts_len, fun j s e => ?_, I.temp.imp fun s v k hm _ h => keep _ s v (nt _ hm) (fun _ _ z => nomatch z) h⟩
  by_cases hj : j ∈ is
  · obtain ⟨m, d, e1, e2⟩ := ok j hj
    obtain ⟨d', e3, o', g', r'⟩ := setOuts_at nd A.outs j hj m d e1
    rw [e3] at e
    cases e
    obtain ⟨t, v, e4, h⟩ := I.slot j _ e1
    refine ⟨t, v, e4, ?_⟩
    have fr : F' (adr σ j) = none := A.iof _ (List.mem_map.mpr ⟨j, hj, rfl⟩)
    cases m with
    | own =>
      obtain ⟨a, o, ev, g, r, q, n, z⟩ := h
      subst ev
      have ha : adr σ j = a := by unfold adr; rw [e4]
      rw [ha] at g' fr
      exact ⟨a, o', rfl, g', r', (oUp_old g).trans q, bUp_none n fr, z⟩
    | io =>
      obtain ⟨a, o, ev, g, r, q, n, z⟩ := h
      subst ev
      have ha : adr σ j = a := by unfold adr; rw [e4]
      rw [ha] at g' fr
      exact ⟨a, o', rfl, g', r', (oUp_old g).trans q, bUp_none n fr, z⟩
    | _ => cases e2
  · rw [setOuts_ne hj] at e
    obtain ⟨t, v, e4, h⟩ := I.slot j s e
    exact ⟨t, v, e4, keep _ s v t (fun i hi z => hj (by cases z; exact hi)) h⟩
theorem IvW.res {F' H0 H' : Hp} {B' : Hp} {rm : Bool} {r : Vl} (I : IvW J F' B' O ρ τ σ H') (hn : ∀ a, H0 a = none → J.H0 a = none ∧ (F' a = none → B' a = none) ∧ O a = none) (h : ResR J.K rm H0 F' H' r v) : Iv J ρ ((resM rm r, v) :: τ) σ H' := by
  unfold ResR at h
  unfold resM
  split
  · rename_i q
    rw [if_pos q] at h
    exact I.push (s := ⟨.shr, r⟩) h
  · rename_i q
    rw [if_neg q] at h
    cases rm with
    | false => exact I.push (s := ⟨.shr, r⟩) h
    | true =>
      obtain ⟨a, o, ev, g, w, f, n⟩ := h
      obtain ⟨h1, h2, h3⟩ := hn a n
      have hO : ∀ (ow : Ow) s v, SR J F' B' H' O ow s v → SR J F' B' H' (fun b => if b = a then some (.inr τ.length) else O b) ow s v := fun ow s v h => by
        have ne : ∀ {x : Addr} {ow : Ow}, O x = some ow → x ≠ a := fun {x ow} e z => by subst z; rw [h3] at e; cases e
        obtain ⟨m, d⟩ := s
        cases m with
        | shr => exact h
        | bor => exact h
        | tmp => obtain ⟨x, u, e, g, r, j, q⟩ := h; exact ⟨x, u, e, g, r, j, (if_neg (ne q)).trans q⟩
        | own => obtain ⟨x, u, e, g, r, q, z⟩ := h; exact ⟨x, u, e, g, r, (if_neg (ne q)).trans q, z⟩
        | io => obtain ⟨x, u, e, g, r, q, z⟩ := h; exact ⟨x, u, e, g, r, (if_neg (ne q)).trans q, z⟩
      exact ⟨F', B', fun b => if b = a then some (.inr τ.length) else O b, I.base, I.len, fun i s e => (let ⟨t, v, e1, h⟩ := I.slot i s e; ⟨t, v, e1, hO _ _ _ h⟩), ⟨a, o, ev, g, w, if_pos rfl, h2 f, h1⟩, I.temp.imp fun s v k _ _ h => hO _ _ _ h⟩
theorem IvW.unstk : ∀ {as : List Ar} {vs : List V} {τ τ' : List (Sv × V)}, Stk σ as vs τ τ' → IvW J F B O ρ τ' σ H → IvW J F B O ρ τ σ H
  | [], [], τ, τ', k, I => by rw [show τ' = τ from k] at I; exact I
  | [], _ :: _, _, _, k, _ => k.elim
  | .ex s :: as, [], _, _, k, _ => k.elim
  | .sl i :: as, [], _, _, k, _ => k.elim
  | .ex s :: as, v :: vs, τ, τ', k, I => (IvW.unstk (show Stk σ as vs ((s, v) :: τ) τ' from k) I).drop1
  | .sl i :: as, v :: vs, τ, τ', k, I => IvW.unstk (show σ[i]? = some (some v) ∧ Stk σ as vs τ τ' from k).2 I
end
end MV
namespace MV
open PySem PySem.Spec PyProof.Rows L2
section
variable {X : Cx} {J : Jx} {W : WX} {pm : List PM} {rm : Bool} {fn : Fn} {fa : SemA} {q qo : Bool} {σ : St} {H : Hp} {Q : VK} {τ : List (Sv × V)} {ρ : En} {F B : Hp} {O : Addr → Option Ow}
theorem nd_map {α β : Type} {f : α → β} {l : List α} (h : ∀ x ∈ l, ∀ y ∈ l, f x = f y → x = y) (d : l.Nodup) : (l.map f).Nodup := by
  induction l with
  | nil => exact List.nodup_nil
  | cons a l ih =>
    obtain ⟨d1, d2⟩ := List.nodup_cons.mp d
    rw [List.map_cons]
    refine List.nodup_cons.mpr ⟨fun z => ?_, ih (fun x hx y hy => h x (List.mem_cons_of_mem _ hx) y (List.mem_cons_of_mem _ hy)) d2⟩
    obtain ⟨y, hy, e⟩ := List.mem_map.mp z
    rw [h y (List.mem_cons_of_mem _ hy) a List.mem_cons_self e] at hy
    exact d1 hy
theorem adr_nd {is : List Nat} (I : IvW J F B O ρ τ σ H) (nd : is.Nodup) (ok : ∀ i ∈ is, OSl ρ i) : (is.map (adr σ)).Nodup := by
  refine nd_map (fun i hi j hj e => ?_) nd
  obtain ⟨m, d, e1, e2⟩ := ok i hi
  obtain ⟨m', d', e3, e4⟩ := ok j hj
  have h1 := (I.oslot e1 e2).2.2.1
  have h2 := (I.oslot e3 e4).2.2.1
  rw [e] at h1
  rw [h1] at h2
  exact Sum.inl.inj (Option.some.inj h2)
/-- what the call asks of its promise -/
theorem call_sp {as : List Ar} {vs : List V} {τ' : List (Sv × V)} (nt : NoTmp τ) (k : Stk σ as vs τ τ') (I : Iv J ρ τ' σ H) (m : Out J W τ σ (kCall pm rm fn as ρ) Q) : spF J.K pm rm fn vs H Q (WE W σ) := by
  obtain ⟨F, B, O, I⟩ := I
  obtain ⟨hc, m⟩ := out_grd (b := ndB (ioSl pm as) && chkA (ioSl pm as) pm as) m
  obtain ⟨h1, h2⟩ := Bool.and_eq_true_iff.mp hc
  have nd := ndB_nd h1
  cases e : argVs ρ pm as with
  | none => rw [e] at m; exact m.elim
  | some ds =>
    rw [e] at m
    have ok := ioSl_ok e
    obtain ⟨I1, ar⟩ := args_R nt ok pm as ds vs τ τ' e h2 (fun i hi => hi) k I
    refine ⟨F, (ioSl pm as).map (adr σ), ds, fmns I1 ok, adr_nd I1 nd ok, ar, ?_⟩
    have m : Out J W τ σ (match fn ds with
      | .ret r outs => .ok (resM rm r) (setOuts (ioSl pm as) outs ρ)
      | .exc c fs outs => .exc c fs (setOuts (ioSl pm as) outs ρ)
      | .bad => .bad) Q := m
    cases z : fn ds with
    | ret r outs =>
      rw [z] at m
      refine fun v H' F' A rr => m v H' ?_
      have I2 := I1.call nt nd ok A
      refine I2.res (H0 := H) (fun a n => ⟨I1.base.freeH0 n, fun f => bUp_none (I1.base.freeB n) f, oUp_none n⟩) rr
    | exc c fs outs =>
      rw [z] at m
      refine fun cls d H' F' A er => m cls d H' ?_
      have I2 := I1.call nt nd ok A
      exact ⟨F', _, _, ⟨I2.base, I2.len, I2.slot, trivial⟩, er⟩
    | bad => rw [z] at m; exact m.elim
theorem tA_call (h : tE J W false (fCall pm rm fn fa) σ H Q) : tA J W q fa σ H fun vs H1 => spF J.K pm rm fn vs H1 Q (WE W σ) := by
  obtain ⟨ρ, τ, I, c, m⟩ := h
  have nt : NoTmp τ := c.elim (fun z => nomatch z) id
  refine ⟨ρ, τ, I, .inr nt, ?_⟩
  unfold fCall at m
  cases e : fa ρ with
  | ok as ρ1 => rw [e] at m; exact fun vs τ' H1 k I1 => call_sp nt k I1 m
  | exc c fs ρ1 => rw [e] at m; exact m
  | bad => rw [e] at m; exact m
/-- f(e, ..) -/
theorem xe_call {x : Str} {f : Addr} {p pos : Pos} {e : Expr} {es : List Expr} (hK : J.K = X.K) (hc : CallAt X W f (spF X.K pm rm fn)) (hg : Gl X x) (hm : X.mg x = some (.ref f)) (hk : PySem.W.keepIn X.K (.ref f) = true) (ha : XA X J W (e :: es) q fa)
    (hdb : (x == ("__debug__" : Str)) = false := by decide) (he : starEach (e :: es) X.env = (false, eval e X.env) :: starEach es X.env := by rfl) (hpl : (backTo pos (starEach es X.env)).any (·.1) = false := by rfl) :
    XE X J W (.Call (.Name x p) (e :: es) [] pos) false (fCall pm rm fn fa) := by
  refine ⟨⟨fun pins s σ H Q I h => ?_⟩⟩
  refine wpAny_Call_Name_kw (ld_glob I hg hm ?_ hdb)
  exact PySem.W.callWith_K (h₀ := X.base) I.ok.mod.kin hk (thn (ha.pa.run pos pins s σ H _ I (tA_call h)) fun us s1 ⟨vs, H1, I1, r, q⟩ => ⟨I1.kIn, hc _ _ _ _ _ _ _ I1 r (hK ▸ q)⟩) he hpl
/-- f() -/
theorem xe_call0 {x : Str} {f : Addr} {p pos : Pos} (hK : J.K = X.K) (hc : CallAt X W f (spF X.K pm rm fn)) (hg : Gl X x) (hm : X.mg x = some (.ref f)) (hk : PySem.W.keepIn X.K (.ref f) = true)
    (hdb : (x == ("__debug__" : Str)) = false := by decide) : XE X J W (.Call (.Name x p) [] [] pos) false (fCall pm rm fn aNil) := by
  refine ⟨⟨fun pins s σ H Q I h => ?_⟩⟩
  refine wpAny_Call_Name_kw (ld_glob I hg hm ?_ hdb)
  obtain ⟨ρ, τ, I0, c, m⟩ := h
  have nt : NoTmp τ := c.elim (fun z => nomatch z) id
  have q : spF J.K pm rm fn [] H Q (WE W σ) := call_sp (as := []) nt rfl I0 m
  exact PySem.W.callWith_K0 I.kIn hk (hc _ _ _ _ _ [] [] I .nil (hK ▸ q))
/-! ### methods -/
abbrev SemR := En → Rs Ar
def OutR (J : Jx) (W : WX) (τ : List (Sv × V)) (σ : St) (r : Rs Ar) (Q : VK) : Prop := match r with
  | .ok a ρ => ∀ v τ' H, Stk σ [a] [v] τ τ' → Iv J ρ τ' σ H → Q v H
  | .exc c fs ρ => ∀ cls d H, Ix J ρ c fs σ H cls d → W cls d σ H
  | .bad => False
/-- the object that is asked -/
structure XR (X : Cx) (J : Jx) (W : WX) (e : Expr) (q : Bool) (f : SemR) : Prop where
  pe : PE X e (fun σ H Q => ∃ ρ τ, Iv J ρ τ σ H ∧ (q = true ∨ NoTmp τ) ∧ OutR J W τ σ (f ρ) Q)
def rEx (fa : Sem1) : SemR := fun ρ => bnd (fa ρ) fun s ρ1 => grd (!s.m.isT) (.ok (.ex s) ρ1)
def rSl (i : Nat) : SemR := fun ρ => grd (asg ρ i) (.ok (.sl i) ρ)
theorem xr_ex {e : Expr} {f1 : Sem1} (h : XE X J W e q f1) : XR X J W e q (rEx f1) := by
  refine ⟨h.pe.imp ?_⟩
  rintro σ H Q ⟨ρ, τ, I, c, m⟩
  refine ⟨ρ, τ, I, c, ?_⟩
  unfold rEx at m
  cases e : f1 ρ with
  | ok s ρ1 =>
    rw [e] at m
    have m2 : OutR J W τ σ (.ok (.ex s) ρ1) Q := by
      obtain ⟨md, d⟩ := s
      cases md <;> first | exact m.elim | exact m
    exact fun v H1 I1 => m2 v _ H1 rfl I1
  | exc cc fs ρ1 => rw [e] at m; exact m
  | bad => rw [e] at m; exact m
theorem xr_sl {i : Nat} {x : Str} {p : Pos} (hN : X.N[i]? = some x) (hv : Vis X.env.scope x) (hd : (x == ("__debug__" : Str)) = false := by decide) (hcd : (x == ("__classdict__" : Str)) = false := by decide) : XR X J W (.Name x p) true (rSl i) := by
  refine ⟨(pe_var hN hv hd hcd).imp ?_⟩
  rintro σ H Q ⟨ρ, τ, ⟨F, B, O, I⟩, c, m⟩
  unfold rSl asg at m
  cases e : ρ[i]? with
  | none => rw [e] at m; exact m.elim
  | some o =>
    cases o with
    | none => rw [e] at m; exact m.elim
    | some s =>
      rw [e] at m
      obtain ⟨_, v, e1, _⟩ := I.slot i s e
      exact ⟨v, e1, m v τ H ⟨e1, rfl⟩ ⟨F, B, O, I⟩⟩
def clsOk (c m : Str) (ρ : En) (a : Ar) : Bool := match arV ρ a with
  | some ⟨md, .ins c' fs⟩ => !md.isT && (c == c') && (fs.lookup m).isNone
  | _ => false
def fMeth (c m : Str) (pm : List PM) (rm : Bool) (fn : Fn) (fo : SemR) (fa : SemA) : Sem1 := fun ρ => bnd (fo ρ) fun a ρ1 => grd (clsOk c m ρ1 a) (bnd (fa ρ1) fun as ρ2 => kCall pm rm fn (a :: as) ρ2)
theorem clsOk_at {c m : Str} {a : Ar} {v : V} {τ' : List (Sv × V)} (h : clsOk c m ρ a = true) (k : Stk σ [a] [v] τ τ') (I : Iv J ρ τ' σ H) : ∃ x dx ws, v = .ref x ∧ H x = some (.ins (He.ga J.K c) dx ws) ∧ ws.lookup m = none ∧ (NoTmp τ → NoTmp τ') := by
  obtain ⟨F, B, O, I⟩ := I
  have key : ∀ {s : Sv} {ow : Ow}, SR J F B H O ow s v → arV ρ a = some s → ∃ x dx ws, v = .ref x ∧ H x = some (.ins (He.ga J.K c) dx ws) ∧ ws.lookup m = none ∧ s.m ≠ .tmp := fun {s ow} r e => by
    unfold clsOk at h
    rw [e] at h
    obtain ⟨md, d⟩ := s
    cases d with
    | ins c' fs =>
      obtain ⟨h12, h3⟩ := Bool.and_eq_true_iff.mp (show (!md.isT && (c == c') && (fs.lookup m).isNone) = true from h)
      obtain ⟨h1, h2⟩ := Bool.and_eq_true_iff.mp h12
      have hc : c = c' := eq_of_beq h2
      subst hc
      obtain ⟨p, dx, ws, e1, g, rf⟩ := r.ins I.base
      exact ⟨p, dx, ws, e1, g, rf.lookN (Option.isNone_iff_eq_none.mp h3), fun z => by rw [show md = .tmp from z] at h1; cases h1⟩
    | _ => cases h
  cases a with
  | ex s =>
    rw [show τ' = (s, v) :: τ from k] at I ⊢
    obtain ⟨x, dx, ws, h1, h2, h3, h4⟩ := key I.top rfl
    exact ⟨x, dx, ws, h1, h2, h3, fun n => n.cons h4⟩
  | sl i =>
    obtain ⟨k1, k2⟩ := (show σ[i]? = some (some v) ∧ τ' = τ from k)
    subst k2
    cases e : ρ[i]? with
    | none => unfold clsOk at h; rw [arV_sl, e] at h; cases h
    | some so =>
      cases so with
      | none => unfold clsOk at h; rw [arV_sl, e] at h; cases h
      | some s =>
        obtain ⟨_, v', e1, r⟩ := I.slot i s e
        rw [k1] at e1
        cases e1
        obtain ⟨x, dx, ws, h1, h2, h3, h4⟩ := key r (by rw [arV_sl, e])
        exact ⟨x, dx, ws, h1, h2, h3, id⟩
theorem stk_cons {a : Ar} {as : List Ar} {v : V} {vs : List V} {τ1 τ2 : List (Sv × V)} (h1 : Stk σ [a] [v] τ τ1) (h2 : Stk σ as vs τ1 τ2) : Stk σ (a :: as) (v :: vs) τ τ2 := by
  cases a with
  | ex s => rw [show τ1 = (s, v) :: τ from h1] at h2; exact h2
  | sl i => obtain ⟨k1, k2⟩ := (show σ[i]? = some (some v) ∧ τ1 = τ from h1); subst k2; exact ⟨k1, h2⟩
theorem tMeth_ok {c m : Str} {fo : SemR} {to : TE} (h : ∃ ρ τ, Iv J ρ τ σ H ∧ (false = true ∨ NoTmp τ) ∧ Out J W τ σ (fMeth c m pm rm fn fo fa ρ) Q) (hto : ∀ σ H Q, (∃ ρ τ, Iv J ρ τ σ H ∧ (qo = true ∨ NoTmp τ) ∧ OutR J W τ σ (fo ρ) Q) → to σ H Q) :
    to σ H fun x H1 => ∃ a dx ws, x = .ref a ∧ H1 a = some (.ins (He.ga J.K c) dx ws) ∧ ws.lookup m = none ∧ tA J W q fa σ H1 fun vs H2 => spF J.K pm rm fn (x :: vs) H2 Q (WE W σ) := by
  obtain ⟨ρ, τ, I, c0, m0⟩ := h
  have nt : NoTmp τ := c0.elim (fun z => nomatch z) id
  refine hto _ _ _ ⟨ρ, τ, I, .inr nt, ?_⟩
  unfold fMeth at m0
  cases e : fo ρ with
  | ok a ρ1 =>
    rw [e] at m0
    intro v τ' H1 k I1
    obtain ⟨hc, m1⟩ := out_grd (b := clsOk c m ρ1 a) m0
    obtain ⟨x, dx, ws, h1, h2, h3, h4⟩ := clsOk_at hc k I1
    refine ⟨x, dx, ws, h1, h2, h3, ρ1, τ', I1, .inr (h4 nt), ?_⟩
    cases e2 : fa ρ1 with
    | ok as ρ2 => rw [e2] at m1; exact fun vs τ2 H2 k2 I2 => call_sp nt (stk_cons k k2) I2 m1
    | exc cc fs ρ2 => rw [e2] at m1; exact m1
    | bad => rw [e2] at m1; exact m1
  | exc cc fs ρ1 => rw [e] at m0; exact m0
  | bad => rw [e] at m0; exact m0
/-- o.m(e, ..) -/
theorem xe_meth {c m : Str} {f : Addr} {fo : SemR} {o : Expr} {p pos apos : Pos} {e : Expr} {es : List Expr} {pl : Sem Bool} (hK : J.K = X.K) (hc : CallAt X W f (spF X.K pm rm fn)) (k1 : Cls X.K (He.ga X.K c)) (k2 : Meth X.K (He.ga X.K c) m f) (ho : XR X J W o qo fo) (ha : XA X J W (e :: es) q fa)
    (hst : starEach (e :: es) X.env = (false, eval e X.env) :: starEach es X.env := by rfl) (hpl : (backTo pos (starEach es X.env)).any (·.1) = false := by rfl)
    (ht : eval (.Call (.Attribute o m apos) (e :: es) [] pos) X.env = (do
      let ov ← eval o X.env
      standAt apos.atName
      let (f, first) ← holding [ov] (getMethod ov m pl)
      callWith pos f first (backTo pos (starEach (e :: es) X.env)) (backToKw pos (keywordEach [] X.env))) := by rfl) :
    XE X J W (.Call (.Attribute o m apos) (e :: es) [] pos) false (fMeth c m pm rm fn fo fa) := by
  refine ⟨⟨fun pins s σ H Q I h => ?_⟩⟩
  refine PySem.W.methodCall_KW (pl := pl) (thn (ho.pe.run pins s σ H _ I (tMeth_ok (q := q) h fun _ _ _ z => z)) fun u s1 ⟨x, H1, I1, rx, a, dx, ws, ex, ea, l, q⟩ => ?_) ht
  subst ex
  obtain rfl : u = Value.ref a := rx
  refine getmeth_ok I1 (hK ▸ ea) k1 k2 l ?_
  refine PySem.W.callWith_K (first := [.ref a]) (h₀ := X.base) I.ok.mod.kin k2.kp (thn (ha.pa.run pos pins s1 σ H1 _ I1 q) fun us s2 ⟨vs, H2, I2, r, q2⟩ => ⟨I2.kIn, ?_⟩) hst hpl
  exact hc _ _ _ _ _ (.ref a :: us) (.ref a :: vs) I2 (.cons rfl r) (hK ▸ q2)
theorem xe_meth0 {c m : Str} {f : Addr} {fo : SemR} {o : Expr} {p pos apos : Pos} {pl : Sem Bool} (hK : J.K = X.K) (hc : CallAt X W f (spF X.K pm rm fn)) (k1 : Cls X.K (He.ga X.K c)) (k2 : Meth X.K (He.ga X.K c) m f) (ho : XR X J W o qo fo)
    (ht : eval (.Call (.Attribute o m apos) [] [] pos) X.env = (do
      let ov ← eval o X.env
      standAt apos.atName
      let (f, first) ← holding [ov] (getMethod ov m pl)
      callWith pos f first (backTo pos (starEach [] X.env)) (backToKw pos (keywordEach [] X.env))) := by rfl) :
    XE X J W (.Call (.Attribute o m apos) [] [] pos) false (fMeth c m pm rm fn fo aNil) := by
  refine ⟨⟨fun pins s σ H Q I h => ?_⟩⟩
  refine PySem.W.methodCall_KW (pl := pl) (thn (ho.pe.run pins s σ H _ I (tMeth_ok (q := true) h fun _ _ _ z => z)) fun u s1 ⟨x, H1, I1, rx, a, dx, ws, ex, ea, l, q⟩ => ?_) ht
  subst ex
  obtain rfl : u = Value.ref a := rx
  refine getmeth_ok I1 (hK ▸ ea) k1 k2 l ?_
  have q' : spF J.K pm rm fn [.ref a] H1 Q (WE W σ) := by
    obtain ⟨ρ, τ, I2, _, m⟩ := q
    exact m [] τ H1 rfl I2
  exact PySem.W.callWith_K0 (first := [.ref a]) I1.kIn k2.kp (hc _ _ _ _ _ [.ref a] [.ref a] I1 (.cons rfl .nil) (hK ▸ q'))
end
end MV
namespace MV
open PySem PySem.Spec PyProof.Rows L2
/-! ### constructors -/
def MakeAt (X : Cx) (W : WX) (C : Addr) (sp : Sp) : Prop := ∀ (pins : List (Addr × Obj)) (σ : St) (H : Hp) (s : Shared) (Q : VK) (us : List Value) (vs : List V), Inv X pins σ H s → Vals vs us →
  (∀ x dx, H x = none → H dx = none → dx ≠ x → sp (.ref x :: vs) (upd (upd H dx (.own x)) x (.ins C dx [])) (fun v H2 => v = .non ∧ Q (.ref x) H2) (WE W σ)) →
  wpAny (model X.prog X.w) X.A (call (.ref C) us) (EP X pins σ Q) X.xe s
theorem makeAt {X : Cx} {W : WX} {k : Nat} {C f : Addr} {fd : FuncData} {ps : List Str} {sp : Sp} {dvs : List V} {ds : List Value} (M : Mk X.K C f) (F : FnOk X.prog X.w X.K X.mg X.base (L2N.CX X.prog X.w) k f fd ps sp) (hr : Room (k + 1) X.A) (hb : Binds X.K fd ps ds) (hd : Vals dvs ds) (tk : Takes X W) :
    MakeAt X W C (fun vs => sp (vs ++ dvs)) := fun pins σ H s Q us vs I r h => by
  have hq := h (s.heap.objs.size + 1) s.heap.objs.size (I.hok.fresh (Nat.le_succ _)) (I.hok.fresh (Nat.le_refl _)) (Nat.ne_of_lt (Nat.lt_succ_self _))
  have I2 := Inv.made (C := C) I
  have r2 : Vals (V.ref (s.heap.objs.size + 1) :: (vs ++ dvs)) (Value.ref (s.heap.objs.size + 1) :: (us ++ ds)) := .cons rfl (r.append hd)
  have hl : (Value.ref (s.heap.objs.size + 1) :: us ++ ds).length = ps.length := by
    have e := r2.length
    have hq' : sp (V.ref (s.heap.objs.size + 1) :: (vs ++ dvs)) _ _ _ := hq
    rw [F.len _ _ _ _ hq'] at e
    exact e.symm
  refine wpAny_call (make_map (f := f) I.kIn M.makes M.init (beq_iff_eq.mp M.fn) (codeAny_mono (F.run _ X.stack _ _ ⟨Value.ref (s.heap.objs.size + 1) :: us, []⟩ (Value.ref (s.heap.objs.size + 1) :: (us ++ ds)) _ _ (WE W σ) (hr.make C us [])
    (I2.env0.make C us []) (hb _ (Value.ref (s.heap.objs.size + 1) :: us) I2.kIn hl) r2 hq) fun r s' hq' => ?_))
  cases r with
  | error e => exact passAt tk σ pins _ _ e s' I2 hq'
  | ok fl =>
    cases fl with
    | ret u =>
      obtain ⟨v, H', I3, rv, ev, q3⟩ := I2.after hq'
      subst ev
      exact ⟨rv, ⟨V.ref (s.heap.objs.size + 1), H', I3, rfl, q3⟩⟩
    | next => exact False.elim hq'
    | brk => exact False.elim hq'
    | cont => exact False.elim hq'
theorem makeAt0 {X : Cx} {W : WX} {k : Nat} {C f : Addr} {fd : FuncData} {ps : List Str} {sp : Sp} (M : Mk X.K C f) (F : FnOk X.prog X.w X.K X.mg X.base (L2N.CX X.prog X.w) k f fd ps sp) (hr : Room (k + 1) X.A) (hb : Binds X.K fd ps []) (tk : Takes X W) : MakeAt X W C sp := by
  have h := makeAt (dvs := []) M F hr hb .nil tk
  intro pins σ H s Q us vs I r g
  refine h pins σ H s Q us vs I r fun x dx h1 h2 h3 => ?_
  have g' := g x dx h1 h2 h3
  show sp ((V.ref x :: vs) ++ []) _ _ _
  rw [List.append_nil]
  exact g'
def kMake (c : Str) (pm : List PM) (fn : Fn) (as : List Ar) (ρ : En) : Rs Sv :=
  grd ((ioSl pm as).isEmpty && chkA [] pm as) (match argVs ρ pm as with
    | none => .bad
    | some ds => match fn (.ins c [] :: ds) with
      | .ret .non [d] => .ok ⟨.own, d⟩ ρ
      | .exc c fs [_] => .exc c fs ρ
      | _ => .bad)
def fMake (c : Str) (pm : List PM) (fn : Fn) (fa : SemA) : Sem1 := fun ρ => bnd (fa ρ) fun as ρ1 => kMake c pm fn as ρ1
section
variable {X : Cx} {J : Jx} {W : WX} {pm : List PM} {rm : Bool} {fn : Fn} {fa : SemA} {q qo : Bool} {σ : St} {H : Hp} {Q : VK} {τ : List (Sv × V)} {ρ : En} {F B : Hp} {O : Addr → Option Ow}
theorem argsR_up {K : PySem.W.Frag} {H2 : Hp} {x : Addr} (hx : H x = none) (hs : ∀ b o, H b = some o → H2 b = some o) : ∀ {pm : List PM} {ds : List Vl} {vs : List V}, ArgsR K F H [] pm ds vs [] → ArgsR K F H2 [x] pm ds vs []
  | [], [], [], _ => rfl
  | [], _ :: _, _, h => by cases h
  | [], [], _ :: _, h => by cases h
  | .sca :: pm, [], _, h => by cases h
  | .bor :: pm, [], _, h => by cases h
  | .shr :: pm, [], _, h => by cases h
  | .io :: pm, [], _, h => by cases h
  | .sca :: pm, _ :: _, [], h => by cases h
  | .bor :: pm, _ :: _, [], h => by cases h
  | .shr :: pm, _ :: _, [], h => by cases h
  | .io :: pm, _ :: _, [], h => by cases h
  | .sca :: pm, d :: ds, v :: vs, ⟨h1, h2, h⟩ => ⟨h1, h2, argsR_up hx hs h⟩
  | .bor :: pm, d :: ds, v :: vs, ⟨h1, h⟩ => ⟨Rep.mono (fun b o e => mns_of (hs _ _ (mns_sub _ _ e)) fun z => by
    rw [List.mem_singleton] at z
    subst z
    rw [mns_sub _ _ e] at hx; cases hx) h1, argsR_up hx hs h⟩
  | .shr :: pm, d :: ds, v :: vs, ⟨h1, h⟩ => ⟨h1, argsR_up hx hs h⟩
  | .io :: pm, d :: ds, v :: vs, ⟨a, r, e, _⟩ => by cases e
theorem IvW.made {F' H2 H' : Hp} {x : Addr} {d : Vl} (I : IvW J F B O ρ τ σ H) (nt : NoTmp τ) (hx : H x = none) (hs : ∀ b o, H b = some o → H2 b = some o) (hn : ∀ b, H2 b = none → H b = none) (A : After J.K F H2 [x] F' H' [d]) :
    IvW J F' (bUp B F') (fun b => if b = x then some (.inr τ.length) else oUp O H b) ρ ((⟨.own, d⟩, .ref x) :: τ) σ H' := by
  have nx : ∀ {b : Addr} {o : HO}, H b = some o → b ≠ x := fun {b o} e z => by subst z; rw [hx] at e; cases e
  have keepH : ∀ b o, H b = some o → H' b = some o := fun b o e => A.keep b o (hs _ _ e) fun z => nx e (List.mem_singleton.mp z)
  have new : ∀ b o, F' b = some o → F b = some o ∨ H b = none := fun b o e => (A.new b o e).imp id (hn b)
  have freeF : ∀ a, (∃ o, H a = some o) → B a = none → F' a = none := fun a ⟨o, g⟩ n => by
    cases e : F' a with
    | none => rfl
    | some u =>
      rcases new a u e with z | z
      · rw [I.base.fb _ _ z] at n; cases n
      · rw [g] at z; cases z
  have fB : Sub F' (bUp B F') := fun b o e => by
    cases z : B b with
    | none => unfold bUp; rw [z]; exact e
    | some u =>
      rw [bUp_old z]
      rcases new b o e with y | y
      · rw [I.base.fb _ _ y] at z; exact z.symm
      · rw [I.base.bh _ _ z] at y; cases y
  have base : Base J F' (bUp B F') H' := by
    refine ⟨fB, fun b o e => ?_, fun b o e => A.ff _ _ (I.base.f0 _ _ e), fun b o e => ?_, fun b o e q => ?_, fun b e => ?_⟩
    · cases z : B b with
      | none => unfold bUp at e; rw [z] at e; exact A.fh _ _ e
      | some u => rw [bUp_old z] at e; cases e; exact keepH _ _ (I.base.bh _ _ z)
    · rcases new b o e with z | z
      · exact I.base.new _ _ z
      · exact .inr (I.base.freeH0 z)
    · exact keepH b o (I.base.keep _ _ e q)
    · obtain ⟨o, g⟩ := I.base.iot b e
      exact ⟨o, keepH b o g⟩
  have keep : ∀ (ow : Ow) (s : Sv) (v : V), s.m ≠ .tmp → SR J F B H O ow s v → SR J F' (bUp B F') H' (fun b => if b = x then some (.inr τ.length) else oUp O H b) ow s v := fun ow s v n1 h => by
    obtain ⟨m, d⟩ := s
    cases m with
    | shr => exact Rep.mono A.ff h
    | bor => exact Rep.mono (fun b o e => bUp_old e) h
    | tmp => exact absurd rfl n1
    | own =>
      obtain ⟨a, o, e, g, r, q, n, z⟩ := h
      exact ⟨a, o, e, keepH _ _ g, r.mono A.ff, (if_neg (nx g)).trans ((oUp_old g).trans q), bUp_none n (freeF a ⟨o, g⟩ n), z⟩
    | io =>
      obtain ⟨a, o, e, g, r, q, n, z⟩ := h
      exact ⟨a, o, e, keepH _ _ g, r.mono A.ff, (if_neg (nx g)).trans ((oUp_old g).trans q), bUp_none n (freeF a ⟨o, g⟩ n), z⟩
  obtain ⟨a, r, e, ⟨o, g, w⟩, _⟩ := A.outs
  obtain ⟨rfl, _⟩ := List.cons.inj e
  have fx : F' x = none := A.iof x (List.mem_singleton.mpr rfl)
  exact ⟨base, I.len, fun i s e => (let ⟨t, v, e1, h⟩ := I.slot i s e; ⟨t, v, e1, keep _ _ _ t h⟩), ⟨x, o, rfl, g, w, if_pos rfl, bUp_none (I.base.freeB hx) fx, I.base.freeH0 hx⟩, I.temp.imp fun s v k hm _ h => keep _ s v (nt _ hm) h⟩
theorem make_sp {c : Str} {as : List Ar} {vs : List V} {τ' : List (Sv × V)} (nt : NoTmp τ) (k : Stk σ as vs τ τ') (I : Iv J ρ τ' σ H) (m : Out J W τ σ (kMake c pm fn as ρ) Q) (x dx : Addr) (hx : H x = none) (hd : H dx = none) (hne : dx ≠ x) :
    spF J.K (.io :: pm) rm fn (.ref x :: vs) (upd (upd H dx (.own x)) x (.ins (He.ga J.K c) dx [])) (fun v H2 => v = .non ∧ Q (.ref x) H2) (WE W σ) := by
  obtain ⟨F, B, O, I⟩ := I
  obtain ⟨hc, m⟩ := out_grd (b := (ioSl pm as).isEmpty && chkA [] pm as) m
  obtain ⟨h1, h2⟩ := Bool.and_eq_true_iff.mp hc
  have h1 : ioSl pm as = [] := List.isEmpty_iff.mp h1
  cases e : argVs ρ pm as with
  | none => rw [e] at m; exact m.elim
  | some ds =>
    rw [e] at m
    obtain ⟨I1, ar⟩ := args_R (is := []) nt (fun i hi => by cases hi) pm as ds vs τ τ' e h2 (fun i hi => by rw [h1] at hi; exact hi) k I
    rw [h1] at ar
    have ar : ArgsR J.K F H [] pm ds vs [] := ar
    have hs : ∀ b o, H b = some o → upd (upd H dx (.own x)) x (.ins (He.ga J.K c) dx []) b = some o := fun b o g => by
      rw [upd_ne (ne_of_none g hx), upd_ne (ne_of_none g hd)]; exact g
    have hn : ∀ b, upd (upd H dx (.own x)) x (.ins (He.ga J.K c) dx []) b = none → H b = none := fun b g => by
      cases z : H b with
      | none => rfl
      | some o => rw [hs _ _ z] at g; cases g
    have fx : Sub F (mns (upd (upd H dx (.own x)) x (.ins (He.ga J.K c) dx [])) [x]) := fun b o g => by
      have g := I1.base.bh _ _ (I1.base.fb _ _ g)
      exact mns_of (hs _ _ g) fun z => by
        rw [List.mem_singleton] at z
        subst z
        rw [hx] at g; cases g
    refine ⟨F, [x], .ins c [] :: ds, fx, List.nodup_cons.mpr ⟨(fun z => by cases z), List.nodup_nil⟩, ⟨x, [], rfl, rfl, ⟨_, upd_same, dx, [], rfl, rfl⟩, argsR_up hx hs ar⟩, ?_⟩
    have m : Out J W τ σ (match fn (.ins c [] :: ds) with
      | .ret .non [d] => .ok ⟨.own, d⟩ ρ
      | .exc c fs [_] => .exc c fs ρ
      | _ => .bad) Q := m
    cases z : fn (.ins c [] :: ds) with
    | ret r outs =>
      rw [z] at m
      intro v H' F' A rr
      cases r with
      | non =>
        cases outs with
        | nil => exact m.elim
        | cons d outs =>
          cases outs with
          | cons _ _ => exact m.elim
          | nil => exact ⟨(show Rep J.K F' .non v from rr), m _ H' ⟨_, _, _, I1.made nt hx hs hn A⟩⟩
      | _ => exact m.elim
    | exc cc fs outs =>
      rw [z] at m
      intro cls d H' F' A er
      cases outs with
      | nil => exact m.elim
      | cons d' outs =>
        cases outs with
        | cons _ _ => exact m.elim
        | nil =>
          have I2 := I1.made nt hx hs hn A
          exact m cls d H' ⟨_, _, _, ⟨I2.base, I2.len, I2.slot, trivial⟩, er⟩
    | bad => rw [z] at m; exact m.elim
/-- C(e, ..) -/
theorem xe_make {c x : Str} {p pos : Pos} {e : Expr} {es : List Expr} (hK : J.K = X.K) (hc : MakeAt X W (He.ga X.K c) (spF X.K (.io :: pm) rm fn)) (hg : Gl X x) (hm : X.mg x = some (.ref (He.ga X.K c))) (hk : PySem.W.keepIn X.K (.ref (He.ga X.K c)) = true) (ha : XA X J W (e :: es) q fa)
    (hdb : (x == ("__debug__" : Str)) = false := by decide) (he : starEach (e :: es) X.env = (false, eval e X.env) :: starEach es X.env := by rfl) (hpl : (backTo pos (starEach es X.env)).any (·.1) = false := by rfl) :
    XE X J W (.Call (.Name x p) (e :: es) [] pos) false (fMake c pm fn fa) := by
  refine ⟨⟨fun pins s σ H Q I h => ?_⟩⟩
  refine wpAny_Call_Name_kw (ld_glob I hg hm ?_ hdb)
  refine PySem.W.callWith_K (h₀ := X.base) I.ok.mod.kin hk (thn (ha.pa.run pos pins s σ H (fun vs H1 => ∀ x dx, H1 x = none → H1 dx = none → dx ≠ x → spF J.K (.io :: pm) rm fn (.ref x :: vs) (upd (upd H1 dx (.own x)) x (.ins (He.ga J.K c) dx [])) (fun v H2 => v = .non ∧ Q (.ref x) H2) (WE W σ)) I ?_) fun us s1 ⟨vs, H1, I1, r, q⟩ => ⟨I1.kIn, hc _ _ _ _ _ _ _ I1 r (hK ▸ q)⟩) he hpl
  obtain ⟨ρ, τ, I, c0, m⟩ := h
  have nt : NoTmp τ := c0.elim (fun z => nomatch z) id
  refine ⟨ρ, τ, I, .inr nt, ?_⟩
  unfold fMake at m
  cases e : fa ρ with
  | ok as ρ1 => rw [e] at m; exact fun vs τ' H1 k I1 x dx h1 h2 h3 => make_sp nt k I1 m x dx h1 h2 h3
  | exc c fs ρ1 => rw [e] at m; exact m
  | bad => rw [e] at m; exact m
theorem xe_make0 {c x : Str} {p pos : Pos} (hK : J.K = X.K) (hc : MakeAt X W (He.ga X.K c) (spF X.K (.io :: pm) rm fn)) (hg : Gl X x) (hm : X.mg x = some (.ref (He.ga X.K c))) (hk : PySem.W.keepIn X.K (.ref (He.ga X.K c)) = true)
    (hdb : (x == ("__debug__" : Str)) = false := by decide) : XE X J W (.Call (.Name x p) [] [] pos) false (fMake c pm fn aNil) := by
  refine ⟨⟨fun pins s σ H Q I h => ?_⟩⟩
  refine wpAny_Call_Name_kw (ld_glob I hg hm ?_ hdb)
  obtain ⟨ρ, τ, I0, c0, m⟩ := h
  have nt : NoTmp τ := c0.elim (fun z => nomatch z) id
  refine PySem.W.callWith_K0 I.kIn hk (hc _ _ _ _ _ [] [] I .nil fun x dx h1 h2 h3 => ?_)
  have := make_sp (as := []) (vs := []) (τ' := τ) (rm := rm) nt rfl I0 m x dx h1 h2 h3
  exact hK ▸ this
/-! ### properties -/
def noX (r : Rs Sv) : Rs Sv := match r with
  | .exc _ _ _ => .bad
  | r => r
def fProp (c f : Str) (rm : Bool) (fn : Fn) (fo : SemR) : Sem1 := fun ρ => bnd (fo ρ) fun a ρ1 => grd (clsOk c f ρ1 a) (noX (kCall [.bor] rm fn [a] ρ1))
theorem out_noX {r : Rs Sv} (h : Out J W τ σ (noX r) Q) : Out J (fun _ _ _ _ => False) τ σ r Q := by
  cases r with
  | ok s ρ => exact h
  | exc c fs ρ => exact h.elim
  | bad => exact h.elim
end
section
variable {X : Cx} {J : Jx} {W : WX} {rm : Bool} {fn : Fn} {q qo : Bool}
/-- o.f, a property -/
theorem xe_prop {c f : Str} {p g : Addr} {k : Nat} {fd : FuncData} {ps : List Str} {fo : SemR} {o : Expr} {pos : Pos} (hK : J.K = X.K) (k1 : Cls X.K (He.ga X.K c)) (hp : PropOf X.K (He.ga X.K c) f p g) (F : FnOk X.prog X.w X.K X.mg X.base (L2N.CX X.prog X.w) k g fd ps (spF X.K [.bor] rm fn))
    (hr : Room (k + 1) X.A) (hb : Binds X.K fd ps []) (ho : XR X J W o qo fo) (hab : attributeBase o f X.env (eval o X.env) = eval o X.env := by rfl) : XE X J W (.Attribute o f pos) false (fProp c f rm fn fo) := by
  refine ⟨⟨fun pins s σ H Q I h => ?_⟩⟩
  obtain ⟨ρ, τ, I0, c0, m0⟩ := h
  have nt : NoTmp τ := c0.elim (fun z => nomatch z) id
  have h1 : ∃ ρ τ, Iv J ρ τ σ H ∧ (qo = true ∨ NoTmp τ) ∧ OutR J W τ σ (fo ρ) (fun x H1 => ∃ a dx ws, x = .ref a ∧ H1 a = some (.ins (He.ga X.K c) dx ws) ∧ spF X.K [.bor] rm fn [.ref a] H1 Q (fun _ _ _ => False)) := by
    refine ⟨ρ, τ, I0, .inr nt, ?_⟩
    unfold fProp at m0
    cases e : fo ρ with
    | ok a ρ1 =>
      rw [e] at m0
      intro v τ' H1 k0 I1
      obtain ⟨hc, m1⟩ := out_grd (b := clsOk c f ρ1 a) m0
      obtain ⟨x, dx, ws, h1, h2, h3, h4⟩ := clsOk_at hc k0 I1
      subst h1
      exact ⟨x, dx, ws, rfl, hK ▸ h2, hK ▸ call_sp nt k0 I1 (out_noX m1)⟩
    | exc cc fs ρ1 => rw [e] at m0; exact m0
    | bad => rw [e] at m0; exact m0
  refine attr_of hab (thn (ho.pe.run pins s σ H _ I h1) fun u s1 ⟨x, H1, I1, rx, a, dx, fs, ex, ea, q⟩ => ?_)
  subst ex
  obtain rfl : u = Value.ref a := rx
  exact getprop_ok I1 ea k1 hp F hr hb .nil (L2N.passes_call (W := fun _ _ _ _ => False) takes_none5 (fun _ _ _ _ h => h)) q
end
end MV
namespace MV
open PySem PySem.Spec PyProof.Rows L2
/-! ### own exceptions with fields: their __init__ -/
def spX (fs : List Str) (K : PySem.W.Frag) : Sp := fun vs H Q E => ∃ (a C : Addr) (ws : List V), vs = .ref a :: ws ∧ ws.length = fs.length ∧ OexC K C ∧ (∀ f, f ∈ fs → PySem.W.findIn K (.ref C) f = some none) ∧ H a = some (exo a C none) ∧
  ∀ (dx : Addr) (H' : Hp), H dx = none → dx ≠ a → H' a = some (exo a C (some dx)) → H' dx = some (exd dx (fs.zip ws).reverse) → (∀ b, b ≠ a → b ≠ dx → H' b = H b) → Q .non H'
section
variable {P : Program} {w : World} {K : PySem.W.Frag} {mg : Str → Option Value} {base : Heap} {qual : Str} {params : Arguments} {body : List Stmt} {scope : Scope} {dvs : List V} {kws : List (Str × V)} {f : Addr} {fd : FuncData} {k : Nat} {name : Str}
/-- def __init__(self, x): self.x = x -/
theorem fn_ex1 {x : Str} {p1 p2 p3 p4 : Pos} (F : FunD K name qual params [.Assign [.Attribute (.Name "self" p1) x p2] (.Name x p3) p4] scope dvs kws f fd) (S : FnScope ["self", x] ["self", x] scope) (v1 : Vis scope "self") (v2 : Vis scope x)
    (hs : ∀ env : Env, swapsWith (.Name x p3) (some (.Attribute (.Name "self" p1) x p2)) p4.line env = pure false := by intro _; rfl)
    (hd : (x == ("__debug__" : Str)) = false := by decide) (hcd : (x == ("__classdict__" : Str)) = false := by decide) : FnOk P w K mg base (L2N.CX P w) (k + 1) f fd ["self", x] (spX [x] K) := by
  refine F.ok S (fun vs H Q E h => ?_) fun cdv A outer s H vs Q E hr h => ?_
  · obtain ⟨a, C, ws, e, l, _⟩ := h
    rw [e, List.length_cons, l]; rfl
  · obtain ⟨a, C, ws, rfl, l, T, hn, ea, q⟩ := h
    match ws, l with
    | [y], _ =>
      refine ⟨_, pss_cons (ps_ost (pe_var (i := 0) rfl v1 (by decide) (by decide)) (pe_var (i := 1) rfl v2 hd hcd) (hs _)) pss_nil, ?_⟩
      refine ⟨y, rfl, V.ref a, rfl, a, C, rfl, T, hn x (by simp), .inl ⟨ea, fun dx h1 h2 => ?_⟩⟩
      refine q dx _ h1 h2 upd_same ?_ fun b h3 h4 => ?_
      · rw [upd_ne h2, upd_same]; rfl
      · rw [upd_ne h3, upd_ne h4]
theorem fn_ex2 {x y : Str} {p1 p2 p3 p4 p5 p6 p7 p8 : Pos} (F : FunD K name qual params [.Assign [.Attribute (.Name "self" p1) x p2] (.Name x p3) p4, .Assign [.Attribute (.Name "self" p5) y p6] (.Name y p7) p8] scope dvs kws f fd) (S : FnScope ["self", x, y] ["self", x, y] scope) (v1 : Vis scope "self") (v2 : Vis scope x) (v3 : Vis scope y)
    (hs : ∀ env : Env, swapsWith (.Name x p3) (some (.Attribute (.Name "self" p1) x p2)) p4.line env = pure false := by intro _; rfl) (hs2 : ∀ env : Env, swapsWith (.Name y p7) (some (.Attribute (.Name "self" p5) y p6)) p8.line env = pure false := by intro _; rfl)
    (hd : (x == ("__debug__" : Str)) = false := by decide) (hcd : (x == ("__classdict__" : Str)) = false := by decide) (hd2 : (y == ("__debug__" : Str)) = false := by decide) (hcd2 : (y == ("__classdict__" : Str)) = false := by decide) : FnOk P w K mg base (L2N.CX P w) (k + 1) f fd ["self", x, y] (spX [x, y] K) := by
  refine F.ok S (fun vs H Q E h => ?_) fun cdv A outer s H vs Q E hr h => ?_
  · obtain ⟨a, C, ws, e, l, _⟩ := h
    rw [e, List.length_cons, l]; rfl
  · obtain ⟨a, C, ws, rfl, l, T, hn, ea, q⟩ := h
    match ws, l with
    | [u, z], _ =>
      refine ⟨_, pss_cons (ps_ost (pe_var (i := 0) rfl v1 (by decide) (by decide)) (pe_var (i := 1) rfl v2 hd hcd) (hs _)) (pss_cons (ps_ost (pe_var (i := 0) rfl v1 (by decide) (by decide)) (pe_var (i := 2) rfl v3 hd2 hcd2) (hs2 _)) pss_nil), ?_⟩
      refine ⟨u, rfl, V.ref a, rfl, a, C, rfl, T, hn x (by simp), .inl ⟨ea, fun dx h1 h2 => ?_⟩⟩
      refine ⟨z, rfl, V.ref a, rfl, a, C, rfl, T, hn y (by simp), .inr ⟨dx, [(x, u)], upd_same, by rw [upd_ne h2, upd_same], Nat.le_of_ble_eq_true rfl, ?_⟩⟩
      refine q dx _ h1 h2 ?_ upd_same fun b h3 h4 => ?_
      · rw [upd_ne (fun e => h2 e.symm), upd_same]
      · rw [upd_ne h4, upd_ne h3, upd_ne h4]
end
section
variable {X : Cx} {J : Jx} {W : WX} {q : Bool} {fa : SemA} {σ : St} {H : Hp} {τ : List (Sv × V)} {ρ : En} {F B : Hp} {O : Addr → Option Ow}
theorem tA_mono {Q Q' : List V → Hp → Prop} (h : tA J W q fa σ H Q) (m : ∀ vs H, Q vs H → Q' vs H) : tA J W q fa σ H Q' := by
  obtain ⟨ρ, τ, I, c, g⟩ := h
  refine ⟨ρ, τ, I, c, ?_⟩
  cases e : fa ρ with
  | ok as ρ1 => rw [e] at g; exact fun vs τ' H1 k I1 => m _ _ (g vs τ' H1 k I1)
  | exc c fs ρ1 => rw [e] at g; exact g
  | bad => rw [e] at g; exact g
section
variable {X : Cx} {e : Expr} {es : List Expr} {ta : TA} {p pos : Pos}
/-- an own exception is made: its context is None -/
theorem pmk_oexN {CX : CXT} {x : Str} {C fI : Addr} {k : Nat} {fd : FuncData} {ps : List Str} {sp : Sp} {ds : List Value} {dvs : List V} (T : OexC X.K C) (iC : PySem.W.findIn X.K (.ref C) "__init__" = some (some (.ref fI))) (tI : PySem.W.typeIn X.K (.ref fI) = some (.type "function"))
    (F1 : FnOk X.prog X.w X.K X.mg X.base CX k fI fd ps sp) (hr : Room (k + 1) X.A) (hb : Binds X.K fd ps ds) (hd : Vals dvs ds) (hx : Passes CX X (fun _ _ _ => False)) (hg : Gl X x) (hm : X.mg x = some (.ref C)) (ha : PA X (e :: es) ta)
    (hdb : (x == ("__debug__" : Str)) = false := by decide) (he : starEach (e :: es) X.env = (false, eval e X.env) :: starEach es X.env := by rfl) (hpl : (backTo pos (starEach es X.env)).any (·.1) = false := by rfl) :
    L2N.PMk X (.Call (.Name x p) (e :: es) [] pos) (tMkO C sp dvs ta) := by
  intro pins s σ H Q I h
  obtain ⟨_, _, _, _, bm, _, _, _, _, _, _, _, _, _, _, hC, hbm⟩ := T.cls
  refine wpAny_Call_Name_kw (ld_glob I hg hm ?_ hdb)
  refine PySem.W.callWith_K (h₀ := X.base) I.ok.mod.kin T.kC (thn (ha.run pos pins s σ H _ I h) fun us s1 ⟨vs, H1, I1, r1, hz, q1⟩ => ⟨I1.kIn, ?_⟩) he hpl
  show wpAny _ _ (call (.ref C) us) _ _ _
  obtain ⟨hp, g, dr, tk, os⟩ := s1
  generalize hn1 : hp.objs.size + 1 = n1
  have le1 : hp.objs.size ≤ n1 := by omega
  have hq := q1 n1 (I1.hok.fresh le1)
  generalize hnew : (hp.push (PySem.W.kdv_tup us)).push (PySem.HandSPX.excO C hp.objs.size) = hN
  have up : ∀ b o, hp.get? b = some o → hN.get? b = some o := fun b o z => by rw [← hnew]; exact Heap.get?_push_of_some _ (Heap.get?_push_of_some _ z)
  have at1 : hN.get? n1 = some (PySem.HandSPX.excO C hp.objs.size) := by rw [← hnew, ← hn1]; heap_get
  have I2 : Inv X pins σ (upd H1 n1 (exo n1 C none)) ⟨hN, g, dr, tk, os⟩ := I1.laid (t' := tk) (a := n1) (o := exo n1 C none) (h' := hN) up le1 (exo_ok at1)
  have r2 : Vals (V.ref n1 :: (vs ++ dvs)) (Value.ref n1 :: (us ++ ds)) := .cons rfl (r1.append hd)
  have len2 : (Value.ref n1 :: us ++ ds).length = ps.length := by
    have z := r2.length
    rw [F1.len _ _ _ _ hq] at z
    exact z.symm
  have small : us.length ≤ sizeLine := by rw [← Paired.length r1, sizeLine_eq]; omega
  subst hnew
  subst hn1
  refine wpAny_call (PySem.HandSPX.call_own F.excBase_ValueError (fun Y => PySem.HandSPX.refsVE_contains Y bm hbm) (I1.kIn _ _ hC) (PySem.W.looks_findIn I1.kIn iC) (fun self => PySem.W.bind_fn I1.kIn self tI) small
    (codeAny_mono (F1.run _ X.stack _ _ ⟨Value.ref (hp.objs.size + 1) :: us, []⟩ (Value.ref (hp.objs.size + 1) :: (us ++ ds)) _ _ (fun _ _ _ => False) (hr.make C us []) (I2.env0.make C us []) (hb _ (Value.ref (hp.objs.size + 1) :: us) I2.kIn len2) r2 hq) fun r s' hq' => ?_))
  cases r with
  | error er => exact hx pins σ _ _ er s' I2 hq'
  | ok fl =>
    cases fl with
    | ret u =>
      obtain ⟨v, H2, os2, bare2, un2, hok2, rv, rfl, d, fs, ea, ed, hd1, q2⟩ := hq'
      obtain ⟨h2, g2, d2, t2, os'⟩ := s'
      obtain ⟨t0, G, J, kG, ge, hoe, na⟩ := mk_end0 (d2 := d2) (t2 := t2) I1 le1 up un2 hok2 os2 bare2 ea ed hd1
      exact ⟨rv, ⟨hp.objs.size + 1, _, _, ⟨G, g2, d2, t2, os'⟩, _, .ref C, some d, rfl, J, kG, ge, hoe, ⟨rfl, rfl, fun vs hv => by cases hv; rfl⟩, rfl, rfl, na, rfl, bare2, raises_own T.exC T.tyC, q2⟩⟩
    | next => exact False.elim hq'
    | brk => exact False.elim hq'
    | cont => exact False.elim hq'
end
/-- an exception with fields is raised -/
def sRaise (c : Str) (fs : List Str) (fa : SemA) : SemS := fun ρ => bndA (fa ρ) fun as ρ1 => match argVs ρ1 (fs.map fun _ => .shr) as with
    | some ds => .exc c (fs.zip ds).reverse ρ1
    | none => .bad
where
  bndA (r : Rs (List Ar)) (k : List Ar → En → Sr) : Sr := match r with
    | .ok as ρ => k as ρ
    | .exc c fs ρ => .exc c fs ρ
    | .bad => .bad
/-- a new frozen object beside -/
theorem IvW.addF {o : HO} {p : Addr} (I : IvW J F B O ρ τ σ H) (np : H p = none) : IvW J (upd F p o) (upd B p o) O ρ τ σ (upd H p o) := by
  have nB := I.base.freeB np
  have nF := I.base.freeF nB
  have hs := upd_sub (o := o) np
  refine ⟨I.base.grow hs upd_same (I.base.freeH0 np) nF nB, I.len, fun i s e => ?_, ?_⟩
  · obtain ⟨t, v, e1, h⟩ := I.slot i s e
    exact ⟨t, v, e1, h.grow nF nB hs fun a u g _ => ne_of_none g np⟩
  · exact I.temp.imp fun s v k _ _ h => h.grow nF nB hs fun a u g _ => ne_of_none g np
theorem argsShr {K : PySem.W.Frag} {all : List Addr} : ∀ {fs : List Str} {ds : List Vl} {vs : List V}, ArgsR K F H all (fs.map fun _ => .shr) ds vs [] → vs.length = fs.length ∧ ds.length = fs.length ∧ RepL K F ds vs
  | [], [], [], _ => ⟨rfl, rfl, rfl⟩
  | [], _ :: _, _, h => by cases h
  | [], [], _ :: _, h => by cases h
  | f :: fs, [], _, h => by cases h
  | f :: fs, _ :: _, [], h => by cases h
  | f :: fs, d :: ds, v :: vs, ⟨h1, h⟩ => by
    obtain ⟨h2, h3, h4⟩ := argsShr h
    exact ⟨by rw [List.length_cons, List.length_cons, h2], by rw [List.length_cons, List.length_cons, h3], v, vs, rfl, h1, h4⟩
theorem ioSl_shr : ∀ {fs : List Str} {as : List Ar}, ioSl (fs.map fun _ => .shr) as = []
  | [], as => by cases as <;> rfl
  | f :: fs, [] => rfl
  | f :: fs, .ex s :: as => ioSl_shr (fs := fs)
  | f :: fs, .sl i :: as => ioSl_shr (fs := fs)
theorem chkA_shr {ρ : En} : ∀ {fs : List Str} {as : List Ar} {ds : List Vl}, argVs ρ (fs.map fun _ => .shr) as = some ds → chkA [] (fs.map fun _ => .shr) as = true
  | [], [], _, _ => rfl
  | [], a :: as, _, e => by cases e
  | f :: fs, [], _, e => by cases e
  | f :: fs, a :: as, ds, e => by
    have e : argVs ρ (.shr :: fs.map fun _ => .shr) (a :: as) = some ds := e
    rw [argVs_cons] at e
    cases ea : arV ρ a with
    | none => rw [ea] at e; cases e
    | some s =>
      rw [ea] at e
      replace e : (match arD .shr s with | some d => (argVs ρ (fs.map fun _ => .shr) as).map (d :: ·) | none => none) = some ds := e
      cases ed : arD .shr s with
      | none => rw [ed] at e; cases e
      | some d =>
        rw [ed] at e
        obtain ⟨ds', e1, _⟩ := Option.map_eq_some_iff.mp (show (argVs ρ (fs.map fun _ => .shr) as).map (d :: ·) = some ds from e)
        have ih := chkA_shr e1
        cases a with
        | ex s => exact ih
        | sl i => exact ih
theorem zip_lookR {K : PySem.W.Frag} {G : Hp} {f : Str} {x : Vl} : ∀ {l1 : List (Str × Vl)} {l2 : List (Str × V)}, RepF K G l1 l2 → l1.lookup f = some x → ∃ v, l2.lookup f = some v ∧ Rep K G x v := fun h e => RepF.look h e
theorem repF_zip {K : PySem.W.Frag} {G : Hp} : ∀ {fs : List Str} {ds : List Vl} {vs : List V}, RepL K G ds vs → RepF K G (fs.zip ds) (fs.zip vs)
  | [], _, _, _ => rfl
  | f :: fs, [], vs, h => by rw [show vs = [] from h]; exact rfl
  | f :: fs, d :: ds, vs, ⟨v, r, e, h1, h2⟩ => by subst e; exact ⟨v, _, rfl, h1, repF_zip h2⟩
theorem repF_app {K : PySem.W.Frag} {G : Hp} : ∀ {a b : List (Str × Vl)} {u v : List (Str × V)}, RepF K G a u → RepF K G b v → RepF K G (a ++ b) (u ++ v)
  | [], b, u, v, h, g => by rw [show u = [] from h]; exact g
  | (f, x) :: a, b, u, v, ⟨y, r, e, h1, h2⟩, g => by subst e; exact ⟨y, _, rfl, h1, repF_app h2 g⟩
theorem repF_rev {K : PySem.W.Frag} {G : Hp} : ∀ {a : List (Str × Vl)} {u : List (Str × V)}, RepF K G a u → RepF K G a.reverse u.reverse
  | [], u, h => by rw [show u = [] from h]; exact rfl
  | (f, x) :: a, u, ⟨y, r, e, h1, h2⟩ => by
    subst e
    rw [List.reverse_cons, List.reverse_cons]
    exact repF_app (repF_rev h2) ⟨y, [], rfl, h1, rfl⟩
theorem exo_clean {H1 H' : Hp} {a C dx : Addr} {l : List (Str × V)} (hn : H1 a = none) (hne : dx ≠ a) (hk : ∀ b, b ≠ a → b ≠ dx → H' b = upd H1 a (exo a C none) b) : upd (del H' a) dx (.xd l) = upd H1 dx (.xd l) := by
  funext b
  by_cases h1 : b = dx
  · subst h1; rw [upd_same, upd_same]
  · rw [upd_ne h1, upd_ne h1]
    by_cases h2 : b = a
    · subst h2; rw [del_same, hn]
    · rw [del_ne h2, hk b h2 h1, upd_ne h2]
theorem xs_raise {c x : Str} {fI : Addr} {k : Nat} {fd : FuncData} {ps : List Str} {fs : List Str} {e : Expr} {es : List Expr} {p pos pos2 : Pos} (hK : J.K = X.K) (hc : X.calm = true) (tk : Takes X W)
    (T : OexC X.K (He.ga X.K c)) (hn : ∀ f, f ∈ fs → PySem.W.findIn X.K (.ref (He.ga X.K c)) f = some none) (iC : PySem.W.findIn X.K (.ref (He.ga X.K c)) "__init__" = some (some (.ref fI))) (tI : PySem.W.typeIn X.K (.ref fI) = some (.type "function"))
    (F1 : FnOk X.prog X.w X.K X.mg X.base (L2N.CX X.prog X.w) k fI fd ps (spX fs X.K)) (hr : Room (k + 1) X.A) (hb : Binds X.K fd ps []) (hg : Gl X x) (hm : X.mg x = some (.ref (He.ga X.K c))) (hl : (fs.length ≤ 1000) := by decide) (ha : XA X J W (e :: es) q fa)
    (hdb : (x == ("__debug__" : Str)) = false := by decide) (he : starEach (e :: es) X.env = (false, eval e X.env) :: starEach es X.env := by rfl) (hpl : (backTo pos (starEach es X.env)).any (·.1) = false := by rfl) :
    XS X J W (.Raise (some (.Call (.Name x p) (e :: es) [] pos)) none pos2) (sRaise c fs fa) := by
  refine ⟨(L2N.ps_raise hc tk (pmk_oexN (dvs := []) (ds := []) T iC tI F1 hr hb .nil (L2N.passes_call (W := fun _ _ _ _ => False) takes_none5 (fun _ _ _ _ h => h)) hg hm ha.pa hdb he hpl)).imp fun σ H D h => ?_⟩
  obtain ⟨ρ, τ, I, nt, m⟩ := h
  refine ⟨ρ, τ, I, .inr nt, ?_⟩
  unfold sRaise sRaise.bndA at m
  cases z : fa ρ with
  | ok as ρ1 =>
    rw [z] at m
    rintro vs τ' H1 k ⟨F, B, O, I1⟩
    have m : OutS J W τ (match argVs ρ1 (fs.map fun _ => .shr) as with
      | some ds => .exc c (fs.zip ds).reverse ρ1
      | none => .bad) D := m
    cases ea : argVs ρ1 (fs.map fun _ => .shr) as with
    | none => rw [ea] at m; exact m.elim
    | some ds =>
      rw [ea] at m
      obtain ⟨I2, ar⟩ := args_R (is := []) nt (fun i hi => by cases hi) _ as ds vs τ τ' ea (chkA_shr ea) (fun i hi => by rw [ioSl_shr] at hi; exact hi) k I1
      rw [ioSl_shr] at ar
      obtain ⟨l1, l2, rl⟩ := argsShr (show ArgsR J.K F H1 [] (fs.map fun _ => .shr) ds vs [] from ar)
      refine ⟨by rw [l1]; exact hl, fun a na => ?_⟩
      rw [List.append_nil]
      refine ⟨a, _, vs, rfl, l1, T, hn, upd_same, fun dx H' h1 h2 h3 h4 h5 => ⟨rfl, dx, _, h3, h4, ?_, ?_⟩⟩
      · rw [upd_ne h2] at h1; exact h1
      · rw [exo_clean na h2 h5]
        rw [upd_ne h2] at h1
        have I3 := I2.addF (o := .xd (fs.zip vs).reverse) h1
        refine m _ _ _ _ ⟨_, _, _, ⟨I3.base, I3.len, I3.slot, trivial⟩, by rw [hK], .inr ⟨dx, (fs.zip vs).reverse, rfl, upd_same, fun f y e => ?_⟩⟩
        have rl2 : RepL J.K (upd F dx (.xd (fs.zip vs).reverse)) ds vs := rl.mono (upd_sub (I2.base.freeF (I2.base.freeB h1)))
        exact (repF_rev (repF_zip rl2)).look e
  | exc cc fs' ρ1 => rw [z] at m; intro cls d H1 hx; exact m cls d σ H1 hx
  | bad => rw [z] at m; exact m.elim
end
end MV
namespace MV
open PySem PySem.Spec PyProof.Rows L2
/-! ### try: several clauses, each with or without a name -/
abbrev Hdl := Option Nat × Value × (Addr → Value → Option Addr → TS)
def unD (D : Ends) : Option Nat → Ends
  | none => D
  | some i => { nx := fun σ' H' => D.nx (σ'.set i none) H', rt := D.rt, bk := fun σ' H' => D.bk (σ'.set i none) H', ct := fun σ' H' => D.ct (σ'.set i none) H' }
def inSt (σ : St) (a : Addr) : Option Nat → St
  | none => σ
  | some i => σ.set i (some (.ref a))
def wManyA (K : PySem.W.Frag) (Wout : WX) (D : Ends) : List Hdl → WX
  | [] => Wout
  | (o, c, ts) :: r => fun cls d σ H => ∃ b, PySem.W.exmOne K cls c = some b ∧ (b = true → ∀ a, H a = none → ts a cls d (unD D o) (inSt σ a o) H) ∧ (b = false → wManyA K Wout D r cls d σ H)
inductive HdsA (X : Cx) : List ExceptHandler → List Hdl → Prop
  | nil : HdsA X [] []
  | cons {x : Str} {c : Value} {ts : Addr → Value → Option Addr → TS} {b₀ : Stmt} {suite : List Stmt} {np pos' : Pos} {hds : List ExceptHandler} {l : List Hdl} (hc : Names X x c)
      (hsu : ∀ (a : Addr) (oe : Obj) (cls : Value) (d : Option Addr) (pn : List (Addr × Obj)), L2N.Zn cls d oe → (∃ vs, oe.data = .fields vs) → PSs (X.suite a ((a, oe) :: pn)) (b₀ :: suite) (ts a cls d)) (r : HdsA X hds l) :
      HdsA X (.ExceptHandler (some (.Name x np)) none (b₀ :: suite) pos' :: hds) ((none, c, ts) :: l)
  | as {x n : Str} {i : Nat} {c : Value} {ts : Addr → Value → Option Addr → TS} {b₀ : Stmt} {suite : List Stmt} {np pos' : Pos} {hds : List ExceptHandler} {l : List Hdl} (hc : Names X x c) (hi : X.N[i]? = some n) (hln : X.env.kindOf n = some .local)
      (hsu : ∀ (a : Addr) (oe : Obj) (cls : Value) (d : Option Addr) (pn : List (Addr × Obj)), L2N.Zn cls d oe → (∃ vs, oe.data = .fields vs) → PSs (X.suite a ((a, oe) :: pn)) (b₀ :: suite) (ts a cls d)) (r : HdsA X hds l) :
      HdsA X (.ExceptHandler (some (.Name x np)) (some n) (b₀ :: suite) pos' :: hds) ((some i, c, ts) :: l)
section
variable {X : Cx} {body : List Stmt} {h₀ : ExceptHandler} {hds : List ExceptHandler} {l : List Hdl} {pos : Pos} {tb : WX → TS} {Wout : WX}
theorem ps_try_all (hs : X.stack = X.env :: X.outer) (hf : X.env.frame = some X.env.locals) (hN : X.N.Nodup) (tk : Takes X Wout)
    (hb : ∀ (W : WX) (pn : List (Addr × Obj)) (xe : Value → Shared → Prop), Takes (X.tr pn xe) W → PassesOwn (model X.prog X.w) X.A X.env xe → PSs (X.tr pn xe) body (tb W))
    (hh : HdsA X (h₀ :: hds) l) : PS X (.Try body (h₀ :: hds) [] [] pos) (fun D σ H => tb (wManyA X.K Wout D l) D σ H) := by
  refine ⟨fun pins s σ H D I h => ?_⟩
  have ok := I.ok
  have hfr : X.A.frames = some (X.env :: X.outer) := by rw [ok.frames, hs]
  refine wpAny_Try_except ?_
  refine wpAny_mono ((hb (wManyA X.K Wout D l) (X.pn ++ pins) (fun e s₁ => wpAny (model X.prog X.w) X.A (noteFrame e X.env) (fun _ s₂ => wpAny (model X.prog X.w) X.A (setFlight e none) (fun _ s₃ =>
    wpAny (model X.prog X.w) X.A (handleBy e X.env (h₀ :: hds)) (SP X pins D) X.xe s₃) X.xe s₂) X.xe s₁) (fun u s' xx => ?_) PassesOwn.looking).run [] s σ H D (I.toTry _) h) (fun f s1 hsp => ?_) (fun e s1 he => he)
  · obtain ⟨a, B, sI, pins', σ', H', cls, d, rfl, J', nb, up, sky, na, os, ag, w⟩ := xx
    have J : Inv X pins σ' H' sI := J'.ofTry ok
    have sky' : Sky B (X.env :: X.outer) a (L2N.Zn cls d) X.env.locals s'.heap := by rw [← hs]; exact sky
    show wpAny (model X.prog X.w) X.A (noteFrame (.ref a) X.env) _ _ _
    refine L2N.Sky.land L2N.Zn.steady hfr hf sky' fun h3 fl3 up3 => ?_
    have J3 : Inv X pins σ' H' { s' with heap := h3 } := J.landed nb fl3.1 (up.trans up3) os ag
    obtain ⟨oe3, vs3, he3, hz3, hd3⟩ := fl3.there
    have notFr : ∀ {h : Heap} {o : Obj} {vs : Array Value}, h.FunFrames B (X.env :: X.outer) → h.get? a = some o → o.data = .fields vs → a ∉ frs (X.env :: X.outer) := fun {h o vs} ff e dd hm => by
      obtain ⟨_, o', e', hnf⟩ := ff.mem hm
      rw [e] at e'; cases e'
      exact hnf _ dd
    have nfr := notFr fl3.2.2.1 he3 hd3
    have nL : a ≠ X.env.locals := fun z => nfr (List.mem_filterMap.mpr ⟨X.env, List.mem_cons_self, by rw [hf, z]⟩)
    have nF : a ∉ X.fs := fun hm => by
      obtain ⟨e, he, q⟩ := List.mem_filterMap.mp hm
      exact nfr (List.mem_filterMap.mpr ⟨e, List.mem_cons_of_mem _ he, q⟩)
    have S3 := J3.suite he3 hd3 na nL nF
    have LT : PySem.W.Looks (model X.prog X.w) h3 (typeOf (.ref a)) cls := fun A Q E s k q => wpAny_typeOf_ref (k _ _ he3) (by rw [hz3.1]; exact q)
    have test : ∀ {x : Str} {c : Value} {np : Pos} {Q : Value → Shared → Prop} {E : Value → Shared → Prop}, Names X x c → Q c { s' with heap := h3 } → wpAny (model X.prog X.w) (X.A.mark (some (.ref a))) (eval (.Name x np) X.env) Q E { s' with heap := h3 } := fun {x c np Q E} hc q => by
      obtain ⟨hg, hdbg, hm | ⟨hm, hv, hnn⟩⟩ := hc
      · exact ld_glob (X := X.suite a ((a, oe3) :: (X.pn ++ pins))) S3 hg hm q hdbg
      · exact ld_blt (X := X.suite a ((a, oe3) :: (X.pn ++ pins))) S3 hg hm hv q hnn hdbg
    have go : ∀ {hds' : List ExceptHandler} {l' : List Hdl}, HdsA X hds' l' → wManyA X.K Wout D l' cls d σ' H' →
        wpAny (model X.prog X.w) X.A (handleBy (.ref a) X.env hds') (SP X pins D) X.xe { s' with heap := h3 } := by
      intro hds' l' hk
      induction hk with
      | nil =>
        intro w
        refine wpAny_handleBy_nil ?_
        obtain ⟨k1, k2, k3, oe, vs, T, oT, ts', he, hz, hd, h1, hr⟩ := id fl3
        unfold PySem.passOn
        refine wpAny_bind (wpAny_field he hd h1 ?_)
        rw [if_neg (show ¬ ((Value.ref T == Value.none) = true) from by simp)]
        have fin : wpAny (model X.prog X.w) X.A (setFlight (.ref a) X.env.frame) (fun _ s4 => wpAny (model X.prog X.w) X.A (throw (.ref a) : Sem Flow) (SP X pins D) X.xe s4) X.xe { s' with heap := h3 } := by
          rw [hf]
          refine HandSPX.setFlight_upZ fl3 fun h4 hh4 up4 => wpAny_throw (tk _ _ ?_)
          exact ⟨a, B, sI, pins, σ', H', cls, d, rfl, J, nb, (up.trans up3).trans up4, .inr (.inr (by rw [hs]; exact hh4)), na, os, ag, w⟩
        first
          | exact wpAny_bind (wpAny_pure (wpAny_bind fin))
          | exact wpAny_bind fin
      | @cons x c ts b₀ suite np pos' hds2 l2 hc hsu r ih =>
        intro w
        obtain ⟨b, hb1, hyes, hno⟩ := w
        refine wpAny_handleBy_cons (codeAny_handlers_test ?_) (by intro q; cases q)
        refine test hc ((PySem.W.exm_one (M := model X.prog X.w) (J3.kIn) LT hb1).here ?_)
        cases b with
        | true =>
          refine codeAny_handlers_suite ?_
          refine HandSPX.lands_againZ fl3 fun h4 fl4 up4 => ?_
          have J4 : Inv X pins σ' H' { s' with heap := h4 } := J.landed nb fl4.1 ((up.trans up3).trans up4) os ag
          obtain ⟨oe4, vs4, he4, hz4, hd4⟩ := fl4.there
          have S4 := J4.suite he4 hd4 na nL nF
          refine wpAny_mono ((hsu a oe4 cls d (X.pn ++ pins) hz4 ⟨_, hd4⟩).run [] _ _ H' _ S4 (hyes rfl a na)) (fun f s6 hsp => ?_) (fun _ _ z => False.elim z)
          cases f with
          | next =>
            obtain ⟨σ6, H6, S6, q6⟩ := hsp
            exact ⟨_, _, S6.unsuite ok, q6⟩
          | brk =>
            obtain ⟨σ6, H6, S6, q6⟩ := hsp
            exact ⟨_, _, S6.unsuite ok, q6⟩
          | cont =>
            obtain ⟨σ6, H6, S6, q6⟩ := hsp
            exact ⟨_, _, S6.unsuite ok, q6⟩
          | ret u =>
            obtain ⟨v6, σ6, H6, S6, r6, q6⟩ := hsp
            exact ⟨_, _, _, S6.unsuite ok, r6, q6⟩
        | false =>
          show wpAny _ X.A (handleBy (.ref a) X.env hds2) _ _ _
          exact ih (hno rfl)
      | @as x n i c ts b₀ suite np pos' hds2 l2 hc hi hln hsu r ih =>
        intro w
        obtain ⟨b, hb1, hyes, hno⟩ := w
        refine wpAny_handleBy_cons (codeAny_handlers_test ?_) (by intro q; cases q)
        refine test hc ((PySem.W.exm_one (M := model X.prog X.w) (J3.kIn) LT hb1).here ?_)
        cases b with
        | true =>
          refine codeAny_handlers_suite_as ?_
          refine HandSPX.lands_againZ fl3 fun h4 fl4 up4 => ?_
          have J4 : Inv X pins σ' H' { s' with heap := h4 } := J.landed nb fl4.1 ((up.trans up3).trans up4) os ag
          obtain ⟨oe4, vs4, he4, hz4, hd4⟩ := fl4.there
          have S4 := J4.suite he4 hd4 na nL nF
          refine store_ok (X := X.suite a ((a, oe4) :: (X.pn ++ pins))) (v := .ref a) S4 hN hi (.inl hln) rfl (fun s5 S5 => ?_) (.inr hln)
          refine wpAny_mono ((hsu a oe4 cls d (X.pn ++ pins) hz4 ⟨_, hd4⟩).run [] s5 _ H' _ S5 (hyes rfl a na)) (fun f s6 hsp => ?_) (fun _ _ z => False.elim z)
          have end_ : ∀ {σ6 : St} {H6 : Hp} {Q : Shared → Prop}, Inv (X.suite a ((a, oe4) :: (X.pn ++ pins))) [] σ6 H6 s6 → (∀ s7, Inv X pins (σ6.set i none) H6 s7 → Q s7) →
              wpAny (model X.prog X.w) X.A (do bindName X.env n .none; unbindBehindTheSuite X.env n pos') (fun _ s7 => Q s7) X.xe s6 := fun {σ6 H6 Q} S6 hq => gone_ok (S6.unsuite ok) hN hi hln hq
          cases f with
          | next =>
            obtain ⟨σ6, H6, S6, q6⟩ := hsp
            exact end_ S6 fun s7 J7 => ⟨_, _, J7, q6⟩
          | brk =>
            obtain ⟨σ6, H6, S6, q6⟩ := hsp
            exact end_ S6 fun s7 J7 => ⟨_, _, J7, q6⟩
          | cont =>
            obtain ⟨σ6, H6, S6, q6⟩ := hsp
            exact end_ S6 fun s7 J7 => ⟨_, _, J7, q6⟩
          | ret u =>
            obtain ⟨v6, σ6, H6, S6, r6, q6⟩ := hsp
            exact end_ S6 fun s7 J7 => ⟨_, _, _, J7, r6, q6⟩
        | false =>
          show wpAny _ X.A (handleBy (.ref a) X.env hds2) _ _ _
          exact ih (hno rfl)
    exact go hh w
  · cases f with
    | next =>
      obtain ⟨σ', H', J', q⟩ := hsp
      exact wpAny_execs_nil ⟨σ', H', J'.ofTry ok, q⟩
    | brk =>
      obtain ⟨σ', H', J', q⟩ := hsp
      exact ⟨σ', H', J'.ofTry ok, q⟩
    | cont =>
      obtain ⟨σ', H', J', q⟩ := hsp
      exact ⟨σ', H', J'.ofTry ok, q⟩
    | ret u =>
      obtain ⟨v, σ', H', J', r, q⟩ := hsp
      exact ⟨v, σ', H', J'.ofTry ok, r, q⟩
end
/-! ### the same, by meaning -/
/-- a statement where no temporary is held -/
structure XS0 (X : Cx) (J : Jx) (W : WX) (st : Stmt) (f : SemS) : Prop where
  ps : PS X st (fun D σ H => ∃ ρ, Iv J ρ [] σ H ∧ OutS J W [] (f ρ) D)
structure XB0 (X : Cx) (J : Jx) (W : WX) (sts : List Stmt) (f : SemS) : Prop where
  pss : PSs X sts (fun D σ H => ∃ ρ, Iv J ρ [] σ H ∧ OutS J W [] (f ρ) D)
structure HSem where
  o : Option Nat
  mt : Str → Option Bool
  su : Str → List (Str × Vl) → SemS
def unR (o : Option Nat) (r : Sr) : Sr := match o with
  | none => (match r with
    | .exc _ _ _ => .bad
    | r => r)
  | some i => (match r with
    | .next ρ => .next (ρ.set i none)
    | .brk ρ => .brk (ρ.set i none)
    | .cont ρ => .cont (ρ.set i none)
    | .ret s ρ => .ret s ρ
    | .exc _ _ _ => .bad
    | .bad => .bad)
def outS' (ρ : En) : Option Nat → Option En
  | none => some ρ
  | some i => if noIo ρ i && decide (i < ρ.length) then some (ρ.set i none) else none
def hRun : List HSem → Str → List (Str × Vl) → En → Sr
  | [], c, fs, ρ => .exc c fs ρ
  | h :: r, c, fs, ρ => match h.mt c with
    | some true => (match outS' ρ h.o with
      | some ρ1 => unR h.o (h.su c fs ρ1)
      | none => .bad)
    | some false => hRun r c fs ρ
    | none => .bad
def sTry (f : SemS) (hs : List HSem) : SemS := fun ρ => match f ρ with
  | .exc c fs ρ1 => hRun hs c fs ρ1
  | r => r
def Jx.sub (J : Jx) (F : Hp) (fx : Option (Nat × V)) : Jx := ⟨J.K, J.H0, F, J.ios, fx⟩
section
variable {X : Cx} {J : Jx} {W : WX} {F B H : Hp} {O : Addr → Option Ow} {ρ : En} {τ : List (Sv × V)} {σ : St} {F' : Hp} {fx : Option (Nat × V)}
theorem sr_sub {ow : Ow} {s : Sv} {v : V} : SR (J.sub F' fx) F B H O ow s v = SR J F B H O ow s v := by
  obtain ⟨m, d⟩ := s
  cases m <;> rfl
theorem tok_sub : ∀ {τ : List (Sv × V)}, TOk (J.sub F' fx) F B H O τ = TOk J F B H O τ
  | [] => rfl
  | (s, v) :: t => by
    show (SR (J.sub F' fx) F B H O _ s v ∧ TOk (J.sub F' fx) F B H O t) = (SR J F B H O _ s v ∧ TOk J F B H O t)
    rw [sr_sub, tok_sub]
/-- into a suite -/
theorem IvW.enter {o : Option Nat} {a : Addr} {ρ1 : En} (I : IvW J F B O ρ τ σ H) (h : outS' ρ o = some ρ1) : IvW (J.sub F (o.map fun i => (i, V.ref a))) F B O ρ1 τ (inSt σ a o) H := by
  have base : Base (J.sub F (o.map fun i => (i, V.ref a))) F B H := ⟨I.base.fb, I.base.bh, fun _ _ e => e, fun b u e => .inl e, I.base.keep, I.base.iot⟩
  cases o with
  | none =>
    cases h
    exact ⟨base, ⟨I.len.eq, fun i v e => by cases e⟩, fun i s e => (let ⟨t, v, e1, r⟩ := I.slot i s e; ⟨t, v, e1, by rw [sr_sub]; exact r⟩), by rw [tok_sub]; exact I.temp⟩
  | some k =>
    have h : (if noIo ρ k && decide (k < ρ.length) then some (ρ.set k none) else none) = some ρ1 := h
    by_cases c : (noIo ρ k && decide (k < ρ.length)) = true
    · rw [if_pos c] at h
      cases h
      have hl := of_decide_eq_true (Bool.and_eq_true_iff.mp c).2
      refine ⟨base, ⟨by show (ρ.set k none).length = (σ.set k _).length; rw [List.length_set, List.length_set]; exact I.len.eq, fun i v e => ?_⟩, fun i s e => ?_, by rw [tok_sub]; exact I.temp⟩
      · cases e
        show (σ.set k (some (.ref a)))[k]? = _
        rw [List.getElem?_set_self (by rw [← I.len.eq]; exact hl)]
      · by_cases hi : k = i
        · subst hi
          rw [List.getElem?_set_self hl] at e; cases e
        · rw [List.getElem?_set_ne hi] at e
          obtain ⟨t, v, e1, r⟩ := I.slot i s e
          refine ⟨t, v, ?_, by rw [sr_sub]; exact r⟩
          show (σ.set k (some (.ref a)))[i]? = _
          rw [List.getElem?_set_ne hi]; exact e1
    · rw [if_neg c] at h; cases h
def unσ (σ : St) : Option Nat → St
  | none => σ
  | some i => σ.set i none
def unρ (ρ : En) : Option Nat → En
  | none => ρ
  | some i => ρ.set i none
/-- out of a suite -/
theorem IvW.leave {o : Option Nat} {F0 : Hp} (hfx : J.fx = none) (hs : Sub J.F0 F0) (hn : ∀ b u, F0 b = some u → J.F0 b = some u ∨ J.H0 b = none) (I : IvW (J.sub F0 fx) F B O ρ τ σ H) : IvW J F B O (unρ ρ o) τ (unσ σ o) H := by
  have base : Base J F B H := ⟨I.base.fb, I.base.bh, fun b u e => I.base.f0 _ _ (hs _ _ e), fun b u e => (I.base.new b u e).elim (hn b u) .inr, I.base.keep, I.base.iot⟩
  cases o with
  | none => exact ⟨base, ⟨I.len.eq, fun i v e => by rw [hfx] at e; cases e⟩, fun i s e => (let ⟨t, v, e1, r⟩ := I.slot i s e; ⟨t, v, e1, by rw [sr_sub] at r; exact r⟩), by have t := I.temp; rw [tok_sub] at t; exact t⟩
  | some k =>
    refine ⟨base, ⟨by show (ρ.set k none).length = (σ.set k none).length; rw [List.length_set, List.length_set]; exact I.len.eq, fun i v e => by rw [hfx] at e; cases e⟩, fun i s e => ?_, by have t := I.temp; rw [tok_sub] at t; exact t⟩
    by_cases hi : k = i
    · subst hi
      have e : (ρ.set k none)[k]? = some (some s) := e
      by_cases hl : k < ρ.length
      · rw [List.getElem?_set_self hl] at e; cases e
      · rw [List.getElem?_eq_none (by simpa using hl)] at e; cases e
    · have e : (ρ.set k none)[i]? = some (some s) := e
      rw [List.getElem?_set_ne hi] at e
      obtain ⟨t, v, e1, r⟩ := I.slot i s e
      refine ⟨t, v, ?_, by rw [sr_sub] at r; exact r⟩
      show (σ.set k none)[i]? = _
      rw [List.getElem?_set_ne hi]; exact e1
def tsOf (K : PySem.W.Frag) (h : HSem) : Addr → Value → Option Addr → TS := fun a cls d D σ H => ∃ (J' : Jx) (k : Str) (fs : List (Str × Vl)), J'.K = K ∧ J'.fx = (h.o.map fun i => (i, V.ref a)) ∧ ErrR J'.K J'.F0 k fs cls d ∧ h.mt k = some true ∧ tS J' WN (h.su k fs) D σ H
/-- the clauses and their meanings -/
inductive HM (X : Cx) : List ExceptHandler → List (HSem × Value) → Prop
  | nil : HM X [] []
  | cons {x : Str} {c : Value} {h : HSem} {b₀ : Stmt} {suite : List Stmt} {np pos' : Pos} {hds : List ExceptHandler} {l : List (HSem × Value)} (hc : Names X x c) (ho : h.o = none) (hmt : ∀ k b, h.mt k = some b → PySem.W.exmOne X.K (.ref (He.ga X.K k)) c = some b)
      (hsu : ∀ (a : Addr) (oe : Obj) (d : Option Addr) (pn : List (Addr × Obj)) (J' : Jx) (k : Str) (fs : List (Str × Vl)), J'.K = X.K → J'.fx = none → L2N.Zn (.ref (He.ga X.K k)) d oe → (∃ vs, oe.data = .fields vs) → h.mt k = some true → XB (X.suite a ((a, oe) :: pn)) J' WN (b₀ :: suite) (h.su k fs))
      (r : HM X hds l) : HM X (.ExceptHandler (some (.Name x np)) none (b₀ :: suite) pos' :: hds) ((h, c) :: l)
  | as {x n : Str} {i : Nat} {c : Value} {h : HSem} {b₀ : Stmt} {suite : List Stmt} {np pos' : Pos} {hds : List ExceptHandler} {l : List (HSem × Value)} (hc : Names X x c) (hi : X.N[i]? = some n) (hln : X.env.kindOf n = some .local) (ho : h.o = some i) (hmt : ∀ k b, h.mt k = some b → PySem.W.exmOne X.K (.ref (He.ga X.K k)) c = some b)
      (hsu : ∀ (a : Addr) (oe : Obj) (d : Option Addr) (pn : List (Addr × Obj)) (J' : Jx) (k : Str) (fs : List (Str × Vl)), J'.K = X.K → J'.fx = some (i, .ref a) → ErrR J'.K J'.F0 k fs (.ref (He.ga X.K k)) d → L2N.Zn (.ref (He.ga X.K k)) d oe → (∃ vs, oe.data = .fields vs) → h.mt k = some true → XB (X.suite a ((a, oe) :: pn)) J' WN (b₀ :: suite) (h.su k fs))
      (r : HM X hds l) : HM X (.ExceptHandler (some (.Name x np)) (some n) (b₀ :: suite) pos' :: hds) ((h, c) :: l)
theorem hm_hds {hds : List ExceptHandler} {l : List (HSem × Value)} (h : HM X hds l) : HdsA X hds (l.map fun p => (p.1.o, p.2, tsOf X.K p.1)) := by
  induction h with
  | nil => exact .nil
  | cons hc ho hmt hsu r ih =>
    rw [List.map_cons, ho]
    refine .cons hc (fun a oe cls d pn hz hf => ⟨fun pins s σ H D I hts => ?_⟩) ih
    obtain ⟨J', k, fs, hK, hx, er, hm, ht⟩ := hts
    rw [ho] at hx
    obtain ⟨ec, _⟩ := id er
    rw [hK] at ec
    subst ec
    exact (hsu a oe d pn J' k fs hK hx hz hf hm).pss.run pins s σ H D I ht
  | as hc hi hln ho hmt hsu r ih =>
    rw [List.map_cons, ho]
    refine .as hc hi hln (fun a oe cls d pn hz hf => ⟨fun pins s σ H D I hts => ?_⟩) ih
    obtain ⟨J', k, fs, hK, hx, er, hm, ht⟩ := hts
    rw [ho] at hx
    obtain ⟨ec, _⟩ := id er
    rw [hK] at ec
    subst ec
    exact (hsu a oe d pn J' k fs hK hx er hz hf hm).pss.run pins s σ H D I ht
theorem hrun_ok {hds : List ExceptHandler} {l : List (HSem × Value)} {D : Ends} {c : Str} {fs : List (Str × Vl)} {cls : Value} {d : Option Addr} (hfx : J.fx = none) (hK : J.K = X.K) (h : HM X hds l) (m : OutS J W [] (hRun (l.map (·.1)) c fs ρ) D) (hx : Ix J ρ c fs σ H cls d) :
    wManyA X.K W D (l.map fun p => (p.1.o, p.2, tsOf X.K p.1)) cls d σ H := by
  obtain ⟨F, B, O, I, er⟩ := hx
  have ec : cls = .ref (He.ga X.K c) := hK ▸ er.1
  have key : ∀ {h : HSem} {u : Value}, (∀ k b, h.mt k = some b → PySem.W.exmOne X.K (.ref (He.ga X.K k)) u = some b) → ∀ {r : List HSem} {l2 : List Hdl}, (OutS J W [] (hRun r c fs ρ) D → wManyA X.K W D l2 cls d σ H) → OutS J W [] (hRun (h :: r) c fs ρ) D →
      wManyA X.K W D ((h.o, u, tsOf X.K h) :: l2) cls d σ H := fun {h u} hmt {r l2} ih m => by
    have m : OutS J W [] (match h.mt c with
      | some true => (match outS' ρ h.o with
        | some ρ1 => unR h.o (h.su c fs ρ1)
        | none => .bad)
      | some false => hRun r c fs ρ
      | none => .bad) D := m
    cases e : h.mt c with
    | none => rw [e] at m; exact m.elim
    | some b =>
      refine ⟨b, by rw [ec]; exact hmt c b e, fun hb a na => ?_, fun hb => ?_⟩
      · subst hb
        rw [e] at m
        have m : OutS J W [] (match outS' ρ h.o with
          | some ρ1 => unR h.o (h.su c fs ρ1)
          | none => .bad) D := m
        cases e2 : outS' ρ h.o with
        | none => rw [e2] at m; exact m.elim
        | some ρ1 =>
          rw [e2] at m
          have m : OutS J W [] (unR h.o (h.su c fs ρ1)) D := m
          have I1 := I.enter (a := a) e2
          refine ⟨J.sub F (h.o.map fun i => (i, V.ref a)), c, fs, hK, rfl, er, e, ρ1, [], ⟨F, B, O, I1⟩, (fun _ h => by cases h), ?_⟩
          have back : ∀ {ρ2 : En} {τ2 : List (Sv × V)} {σ2 : St} {H2 : Hp}, Iv (J.sub F (h.o.map fun i => (i, V.ref a))) ρ2 τ2 σ2 H2 → Iv J (unρ ρ2 h.o) τ2 (unσ σ2 h.o) H2 := fun ⟨F2, B2, O2, I2⟩ =>
            ⟨F2, B2, O2, I2.leave hfx I.base.f0 I.base.new⟩
          have back0 : ∀ {ρ2 : En} {τ2 : List (Sv × V)} {σ2 : St} {H2 : Hp}, Iv (J.sub F (h.o.map fun i => (i, V.ref a))) ρ2 τ2 σ2 H2 → Iv J ρ2 τ2 σ2 H2 := fun ⟨F2, B2, O2, I2⟩ =>
            ⟨F2, B2, O2, I2.leave (o := none) hfx I.base.f0 I.base.new⟩
          revert m back back0
          cases h.o with
          | none =>
            intro m back back0
            cases e3 : h.su c fs ρ1 with
            | next ρ2 => rw [e3] at m; exact fun σ2 H2 I2 => m _ _ (back I2)
            | brk ρ2 => rw [e3] at m; exact fun σ2 H2 I2 => m _ _ (back I2)
            | cont ρ2 => rw [e3] at m; exact fun σ2 H2 I2 => m _ _ (back I2)
            | ret s ρ2 => rw [e3] at m; exact fun v σ2 H2 I2 => m v _ _ (back0 I2)
            | exc c2 fs2 ρ2 => rw [e3] at m; exact m.elim
            | bad => rw [e3] at m; exact m.elim
          | some k =>
            intro m back back0
            cases e3 : h.su c fs ρ1 with
            | next ρ2 => rw [e3] at m; exact fun σ2 H2 I2 => m _ _ (back I2)
            | brk ρ2 => rw [e3] at m; exact fun σ2 H2 I2 => m _ _ (back I2)
            | cont ρ2 => rw [e3] at m; exact fun σ2 H2 I2 => m _ _ (back I2)
            | ret s ρ2 => rw [e3] at m; exact fun v σ2 H2 I2 => m v _ _ (back0 I2)
            | exc c2 fs2 ρ2 => rw [e3] at m; exact m.elim
            | bad => rw [e3] at m; exact m.elim
      · subst hb
        rw [e] at m
        exact ih m
  induction h with
  | nil => exact m cls d σ H ⟨F, B, O, I, er⟩
  | cons hc ho hmt hsu r ih => exact key hmt ih m
  | as hc hi hln ho hmt hsu r ih => exact key hmt ih m
theorem _root_.L2.PS.imp0 {X : Cx} {st : Stmt} {t t' : TS} (h : PS X st t) (i : ∀ D σ H, t' D σ H → t D σ H) : PS X st t' := ⟨fun pins s σ H D I q => h.run pins s σ H D I (i D σ H q)⟩
theorem xs0_try {body : List Stmt} {h₀ : ExceptHandler} {hds : List ExceptHandler} {l : List (HSem × Value)} {pos : Pos} {f : SemS} (hs : X.stack = X.env :: X.outer) (hf : X.env.frame = some X.env.locals) (hN : X.N.Nodup) (tk : Takes X W) (hfx : J.fx = none) (hK : J.K = X.K)
    (hb : ∀ (W' : WX) (pn : List (Addr × Obj)) (xe : Value → Shared → Prop), Takes (X.tr pn xe) W' → PassesOwn (model X.prog X.w) X.A X.env xe → XB (X.tr pn xe) J W' body f) (hh : HM X (h₀ :: hds) l) :
    XS0 X J W (.Try body (h₀ :: hds) [] [] pos) (sTry f (l.map (·.1))) := by
  refine ⟨(ps_try_all (tb := fun W' => tS J W' f) hs hf hN tk (fun W' pn xe tk' po => (hb W' pn xe tk' po).pss) (hm_hds hh)).imp0 fun D σ H h => ?_⟩
  obtain ⟨ρ, I, m⟩ := h
  refine ⟨ρ, [], I, (fun _ h => by cases h), ?_⟩
  unfold sTry at m
  cases e : f ρ with
  | exc c fs ρ1 =>
    rw [e] at m
    exact fun cls d σ1 H1 hx => hrun_ok hfx hK hh m hx
  | next ρ1 => rw [e] at m; exact m
  | brk ρ1 => rw [e] at m; exact m
  | cont ρ1 => rw [e] at m; exact m
  | ret s ρ1 => rw [e] at m; exact m
  | bad => rw [e] at m; exact m
theorem XS.to0 {st : Stmt} {f : SemS} (h : XS X J W st f) : XS0 X J W st f := ⟨h.ps.imp0 fun D σ H ⟨ρ, I, m⟩ => ⟨ρ, [], I, (fun _ h => by cases h), m⟩⟩
variable {st : Stmt} {sts body orelse : List Stmt} {f g : SemS} {c e : Expr} {gc : SemB} {pos : Pos} {qc : Bool}
theorem XB.to0 (h : XB X J W sts f) : XB0 X J W sts f := ⟨h.pss.imp fun σ H D ⟨ρ, I, m⟩ => ⟨ρ, [], I, (fun _ h => by cases h), m⟩⟩
theorem xb0_cons (h1 : XS0 X J W st f) (h2 : XB0 X J W sts g) : XB0 X J W (st :: sts) (sSeq f g) := by
  refine ⟨(pss_cons h1.ps h2.pss).imp fun σ H D h => ?_⟩
  obtain ⟨ρ, I, m⟩ := h
  refine ⟨ρ, I, ?_⟩
  unfold sSeq at m
  cases e : f ρ with
  | next ρ1 => rw [e] at m; exact fun σ1 H1 I1 => ⟨ρ1, I1, m⟩
  | brk ρ1 => rw [e] at m; exact m
  | cont ρ1 => rw [e] at m; exact m
  | ret s ρ1 => rw [e] at m; exact m
  | exc cc fs ρ1 => rw [e] at m; exact m
  | bad => rw [e] at m; exact m
theorem xb0_one (h1 : XS0 X J W st f) : XB0 X J W [st] f := ⟨pss_one h1.ps⟩
theorem xs0_if (hc : XT X J W c qc gc) (hf : XB0 X J W body f) (hg : XB0 X J W orelse g) : XS0 X J W (.If c body orelse pos) (sIf gc f g) := by
  refine ⟨(ps_if hc.pt hf.pss hg.pss).imp0 fun D σ H h => ?_⟩
  obtain ⟨ρ, I, m⟩ := h
  refine ⟨ρ, [], I, .inr (fun _ h => by cases h), outS_bndB m fun x ρ1 m1 H1 I1 => ?_⟩
  cases x with
  | true => rw [if_pos rfl]; exact ⟨ρ1, I1, m1⟩
  | false => rw [if_neg Bool.false_ne_true]; exact ⟨ρ1, I1, m1⟩
end
/-- a def by its body's meaning -/
theorem fn_mv0 {P : Program} {w : World} {K : PySem.W.Frag} {mg : Str → Option Value} {base : Heap} {x qual : Str} {params : Arguments} {body : List Stmt} {scope : Scope} {dvs : List V} {kws : List (Str × V)} {f : Addr} {fd : FuncData} {N ps : List Str} {k : Nat} {pm : List PM} {rm : Bool} {bd : SemS}
    (F : FunD K x qual params body scope dvs kws f fd) (S : FnScope N ps scope) (hp : pm.length = ps.length)
    (hb : ∀ (cdv : Value) (A : Around) (outer : List Env) (s : Shared) (H : Hp) (E : XK) (J : Jx), J.K = K → J.fx = none → Room k (A.deeper (envOfC qual scope s.heap.objs.size f cdv)) →
      XB0 (cxOf (L2N.CX P w) P w K mg base N qual scope f cdv A outer s H E) J (fun cls d _ H => E cls d H) body bd) :
    FnOk P w K mg base (L2N.CX P w) (k + 1) f fd ps (spF K pm rm (runB pm rm N.length bd)) := by
  have hpl : ps.length ≤ N.length := by have := congrArg List.length S.pre; rw [List.length_take] at this; omega
  refine F.ok S (fun vs H Q E h => ?_) fun cdv A outer s H vs Q E hr h => ?_
  · obtain ⟨F0, ios, ds, _, _, a, _⟩ := h
    rw [(a.len 0).2.1, hp]
  · obtain ⟨F0, ios, ds, hF, nd, a, m⟩ := h
    exact ⟨_, (hb cdv A outer s H E ⟨K, H, F0, (ioIx pm 0).zip ios, none⟩ rfl rfl hr).pss, initE pm ds N.length, entry (by rw [hp]; exact hpl) hF nd a (argsR_io a), body_ends (a.len 0).2.2 m⟩
/-! ### in a suite: what the caught exception says -/
section
variable {X : Cx} {J : Jx} {W : WX} {i : Nat} {a : Addr} {oe : Obj} {d : Option Addr} {pn : List (Addr × Obj)} {k n : Str} {fs : List (Str × Vl)} {p pos : Pos}
theorem fx_at {F B H : Hp} {O : Addr → Option Ow} {ρ : En} {τ : List (Sv × V)} {σ : St} (hx : J.fx = some (i, .ref a)) (I : IvW J F B O ρ τ σ H) : σ[i]? = some (some (.ref a)) := I.len.fx i _ hx
/-- e.f -/
def fXf (fs : List (Str × Vl)) (f : Str) : Sem1 := fun ρ => match fs.lookup f with
  | some d => .ok ⟨.shr, d⟩ ρ
  | none => .bad
theorem xe_xf {f : Str} (hK : J.K = X.K) (hx : J.fx = some (i, .ref a)) (er : ErrR J.K J.F0 k fs (.ref (He.ga X.K k)) d) (hz : L2N.Zn (.ref (He.ga X.K k)) d oe) (hf : ∃ vs, oe.data = .fields vs) (T : XfC X.K (He.ga X.K k)) (hno : PySem.W.findIn X.K (.ref (He.ga X.K k)) f = some none)
    (hN : X.N[i]? = some n) (hv : Vis X.env.scope n) (hd : (n == ("__debug__" : Str)) = false := by decide) (hcd : (n == ("__classdict__" : Str)) = false := by decide)
    (hb : attributeBase (.Name n p) f X.env (eval (.Name n p) X.env) = eval (.Name n p) X.env := by rfl) : XE (X.suite a ((a, oe) :: pn)) J W (.Attribute (.Name n p) f pos) true (fXf fs f) := by
  refine ⟨(pe_xf T hno hz.zc hf (pe_var (X := X.suite a ((a, oe) :: pn)) hN hv hd hcd) hb).imp ?_⟩
  rintro σ H Q ⟨ρ, τ, ⟨F, B, O, I⟩, _, m⟩
  refine ⟨_, fx_at hx I, rfl, rfl, ?_⟩
  unfold fXf at m
  cases e : fs.lookup f with
  | none => rw [e] at m; exact m.elim
  | some x =>
    rw [e] at m
    obtain ⟨_, ⟨e1, _⟩ | ⟨dd, ws, e1, e2, e3⟩⟩ := er
    · rw [e1] at e; cases e
    · obtain ⟨v, e4, r⟩ := e3 f x e
      have g := I.base.f0 _ _ e2
      exact ⟨dd, ws, v, e1, I.base.bh _ _ (I.base.fb _ _ g), e4, m v H (I.push (s := ⟨.shr, x⟩) (Rep.mono I.base.f0 r))⟩
end
end MV
namespace PySem.W
open PySem PySem.Spec PySem.Calls PyProof.Rows
section
variable {prog : Program} {w : World} {A : Around} {E : Value → Shared → Prop} {s : Shared} {K : Frag} {x D : Addr} {ox od : Obj}
/-- e.__class__, e an own exception with a dict -/
theorem mv_kin_class {Q : Option Value → Shared → Prop} (hga : findIn K (.ref D) "__getattribute__" = some (some (.builtin "BaseException.__getattribute__"))) (hgt : findIn K (.ref D) "__getattr__" = some none) (hsub : subIn K (.ref D) (.type "BaseException") = some true)
    (hdct : hasDictIn K D = true) (ha : findIn K (.ref D) "__class__" = some (some (.builtin "object.__class__")))
    (hn : specialIn K (.builtin "object.__class__") "__get__" = some (some (.builtin "getset_descriptor.__get__"))) (htk : takesIn K (.builtin "object.__class__") = some true) (hm : mroIn K D (.type "object") = some true)
    (X : K.In s.heap) (I : InstAt s.heap x ox D (some od)) (h : Q (some (.ref D)) { s with toks := s.toks + 1 }) : wpAny (model prog w) A (getAttr? (.ref x) "__class__") Q E s := by
  have hf : findObj K D (some od) "__class__" = some (.bind (.builtin "getset_descriptor.__get__") (.builtin "object.__class__")) := findObj_data (by obtain ⟨cd, hc, _⟩ := any_some hdct; rw [hc]; rfl) ha hn htk
  obtain ⟨hp, g, d, t, os⟩ := s
  have L0 := I.type (M := model prog w)
  have L1 := looks_findIn (M := model prog w) X hga
  have L2 := looks_findIn (M := model prog w) X hgt
  have L3 := looks_find (M := model prog w) X I hf
  have sub : Looks (model prog w) hp (isInstance (.ref x) (.type "BaseException")) true := L0.andThen (looks_subIn X hsub)
  have n0 : (false && onTheHeap (Value.builtin "BaseException.__getattribute__")) = false := rfl
  have n2 : (Value.builtin "BaseException.__getattribute__" == Value.builtin "object.__getattribute__") = false := by decide +kernel
  have n1 : (onTheHeap (Value.ref D) && Value.builtin "BaseException.__getattribute__" == Value.builtin "object.__getattribute__") = false := by rw [n2]; rfl
  unfold getAttr? getAttrBy? getAttrBy
  refine wpAny_bind (wpAny_mkText (wpAny_bind (wpAny_attempt (wpAny_holding (wpAny_bind (L0.at (wpAny_bind (L1.at ?_))))))))
  show wpAny _ _ (if (onTheHeap (Value.ref D) && Value.builtin "BaseException.__getattribute__" == Value.builtin "object.__getattribute__") = true then _ else _) _ _ _
  rw [n1, if_neg Bool.false_ne_true]
  unfold getAttrByItsOwn hookBefore
  refine wpAny_bind ?_
  rw [if_pos (show onTheHeap (Value.ref D) = true from rfl)]
  refine L2.at ?_
  refine wpAny_bind (wpAny_attempt (wpAny_holding ?_))
  unfold callGetattribute
  rw [n0, if_neg Bool.false_ne_true]
  unfold boundAndCalled
  rw [PySem.F.excAttr_ValueError.ga.bind (.ref x)]
  refine wpAny_bind (wpAny_pure ?_)
  show wpAny _ _ (call (.builtin "BaseException.__getattribute__") [.ref x, .str "__class__" t]) _ _ _
  refine wpAny_call (codeAny_call_builtin PySem.F.excAttr_ValueError.ga.plain PySem.F.entry_bexc_ga ?_)
  refine @check_slot (model prog w) _ _ ⟨hp, g, d, t + 1, os⟩ "BaseException.__getattribute__" "BaseException" "__getattribute__" (.ref x) [.str "__class__" t] [] _ (by decide +kernel) (by decide +kernel) sub (PySem.F.args_bexc_ga (.ref x) (.str "__class__" t)) ?_
  unfold Builtin.«object.__getattribute__»
  refine wpAny_bind (wpAny_of_eq (a := ((Value.ref x : Value), [Value.str "__class__" t])) (by first | rfl | (simp only [slotArgs]; rfl)) ?_)
  refine wpAny_bind (wpAny_pure (wpAny_bind (L0.at (wpAny_bind (L3.at ?_)))))
  show wpAny _ _ (holding [Value.builtin "object.__class__"] (call (.builtin "getset_descriptor.__get__") [.builtin "object.__class__", .ref x, .ref D]) >>= ret) _ _ _
  refine wpAny_bind (wpAny_holding (wpAny_call (class_get (s := ⟨hp, g, d, t + 1, os⟩) (ox := ox) (od := some od) X I hm ?_)))
  refine wpAny_pure ?_
  show wpAny _ _ (handedOut (.ref D)) _ _ _
  rw [handedOut_of (v := .ref D) rfl]
  first
    | exact wpAny_pure (wpAny_pure h)
    | exact wpAny_pure h
    | exact wpAny_pure (wpAny_bind (wpAny_pure (wpAny_pure h)))
theorem mv_kit_exc (hga : findIn K (.ref D) "__getattribute__" = some (some (.builtin "BaseException.__getattribute__"))) (hgt : findIn K (.ref D) "__getattr__" = some none) (hsub : subIn K (.ref D) (.type "BaseException") = some true) (hdct : hasDictIn K D = true) (ha : findIn K (.ref D) "__class__" = some (some (.builtin "object.__class__")))
    (hn : specialIn K (.builtin "object.__class__") "__get__" = some (some (.builtin "getset_descriptor.__get__"))) (htk : takesIn K (.builtin "object.__class__") = some true) (hm : mroIn K D (.type "object") = some true) :
    KitX K (.ref x) (.ref D) (fun h => InstAt h x ox D (some od)) where
  ty := fun _ _ _ I => I.type
  it := fun _ _ X _ => by
    obtain ⟨cdD, hcD, _⟩ := any_some hdct
    unfold clsIn at hcD
    split at hcD
    · rename_i c' d' cd' sl' ho
      intro A' Q' E' s' k q
      unfold isType loadHead
      exact wpAny_bind (wpAny_loadPart (k _ _ (X _ _ ho)) (wpAny_pure q))
    · cases hcD
  ne := fun h tp dd its n sl X htp => by
    obtain ⟨cdD, hcD, _⟩ := any_some hdct
    refine Bool.eq_false_iff.mpr fun q => ?_
    have e : D = tp := Value.ref.inj (beq_iff_eq.mp q)
    subst e
    unfold clsIn at hcD
    split at hcD
    · rename_i c' d' cd' sl' ho
      have z := (X _ _ ho).symm.trans htp
      cases z
    · cases hcD
  ca := fun X I k => mv_kin_class hga hgt hsub hdct ha hn htk hm X I k
end
end PySem.W
namespace MV
open PySem PySem.Spec PyProof.Rows L2
/-! ### isinstance -/
section
variable {X : Cx} {J : Jx} {W : WX} {e a b c tg iter elt : Expr} {es : List Expr} {q qa : Bool} {fa : Sem1} {pos p : Pos} {τ : List (Sv × V)} {σ : St} {H : Hp} {ρ : En}
/-- a built-in type by its name -/
theorem pe_tyN {x : Str} {T : String} (hg : Gl X x) (hm : X.mg x = none) (hv : bootBuiltins x = some (.type T)) (hn : x ≠ "__name__" := by decide) (hdb : (x == ("__debug__" : Str)) = false := by decide) : PE X (.Name x p) (tC (.ty T)) :=
  ⟨fun pins s σ H Q I h => ld_blt I hg hm hv ⟨.ty T, H, I, rfl, h⟩ hn hdb⟩
/-- an own class by its name -/
theorem pe_ownN {x : Str} {C : Addr} (hg : Gl X x) (hm : X.mg x = some (.ref C)) (hdb : (x == ("__debug__" : Str)) = false := by decide) : PE X (.Name x p) (tC (.ref C)) := pe_glob hg hm rfl hdb
/-- what g says of isinstance(·, u) is so -/
def IsOk (K : PySem.W.Frag) (u : Value) (g : Vl → Option Bool) : Prop := ∀ (H : Hp) (d : Vl) (v : V) (b : Bool), Rep K H d v → g d = some b → ∃ t, TyX K H v t ∧ PySem.W.kitOne K t u = some b
def kIsi (g : Vl → Option Bool) : K1 := fun s ρ => match g s.d with
  | some b => .ok ⟨.shr, .bl b⟩ ρ
  | none => .bad
theorem xe_isi {cv : V} {u : Value} {g : Vl → Option Bool} (hk : J.K = X.K) (hi : IsOk X.K u g) (hcv : ClsV cv u) (hg : Gl X "isinstance") (hm : X.mg "isinstance" = none) (hv : bootBuiltins "isinstance" = some (.builtin "isinstance")) (ha : XE X J W a qa fa) (hc : PE X c (tC cv))
    (he : starEach [a, c] X.env = (false, eval a X.env) :: starEach [c] X.env := by rfl) (he2 : starEach [c] X.env = (false, eval c X.env) :: starEach [] X.env := by rfl) (hpl : (backTo pos (starEach [c] X.env)).any (·.1) = false := by rfl) :
    XE X J W (.Call (.Name "isinstance" p) [a, c] [] pos) qa (fOne fa (kIsi g)) := by
  refine ⟨(pe_callB call_isi hg hm hv (pa_cons ha.pe (pa_cons hc pa_nil he2) he) (by decide) (by decide) he hpl).imp fun σ H Q h => tE_one (fun _ _ _ _ _ I _ _ _ o h => o _ _ _ _ _ _ _ I h) (r := fun v H Q => rIsi X.K [v, cv] H Q) ?_ h⟩
  rintro ρ τ σ H s v Q ⟨F, B, O, I⟩ m
  unfold kIsi at m
  cases e : g s.d with
  | none => rw [e] at m; exact m.elim
  | some b =>
    rw [e] at m
    obtain ⟨t, h1, h2⟩ := hi H s.d v b (hk ▸ I.top.rep I.base) e
    exact ⟨v, cv, t, u, b, rfl, hcv, h1, h2, m _ _ (I.drop1.pushSc (d := .bl b) rfl rfl)⟩
def isInt : Vl → Option Bool
  | .int _ => some true
  | .bl _ => some true
  | .ins _ _ => none
  | .scr _ => none
  | _ => some false
def isBl : Vl → Option Bool
  | .bl _ => some true
  | .ins _ _ => none
  | .scr _ => none
  | _ => some false
def isStr : Vl → Option Bool
  | .str _ => some true
  | .ins _ _ => none
  | .scr _ => none
  | _ => some false
def isLst : Vl → Option Bool
  | .lst _ => some true
  | .ins _ _ => none
  | .scr _ => none
  | _ => some false
def isTup : Vl → Option Bool
  | .tup _ => some true
  | .ins _ _ => none
  | .scr _ => none
  | _ => some false
theorem isOk_int {K : PySem.W.Frag} : IsOk K (.type "int") isInt := fun H d v b r e => by
  cases d with
  | non => cases e; cases (show v = .non from r); exact ⟨_, .base .non, kit_ty (by decide +kernel)⟩
  | bl x => cases e; cases (show v = .bl x from r); exact ⟨_, .base (.bl x), kit_ty (by decide +kernel)⟩
  | int x => cases e; cases (show v = .int x from r); exact ⟨_, .base (.int x), kit_ty (by decide +kernel)⟩
  | str x => cases e; cases (show v = .str x from r); exact ⟨_, .base (.str x), kit_ty (by decide +kernel)⟩
  | lst xs => cases e; obtain ⟨a, vs, rfl, g, _⟩ := r; exact ⟨_, .base (.lst g), kit_ty (by decide +kernel)⟩
  | tup xs => cases e; obtain ⟨a, vs, rfl, g, _⟩ := r; exact ⟨_, .base (.tup g), kit_ty (by decide +kernel)⟩
  | ins c fs => cases e
  | scr ns => cases e
theorem isOk_bl {K : PySem.W.Frag} : IsOk K (.type "bool") isBl := fun H d v b r e => by
  cases d with
  | non => cases e; cases (show v = .non from r); exact ⟨_, .base .non, kit_ty (by decide +kernel)⟩
  | bl x => cases e; cases (show v = .bl x from r); exact ⟨_, .base (.bl x), kit_ty (by decide +kernel)⟩
  | int x => cases e; cases (show v = .int x from r); exact ⟨_, .base (.int x), kit_ty (by decide +kernel)⟩
  | str x => cases e; cases (show v = .str x from r); exact ⟨_, .base (.str x), kit_ty (by decide +kernel)⟩
  | lst xs => cases e; obtain ⟨a, vs, rfl, g, _⟩ := r; exact ⟨_, .base (.lst g), kit_ty (by decide +kernel)⟩
  | tup xs => cases e; obtain ⟨a, vs, rfl, g, _⟩ := r; exact ⟨_, .base (.tup g), kit_ty (by decide +kernel)⟩
  | ins c fs => cases e
  | scr ns => cases e
theorem isOk_str {K : PySem.W.Frag} : IsOk K (.type "str") isStr := fun H d v b r e => by
  cases d with
  | non => cases e; cases (show v = .non from r); exact ⟨_, .base .non, kit_ty (by decide +kernel)⟩
  | bl x => cases e; cases (show v = .bl x from r); exact ⟨_, .base (.bl x), kit_ty (by decide +kernel)⟩
  | int x => cases e; cases (show v = .int x from r); exact ⟨_, .base (.int x), kit_ty (by decide +kernel)⟩
  | str x => cases e; cases (show v = .str x from r); exact ⟨_, .base (.str x), kit_ty (by decide +kernel)⟩
  | lst xs => cases e; obtain ⟨a, vs, rfl, g, _⟩ := r; exact ⟨_, .base (.lst g), kit_ty (by decide +kernel)⟩
  | tup xs => cases e; obtain ⟨a, vs, rfl, g, _⟩ := r; exact ⟨_, .base (.tup g), kit_ty (by decide +kernel)⟩
  | ins c fs => cases e
  | scr ns => cases e
theorem isOk_lst {K : PySem.W.Frag} : IsOk K (.type "list") isLst := fun H d v b r e => by
  cases d with
  | non => cases e; cases (show v = .non from r); exact ⟨_, .base .non, kit_ty (by decide +kernel)⟩
  | bl x => cases e; cases (show v = .bl x from r); exact ⟨_, .base (.bl x), kit_ty (by decide +kernel)⟩
  | int x => cases e; cases (show v = .int x from r); exact ⟨_, .base (.int x), kit_ty (by decide +kernel)⟩
  | str x => cases e; cases (show v = .str x from r); exact ⟨_, .base (.str x), kit_ty (by decide +kernel)⟩
  | lst xs => cases e; obtain ⟨a, vs, rfl, g, _⟩ := r; exact ⟨_, .base (.lst g), kit_ty (by decide +kernel)⟩
  | tup xs => cases e; obtain ⟨a, vs, rfl, g, _⟩ := r; exact ⟨_, .base (.tup g), kit_ty (by decide +kernel)⟩
  | ins c fs => cases e
  | scr ns => cases e
theorem isOk_tup {K : PySem.W.Frag} : IsOk K (.type "tuple") isTup := fun H d v b r e => by
  cases d with
  | non => cases e; cases (show v = .non from r); exact ⟨_, .base .non, kit_ty (by decide +kernel)⟩
  | bl x => cases e; cases (show v = .bl x from r); exact ⟨_, .base (.bl x), kit_ty (by decide +kernel)⟩
  | int x => cases e; cases (show v = .int x from r); exact ⟨_, .base (.int x), kit_ty (by decide +kernel)⟩
  | str x => cases e; cases (show v = .str x from r); exact ⟨_, .base (.str x), kit_ty (by decide +kernel)⟩
  | lst xs => cases e; obtain ⟨a, vs, rfl, g, _⟩ := r; exact ⟨_, .base (.lst g), kit_ty (by decide +kernel)⟩
  | tup xs => cases e; obtain ⟨a, vs, rfl, g, _⟩ := r; exact ⟨_, .base (.tup g), kit_ty (by decide +kernel)⟩
  | ins c fs => cases e
  | scr ns => cases e
end
/-! ### isinstance of a caught error -/
section
variable {X : Cx} {J : Jx} {W : WX} {i : Nat} {a D : Addr} {oe : Obj} {d : Option Addr} {pn : List (Addr × Obj)} {k n : Str} {fs : List (Str × Vl)} {p p2 pos : Pos} {c : Expr} {es : List Expr}
def fIsX (b : Bool) : Sem1 := fun ρ => .ok ⟨.shr, .bl b⟩ ρ
theorem exc_at (hz : L2N.Zn (.ref D) d oe) (hf : ∃ vs, oe.data = .fields vs) {pins : List (Addr × Obj)} {σ : St} {H : Hp} {s : Shared} (I : Inv (X.suite a ((a, oe) :: pn)) pins σ H s) (hd : d = none ∨ ∃ dd ws, d = some dd ∧ H dd = some (.xd ws)) : ∃ od, PySem.W.InstAt s.heap a oe D od := by
  obtain ⟨hget, _⟩ := I.pin (a, oe) (List.mem_append.mpr (.inl List.mem_cons_self))
  obtain ⟨vs, hv⟩ := hf
  rcases hd with hd | ⟨dd, ws, hd, g⟩
  · subst hd
    exact ⟨none, hget, hz.1, by unfold PySem.W.notCls; rw [hv] <;> rfl, by rw [hz.2.1]; exact trivial⟩
  · subst hd
    obtain ⟨mA, hns, hr⟩ := (show ObjOk X.prog X.w H s.heap dd (.xd ws) from I.hok dd _ g)
    obtain ⟨od, ho, hl⟩ := lookIn_ns hns
    exact ⟨some od, hget, hz.1, by unfold PySem.W.notCls; rw [hv] <;> rfl, by rw [hz.2.1]; exact ho⟩
theorem exc_kit {K : PySem.W.Frag} {od : Option Obj} (C : ExcC K D) : PySem.W.KitX K (.ref a) (.ref D) (fun h => PySem.W.InstAt h a oe D od) := by
  cases od with
  | none => exact PySem.W.handS_kitx_exc C.hg C.hk C.hs C.hd C.ha C.hn C.ht C.hm
  | some od => exact PySem.W.mv_kit_exc C.hg C.hk C.hs C.hd C.ha C.hn C.ht C.hm
def rXI (K : PySem.W.Frag) (D a : Addr) (d : Option Addr) : List V → Hp → VK → Prop := fun xs H Q => ∃ (c : V) (cv : Value) (b : Bool), xs = [.ref a, c] ∧ (d = none ∨ ∃ dd ws, d = some dd ∧ H dd = some (.xd ws)) ∧ ClsV c cv ∧ PySem.W.kitOne K (.ref D) cv = some b ∧ Q (.bl b) H
theorem call_xi (C : ExcC X.K D) (hz : L2N.Zn (.ref D) d oe) (hf : ∃ vs, oe.data = .fields vs) : CallR (X.suite a ((a, oe) :: pn)) (.builtin "isinstance") (rXI X.K D a d) := by
  intro pins s σ H xs us Q I r h
  obtain ⟨c, cv, b, rfl, hd, hcv, e, q⟩ := h
  obtain ⟨u1, u2, rfl, r1, r2⟩ := vals2 r
  cases (show u1 = Value.ref a from r1)
  have ec := hcv.eq r2
  subst ec
  obtain ⟨od, J⟩ := exc_at hz hf I hd
  exact PySem.W.kia_one (exc_kit C) I.kIn J e (fun z => nomatch z) fun tk => ⟨.bl b, H, I.kept (t' := tk) fun _ _ z => z, rfl, q⟩
def rXT (K : PySem.W.Frag) (D a : Addr) (d : Option Addr) : List V → Hp → VK → Prop := fun xs H Q => ∃ (tp : Addr) (cs : List V) (us : List Value) (b : Bool), xs = [.ref a, .ref tp] ∧ (d = none ∨ ∃ dd ws, d = some dd ∧ H dd = some (.xd ws)) ∧ H tp = some (.tup cs) ∧ Paired ClsV cs us ∧ PySem.W.kitAny K (.ref D) us = some b ∧ Q (.bl b) H
theorem call_xt (C : ExcC X.K D) (hz : L2N.Zn (.ref D) d oe) (hf : ∃ vs, oe.data = .fields vs) : CallR (X.suite a ((a, oe) :: pn)) (.builtin "isinstance") (rXT X.K D a d) := by
  intro pins s σ H xs us Q I r h
  obtain ⟨tp, cs, ws, b, rfl, hd, hT, k, e, q⟩ := h
  obtain ⟨u1, u2, rfl, r1, r2⟩ := vals2 r
  cases (show u1 = Value.ref a from r1)
  cases (show u2 = Value.ref tp from r2)
  obtain ⟨od, J⟩ := exc_at hz hf I hd
  obtain ⟨_, its, rv, o, h1, h2, n, h3⟩ := (show ObjOk X.prog X.w H s.heap tp (.tup cs) from I.hok tp _ hT)
  have e3 := ClsV.all k rv
  subst e3
  obtain ⟨oc, od', dt, sl⟩ := o
  simp only at h2 h3
  subst h2 h3
  exact PySem.W.kia_tup (exc_kit C) I.kIn J h1 e (fun z => nomatch z) fun tk => ⟨.bl b, H, I.kept (t' := tk) fun _ _ z => z, rfl, q⟩
theorem err_dict {F : Hp} {K : PySem.W.Frag} {cls : Value} (er : ErrR K F k fs cls d) : d = none ∨ ∃ dd ws, d = some dd ∧ F dd = some (.xd ws) := by
  obtain ⟨_, ⟨_, e⟩ | ⟨dd, ws, e1, e2, _⟩⟩ := er
  · exact .inl e
  · exact .inr ⟨dd, ws, e1, e2⟩
/-- isinstance(e, C) -/
theorem xe_isx {cv : V} {u : Value} {b : Bool} (hx : J.fx = some (i, .ref a)) (hK : J.K = X.K) (er : ErrR J.K J.F0 k fs (.ref (He.ga X.K k)) d) (hz : L2N.Zn (.ref (He.ga X.K k)) d oe) (hf : ∃ vs, oe.data = .fields vs) (C : ExcC X.K (He.ga X.K k)) (hcv : ClsV cv u) (hb : PySem.W.kitOne X.K (.ref (He.ga X.K k)) u = some b)
    (hg : Gl X "isinstance") (hm : X.mg "isinstance" = none) (hv : bootBuiltins "isinstance" = some (.builtin "isinstance")) (hN : X.N[i]? = some n) (hvis : Vis X.env.scope n) (hc : PE (X.suite a ((a, oe) :: pn)) c (tC cv))
    (hd : (n == ("__debug__" : Str)) = false := by decide) (hcd : (n == ("__classdict__" : Str)) = false := by decide)
    (he : starEach [.Name n p2, c] X.env = (false, eval (.Name n p2) X.env) :: starEach [c] X.env := by rfl) (he2 : starEach [c] X.env = (false, eval c X.env) :: starEach [] X.env := by rfl) (hpl : (backTo pos (starEach [c] X.env)).any (·.1) = false := by rfl) :
    XE (X.suite a ((a, oe) :: pn)) J W (.Call (.Name "isinstance" p) [.Name n p2, c] [] pos) true (fIsX b) := by
  refine ⟨(pe_callB (X := X.suite a ((a, oe) :: pn)) (call_xi C hz hf) hg hm hv (pa_cons (pe_var (X := X.suite a ((a, oe) :: pn)) hN hvis hd hcd) (pa_cons hc pa_nil he2) he) (by decide) (by decide) he hpl).imp ?_⟩
  rintro σ H Q ⟨ρ, τ, ⟨F, B, O, I⟩, _, m⟩
  refine ⟨_, fx_at hx I, cv, u, b, rfl, ?_, hcv, hb, m _ H (I.push (s := ⟨.shr, .bl b⟩) rfl)⟩
  rcases err_dict er with h | ⟨dd, ws, h1, h2⟩
  · exact .inl h
  · exact .inr ⟨dd, ws, h1, I.base.bh _ _ (I.base.fb _ _ (I.base.f0 _ _ h2))⟩
/-- the classes of a tuple display -/
inductive PCs (X : Cx) : List Expr → List V → List Value → Prop
  | nil : PCs X [] [] []
  | cons {e : Expr} {es : List Expr} {v : V} {vs : List V} {u : Value} {us : List Value} (h : PE X e (tC v)) (k : ClsV v u) (r : PCs X es vs us) (hs : starEach (e :: es) X.env = (false, eval e X.env) :: starEach es X.env := by rfl) : PCs X (e :: es) (v :: vs) (u :: us)
theorem pcs_pa {X : Cx} {es : List Expr} {vs : List V} {us : List Value} (h : PCs X es vs us) : PA X es (fun σ H Q => Q vs H) ∧ Paired ClsV vs us := by
  induction h with
  | nil => exact ⟨pa_nil, .nil⟩
  | cons h k r hs ih => exact ⟨(pa_cons h ih.1 hs).imp fun σ H Q q => q, .cons k ih.2⟩
/-- isinstance(e, (C, ..)) -/
theorem xe_isxT {vs : List V} {us : List Value} {b : Bool} {k1} {p3 : Pos} (hx : J.fx = some (i, .ref a)) (hK : J.K = X.K) (er : ErrR J.K J.F0 k fs (.ref (He.ga X.K k)) d) (hz : L2N.Zn (.ref (He.ga X.K k)) d oe) (hf : ∃ vs, oe.data = .fields vs) (C : ExcC X.K (He.ga X.K k)) (hl : vs.length ≤ 1000) (hb : PySem.W.kitAny X.K (.ref (He.ga X.K k)) us = some b)
    (hg : Gl X "isinstance") (hm : X.mg "isinstance" = none) (hv : bootBuiltins "isinstance" = some (.builtin "isinstance")) (hN : X.N[i]? = some n) (hvis : Vis X.env.scope n) (hc : PCs (X.suite a ((a, oe) :: pn)) es vs us)
    (hd : (n == ("__debug__" : Str)) = false := by decide) (hcd : (n == ("__classdict__" : Str)) = false := by decide)
    (he : starEach [.Name n p2, .Tuple es k1 p3] X.env = (false, eval (.Name n p2) X.env) :: starEach [.Tuple es k1 p3] X.env := by rfl) (he2 : starEach [.Tuple es k1 p3] X.env = (false, eval (.Tuple es k1 p3) X.env) :: starEach [] X.env := by rfl) (hpl : (backTo pos (starEach [.Tuple es k1 p3] X.env)).any (·.1) = false := by rfl) :
    XE (X.suite a ((a, oe) :: pn)) J W (.Call (.Name "isinstance" p) [.Name n p2, .Tuple es k1 p3] [] pos) true (fIsX b) := by
  obtain ⟨h1, h2⟩ := pcs_pa hc
  refine ⟨(pe_callB (X := X.suite a ((a, oe) :: pn)) (call_xt C hz hf) hg hm hv (pa_cons (pe_var (X := X.suite a ((a, oe) :: pn)) hN hvis hd hcd) (pa_cons (pe_tup h1) pa_nil he2) he) (by decide) (by decide) he hpl).imp ?_⟩
  rintro σ H Q ⟨ρ, τ, ⟨F, B, O, I⟩, _, m⟩
  refine ⟨_, fx_at hx I, thousand hl, fun tp np => ?_⟩
  have I2 := I.addF (o := .tup vs) np
  refine ⟨tp, vs, us, b, rfl, ?_, upd_same, h2, hb, m _ _ (I2.push (s := ⟨.shr, .bl b⟩) rfl)⟩
  rcases err_dict er with h | ⟨dd, ws, h1, h2⟩
  · exact .inl h
  · have g := I.base.bh _ _ (I.base.fb _ _ (I.base.f0 _ _ h2))
    exact .inr ⟨dd, ws, h1, by rw [upd_ne (ne_of_none g np)]; exact g⟩
end
end MV
namespace MV
open PySem PySem.Spec PyProof.Rows L2 He
/-! ### the head's facts -/
/-- an own exception class whose __init__ is its own -/
def oexB (K : PySem.W.Frag) (C : Addr) : Bool := match K.lookup C with
  | some ⟨.type "type", _, .cls cd, sl⟩ => (match cd.mro, sl.toList with
    | .ref C' :: bm, [_, _, _, _, some (.builtin n), _] => C' == C && (n == "ValueError.__new__" && (!cd.hasDel && (cd.hasDict && PySem.HandSPX.refsVE bm)))
    | _, _ => false)
  | _ => false
theorem oexB_ok {K : PySem.W.Frag} {C : Addr} (h : oexB K C = true) : ∃ nm q N bs bm sn sub ab col dd k0 k1 k2 k3 k5, K.lookup C = some (excClassObj nm q C N bs bm true sn sub ab col dd k0 k1 k2 k3 k5 "ValueError.__new__") ∧ PySem.HandSPX.refsVE bm = true := by
  unfold oexB at h
  split at h
  · rename_i dd cd sl ho
    split at h
    · rename_i C' bm k0 k1 k2 k3 n k5 hm hs
      simp only [Bool.and_eq_true, beq_iff_eq, Bool.not_eq_true'] at h
      obtain ⟨rfl, rfl, hdel, hd, hr⟩ := h
      obtain ⟨nm, bs, mro, ns, qn, hdct, sn, sub, ab, col, del⟩ := cd
      dsimp only at hm hdel hd
      subst hm hdel hd
      have hsl : sl = #[k0, k1, k2, k3, some (.builtin "ValueError.__new__"), k5] := by
        obtain ⟨l⟩ := sl
        simp only at hs
        rw [hs]
      subst hsl
      exact ⟨nm, qn, ns, bs, bm, sn, sub, ab, col, dd, k0, k1, k2, k3, k5, ho, hr⟩
    · cases h
  · cases h
/-- where a property's getter stands, a static method's def -/
def recAt (T : String) (K : PySem.W.Frag) (c f : Str) : Addr := match PySem.W.recIn K (ma K (ga K c) f) T with
  | some (.ref g :: _) => g
  | _ => 0
inductive Fm where
  | std (f : Fa)
  | xc (c : Str) (fs : List Str)
  | xr (c : Str)
  | kit (c u : Str) (b : Bool)
  | kiT (c : Str) (T : String) (b : Bool)
  | xT (c : Str) (T : String) (b : Bool)
  | prop (c f : Str)
  | cval (c f : Str) (i : Int)
  | same (x y : Str)
  | stat (c m : Str)
  | own (c m : Str)
def eqV (a b : Option Value) : Bool := decide (a = b)
def Fm.ok (K : PySem.W.Frag) : Fm → Bool
  | .same x y => decide (ga K x = ga K y)
  | .own c m => eqO (PySem.W.findIn K (.ref (ga K c)) m) (some (some (.ref (ma K (ga K c) m)))) && (PySem.W.isFn K (.ref (ma K (ga K c) m)) && PySem.W.selfFirst K (ga K c))
  | .stat c m => PySem.W.readsIn K (ga K c) (.type "type") && (eqO (PySem.W.specialIn K (.ref (ga K c)) "__getattribute__") (some (some (.builtin "type.__getattribute__"))) && (decide ((PySem.W.recIn K (ma K (ga K c) m) "staticmethod").bind (·.head?) = some (.ref (recAt "staticmethod" K c m))) && (match PySem.W.findCls K (.ref (ga K c)) (.type "type") m with
    | some (.get (.builtin b) (.ref p) .none (.ref C)) => decide (b = "staticmethod.__get__") && (decide (p = ma K (ga K c) m) && decide (C = ga K c))
    | _ => false)))
  | .cval c f i => PySem.W.readsIn K (ga K c) (.type "type") && (eqO (PySem.W.specialIn K (.ref (ga K c)) "__getattribute__") (some (some (.builtin "type.__getattribute__"))) && (match PySem.W.findCls K (.ref (ga K c)) (.type "type") f with
    | some (.val (.int j _)) => decide (j = i)
    | _ => false))
  | .std f => f.ok K
  | .xc c fs => oexB K (ga K c) && (eqO (PySem.W.findIn K (.ref (ga K c)) "__setattr__") (some (some (.builtin "object.__setattr__"))) && (decide (PySem.W.subIn K (.ref (ga K c)) (.type "BaseException") = some true) && (decide (PySem.W.typeIn K (.ref (ga K c)) = some (.type "type")) && (PySem.W.keepIn K (.ref (ga K c)) &&
      (fs.all (fun f => eqO (PySem.W.findIn K (.ref (ga K c)) f) (some none)) && (eqO (PySem.W.findIn K (.ref (ga K c)) "__init__") (some (some (.ref (ma K (ga K c) "__init__")))) && decide (PySem.W.typeIn K (.ref (ma K (ga K c) "__init__")) = some (.type "function"))))))))
  | .xr c => xfB K (ga K c) && (eqO (PySem.W.findIn K (.ref (ga K c)) "__class__") (some (some (.builtin "object.__class__"))) && (eqO (PySem.W.specialIn K (.builtin "object.__class__") "__get__") (some (some (.builtin "getset_descriptor.__get__"))) && (decide (PySem.W.takesIn K (.builtin "object.__class__") = some true) && decide (PySem.W.mroIn K (ga K c) (.type "object") = some true))))
  | .kit c u b => decide (PySem.W.kitOne K (.ref (ga K c)) (.ref (ga K u)) = some b)
  | .kiT c T b => decide (PySem.W.kitOne K (.ref (ga K c)) (.type T) = some b)
  | .xT c T b => decide (PySem.W.exmOne K (.ref (ga K c)) (.type T) = some b)
  | .prop c f => decide ((PySem.W.recIn K (ma K (ga K c) f) "property").bind (·.head?) = some (.ref (recAt "property" K c f))) && (eqO (PySem.W.findIn K (.ref (ga K c)) f) (some (some (.ref (ma K (ga K c) f)))) && (eqO (PySem.W.specialIn K (.ref (ma K (ga K c) f)) "__get__") (some (some (.builtin "property.__get__"))) && decide (PySem.W.takesIn K (.ref (ma K (ga K c) f)) = some true)))
section
variable {K : PySem.W.Frag}
theorem xc_ok {c : Str} {fs : List Str} (h : (Fm.xc c fs).ok K = true) : OexC K (ga K c) ∧ (∀ f, f ∈ fs → PySem.W.findIn K (.ref (ga K c)) f = some none) ∧ PySem.W.findIn K (.ref (ga K c)) "__init__" = some (some (.ref (ma K (ga K c) "__init__"))) ∧ PySem.W.typeIn K (.ref (ma K (ga K c) "__init__")) = some (.type "function") := by
  obtain ⟨h1, h⟩ := ba h
  obtain ⟨h2, h⟩ := ba h
  obtain ⟨h3, h⟩ := ba h
  obtain ⟨h4, h⟩ := ba h
  obtain ⟨h5, h⟩ := ba h
  obtain ⟨h6, h⟩ := ba h
  obtain ⟨h7, h8⟩ := ba h
  exact ⟨⟨oexB_ok h1, eqO_ok h2, of_decide_eq_true h3, of_decide_eq_true h4, h5⟩, fun f hf => eqO_ok (List.all_eq_true.mp h6 f hf), eqO_ok h7, of_decide_eq_true h8⟩
theorem xr_ok {c : Str} (h : (Fm.xr c).ok K = true) : XfC K (ga K c) ∧ ExcC K (ga K c) := by
  obtain ⟨h1, h⟩ := ba h
  obtain ⟨h2, h⟩ := ba h
  obtain ⟨h3, h⟩ := ba h
  obtain ⟨h4, h5⟩ := ba h
  have x := xfB_ok h1
  exact ⟨x, ⟨x.ga, x.gg, x.exC, x.hdC, eqO_ok h2, eqO_ok h3, of_decide_eq_true h4, of_decide_eq_true h5⟩⟩
theorem kit_ok {c u : Str} {b : Bool} (h : (Fm.kit c u b).ok K = true) : PySem.W.kitOne K (.ref (ga K c)) (.ref (ga K u)) = some b := of_decide_eq_true h
theorem prop_ok {c f : Str} (h : (Fm.prop c f).ok K = true) : PropOf K (ga K c) f (ma K (ga K c) f) (recAt "property" K c f) := by
  obtain ⟨h1, h⟩ := ba h
  obtain ⟨h2, h⟩ := ba h
  obtain ⟨h3, h4⟩ := ba h
  refine ⟨eqO_ok h2, eqO_ok h3, of_decide_eq_true h4, ?_⟩
  have h1 := of_decide_eq_true h1
  cases q : PySem.W.recIn K (ma K (ga K c) f) "property" with
  | none => rw [q] at h1; cases h1
  | some vs =>
    rw [q] at h1
    cases vs with
    | nil => cases h1
    | cons v vs =>
      have : v = .ref (recAt "property" K c f) := Option.some.inj h1
      exact ⟨vs, by rw [this]⟩
theorem same_ok {x y : Str} {mg : Str → Option Value} (h : (Fm.same x y).ok K = true) (e : mg x = some (.ref (ga K x))) : mg x = some (.ref (ga K y)) := by rw [e, of_decide_eq_true h]
theorem own_ok {c m : Str} (h : (Fm.own c m).ok K = true) : PySem.W.findIn K (.ref (ga K c)) m = some (some (.ref (ma K (ga K c) m))) ∧ PySem.W.isFn K (.ref (ma K (ga K c) m)) = true ∧ PySem.W.selfFirst K (ga K c) = true := by
  obtain ⟨h1, h⟩ := ba h
  obtain ⟨h2, h3⟩ := ba h
  exact ⟨eqO_ok h1, h2, h3⟩
theorem kiT_ok {c : Str} {T : String} {b : Bool} (h : (Fm.kiT c T b).ok K = true) : PySem.W.kitOne K (.ref (ga K c)) (.type T) = some b := of_decide_eq_true h
theorem xT_ok {c : Str} {T : String} {b : Bool} (h : (Fm.xT c T b).ok K = true) : PySem.W.exmOne K (.ref (ga K c)) (.type T) = some b := of_decide_eq_true h
end
/-- a def, wherever its function stands -/
structure DfM where
  ad : PySem.W.Frag → Addr
  name : Str
  qual : Str
  params : Arguments
  body : List Stmt
  scope : Scope
  dfl : List Dv := []
def fnWM (K : PySem.W.Frag) (a : Addr) : FnW := match K.lookup a with
  | some ⟨_, _, .func fd, _⟩ => some (fd.name, fd.qualname, fd.params, fd.body, fd.scope, fd.globals, fd.closure, fd.builtins)
  | _ => none
def DfM.val (d : DfM) : FnW := some (d.name, d.qual, d.params, .stmts d.body, d.scope, mainGlobals, [], builtinsNs)
def DfM.dvs (K : PySem.W.Frag) (d : DfM) : List V := d.dfl.map (Dv.v K)
def DfM.ok (K : PySem.W.Frag) (d : DfM) : Bool := PySem.W.keepIn K (.ref (d.ad K)) && (match K.lookup (d.ad K) with
  | some ⟨_, _, .func fd, _⟩ => PySem.W.codeIn K fd.code d.qual && dflB K fd.defaults (d.dvs K)
  | _ => false)
theorem DfM.funD {K : PySem.W.Frag} {d : DfM} (e : fnWM K (d.ad K) = d.val) (c : d.ok K = true) : ∃ fd, FunD K d.name d.qual d.params d.body d.scope (d.dvs K) [] (d.ad K) fd := by
  obtain ⟨kp, c2⟩ := ba c
  unfold fnWM at e
  cases q : K.lookup (d.ad K) with
  | none => rw [q] at c2; cases c2
  | some o =>
    obtain ⟨oc, od, dt, osl⟩ := o
    rw [q] at c2 e
    cases dt with
    | func fd =>
      obtain ⟨n1, n2, n3, n4, n5, n6, n7, n8, n9, n10, n11, n12, n13, n14, n15⟩ := fd
      have e2 : (some (n1, n2, n3, n4, n5, n6, n7, n15) : FnW) = some (d.name, d.qual, d.params, .stmts d.body, d.scope, mainGlobals, [], builtinsNs) := e
      simp only [Option.some.injEq, Prod.mk.injEq] at e2
      obtain ⟨h1, h2, h3, h4, h5, h6, h7, h8⟩ := e2
      subst h1 h2 h3 h4 h5 h6 h7 h8
      obtain ⟨k1, k2⟩ := ba (show (PySem.W.codeIn K n13 d.qual && dflB K n8 (d.dvs K)) = true from c2)
      exact ⟨_, ⟨oc, od, n8, n9, n10, n11, n12, n13, n14, osl, rfl, q, k1, dflB_ok k2, .inl rfl⟩, kp⟩
    | _ => cases c2
abbrev AlM : Type := Bool × List FnW
def obsM (fa : List Fm) (fn : List DfM) (K : PySem.W.Frag) : AlM := ((fa.all fun f => f.ok K) && fn.all fun d => d.ok K, fn.map fun d => fnWM K (d.ad K))
def valM (fn : List DfM) : AlM := (true, fn.map DfM.val)
def SaysM (fa : List Fm) (fn : List DfM) (K : PySem.W.Frag) : Prop := obsM fa fn K = valM fn
/-- what is looked at: the addresses that are given -/
def obsMG (as : List Addr) (fa : List Fm) (fn : List DfM) (g : Addr → Option Obj) : AlM := obsM fa fn (frG g as)
def hookM (as : List Addr) (fa : List Fm) (fn : List DfM) : PySem.W.Hook where
  α := AlM
  obs := fun s => obsMG as fa fn s.heap.get?
  val := fun _ => valM fn
  says := fun _ h => ∃ K : PySem.W.Frag, K.In h ∧ SaysM fa fn K
  of := fun _ _ e => ⟨_, frG_in, e⟩
  keeps := fun _ _ _ ⟨K, hK, c⟩ k => ⟨K, PySem.W.Frag.In.keeps hK k, c⟩
theorem obsMG_eq {as : List Addr} {fa : List Fm} {fn : List DfM} {g : Addr → Option Obj} {s : Shared} (h : ∀ a, g a = s.heap.get? a) : obsMG as fa fn g = (hookM as fa fn).obs s := by
  have e : g = s.heap.get? := funext h
  rw [e] <;> rfl
theorem map3 {α β γ δ : Type} {e : Option α} {f : α → β} {g : α → γ} {h : α → δ} {a : β} {b : γ} {c : δ} (h1 : e.map f = some a) (h2 : e.map g = some b) (h3 : e.map h = some c) : e.map (fun s => (f s, g s, h s)) = some (a, b, c) := by
  cases e with
  | none => cases h1
  | some s =>
    show some (f s, g s, h s) = _
    rw [Option.some.inj h1, Option.some.inj h2, Option.some.inj h3]
section
variable {fa : List Fm} {fn : List DfM} {K : PySem.W.Frag}
theorem SaysM.fact (c : SaysM fa fn K) (i : Nat) {f : Fm} (h : fa[i]? = some f := by rfl) : f.ok K = true := by
  have c1 := (ba (show ((fa.all fun f => f.ok K) && fn.all fun d => d.ok K) = true from congrArg (fun z : AlM => z.1) c)).1
  exact List.all_eq_true.mp c1 f (List.mem_of_getElem? h)
theorem SaysM.def_ (c : SaysM fa fn K) (i : Nat) {d : DfM} (h : fn[i]? = some d := by rfl) : ∃ fd, FunD K d.name d.qual d.params d.body d.scope (d.dvs K) [] (d.ad K) fd := by
  have c2 := (ba (show ((fa.all fun f => f.ok K) && fn.all fun d => d.ok K) = true from congrArg (fun z : AlM => z.1) c)).2
  have e : fn.map (fun d => fnWM K (d.ad K)) = fn.map DfM.val := congrArg (fun z : AlM => z.2) c
  have e2 : (fn.map fun d => fnWM K (d.ad K))[i]? = (fn.map DfM.val)[i]? := by rw [e]
  rw [List.getElem?_map, List.getElem?_map, h] at e2
  exact DfM.funD (Option.some.inj e2) (List.all_eq_true.mp c2 d (List.mem_of_getElem? h))
end
/-- a def that keeps a promise, with what its call needs -/
structure FnC (P : Program) (w : World) (K : PySem.W.Frag) (mg : Str → Option Value) (base : Heap) (k : Nat) (f : Addr) (sp : Sp) : Prop where
  ex : ∃ fd ps, FnOk P w K mg base (L2N.CX P w) k f fd ps sp ∧ Binds K fd ps []
  kp : PySem.W.keepIn K (.ref f) = true
theorem FnC.at {X : Cx} {W : WX} {k j : Nat} {f : Addr} {sp : Sp} (F : FnC X.prog X.w X.K X.mg X.base j f sp) (hr : Room k X.A) (hj : j ≤ k) (tk : Takes X W) : CallAt X W f sp := by
  obtain ⟨⟨fd, ps, F, hb⟩, _⟩ := F
  exact callAt0 F (hr.mono hj) hb tk
theorem FnC.make {X : Cx} {W : WX} {k j : Nat} {C f : Addr} {sp : Sp} (F : FnC X.prog X.w X.K X.mg X.base j f sp) (M : Mk X.K C f) (hr : Room k X.A) (hj : j + 1 ≤ k) (tk : Takes X W) : MakeAt X W C sp := by
  obtain ⟨⟨fd, ps, F, hb⟩, _⟩ := F
  exact makeAt0 M F (hr.mono hj) hb tk
/-- from the law's promise -/
theorem law_spB {K : PySem.W.Frag} {rm : Bool} {fn : Fn} (h : ∀ ns : List Int, ns.length ≤ 63 → fn [.scr ns] = .ret (.bl true) []) (H : Hp) (a : Addr) (ns : List Int) (hl : ns.length ≤ 63) (hS : SqL K H a (ns.map V.int)) : spF K [.bor] rm fn [.ref a] H (fun v _ => v = .bl true) (fun _ _ _ => False) := by
  refine ⟨H, [], [.scr ns], fun b o e => mns_of e (by simp), List.nodup_nil, ⟨⟨a, rfl, hS.elim (fun h => .inl (h.elim (fun h => .inl (mns_of h (by simp))) fun ⟨o, h⟩ => .inr ⟨o, mns_of h (by simp)⟩)) .inr⟩, rfl⟩, ?_⟩
  rw [h ns hl]
  intro v H' F' A r
  exact r
theorem law_sp {K : PySem.W.Frag} {fn : Fn} (h : ∀ ns : List Int, ns.length ≤ 63 → fn [.scr ns] = .ret (.bl true) []) (H : Hp) (a : Addr) (ns : List Int) (hl : ns.length ≤ 63) (hS : SqL K H a (ns.map V.int)) : spF K [.shr] false fn [.ref a] H (fun v _ => v = .bl true) (fun _ _ _ => False) := by
  refine ⟨H, [], [.scr ns], fun b o e => mns_of e (by simp), List.nodup_nil, ⟨⟨a, rfl, hS⟩, rfl⟩, ?_⟩
  rw [h ns hl]
  intro v H' F' A r
  exact r
end MV
namespace MV
open PySem PySem.Spec PyProof.Rows L2 He
/-! ### the rules, with their side conditions looked up -/
structure Fz (fa : List Fm) (fn : List DfM) (K : PySem.W.Frag) (mg : Str → Option Value) : Prop where
  c : SaysM fa fn K
  g : ∀ x, (Fa.glo x).ok K = true → mg x = some (.ref (ga K x))
  f : ∀ x, (Fa.free x).ok K = true → mg x = none
  i : ∀ x i, (Fa.int x i).ok K = true → ∃ t, mg x = some (.int i t)
  s : ∀ x z, (Fa.str x z).ok K = true → ∃ t, mg x = some (.str z t)
theorem Fz.of {fa : List Fm} {fn : List DfM} {K : PySem.W.Frag} {mg : Str → Option Value} {h : Heap} (X : K.In h) (G : h.Ns mainGlobals mg) (c : SaysM fa fn K) : Fz fa fn K mg :=
  ⟨c, fun _ q => glo_ok X G q, fun _ q => free_ok X G q, fun _ _ q => int_ok X G q, fun _ _ q => str_ok X G q⟩
theorem tk_cx {P : Program} {w : World} {K : PySem.W.Frag} {mg : Str → Option Value} {base : Heap} {N : List Str} {qual : Str} {scope : Scope} {f : Addr} {cdv : Value} {A : Around} {outer : List Env} {s : Shared} {H : Hp} {E : XK} :
    Takes (cxOf (L2N.CX P w) P w K mg base N qual scope f cdv A outer s H E) (fun cls d _ H => E cls d H) := L2N.takes_of rfl rfl rfl rfl
theorem po_cx {P : Program} {w : World} {K : PySem.W.Frag} {mg : Str → Option Value} {base : Heap} {N : List Str} {qual : Str} {scope : Scope} {f : Addr} {cdv : Value} {A : Around} {outer : List Env} {s : Shared} {H : Hp} {E : XK} :
    PassesOwn (model P w) (cxOf (L2N.CX P w) P w K mg base N qual scope f cdv A outer s H E).A (cxOf (L2N.CX P w) P w K mg base N qual scope f cdv A outer s H E).env (cxOf (L2N.CX P w) P w K mg base N qual scope f cdv A outer s H E).xe := passes_of (X := cxOf (L2N.CX P w) P w K mg base N qual scope f cdv A outer s H E) rfl
theorem un64 {k : Nat} {A : Around} (r : Room k A) : A.units + 64 < cLine := by have := r.un; omega
section
variable {X : Cx} {J : Jx} {W : WX} {e a b c tg iter elt : Expr} {es : List Expr} {q qa qb qc qr : Bool} {fa fb fc : Sem1} {f g : SemS} {gc : SemB} {pos p apos : Pos} {k : Nat}
theorem w_v {i : Nat} {x : Str} (hN : X.N[i]? = some x := by rfl) (hv : Vis X.env.scope x := by first | exact .inl rfl | exact .inr (.inl rfl) | exact .inr (.inr rfl)) (hd : (x == ("__debug__" : Str)) = false := by decide) (hcd : (x == ("__classdict__" : Str)) = false := by decide) : XE X J W (.Name x pos) true (fVar i) := xe_var hN hv hd hcd
theorem w_mv {i : Nat} {x : Str} (hN : X.N[i]? = some x := by rfl) (hv : Vis X.env.scope x := by first | exact .inl rfl | exact .inr (.inl rfl) | exact .inr (.inr rfl)) (hd : (x == ("__debug__" : Str)) = false := by decide) (hcd : (x == ("__classdict__" : Str)) = false := by decide) : XE X J W (.Name x pos) false (fMv i) := xe_mv hN hv hd hcd
theorem w_gi {x : Str} {i : Int} (h : ∃ t, X.mg x = some (.int i t)) (hg : Gl X x := by rfl) (hd : (x == ("__debug__" : Str)) = false := by decide) : XE X J W (.Name x pos) true (fC (.int i)) := by
  obtain ⟨t, h⟩ := h
  exact xe_glob hg h (v := .int i) ⟨t, rfl⟩ (fun _ => rfl) hd
theorem w_gs {x z : Str} (h : ∃ t, X.mg x = some (.str z t)) (hg : Gl X x := by rfl) (hd : (x == ("__debug__" : Str)) = false := by decide) : XE X J W (.Name x pos) true (fC (.str z)) := by
  obtain ⟨t, h⟩ := h
  exact xe_glob hg h (v := .str z) ⟨t, rfl⟩ (fun _ => rfl) hd
theorem w_lt (ha : XE X J W a qa fa) (hb : XE X J W b qb fb) (hm : behindInMarks .Lt b = false := by rfl) : XE X J W (.Compare a [.Lt] [b] pos) (qa && qb) (fTwo qb fa fb (kS (gB bLt))) := xe_cmp op_lt ok_B ha hb hm
theorem t_lt (ha : XE X J W a qa fa) (hb : XE X J W b qb fb) (hm : behindInMarks .Lt b = false := by rfl) : XT X J W (.Compare a [.Lt] [b] pos) (qa && qb) (fTst (fTwo qb fa fb (kS (gB bLt)))) := xt_cmp op_lt ok_B ha hb hm
theorem w_le (ha : XE X J W a qa fa) (hb : XE X J W b qb fb) (hm : behindInMarks .LtE b = false := by rfl) : XE X J W (.Compare a [.LtE] [b] pos) (qa && qb) (fTwo qb fa fb (kS (gB bLe))) := xe_cmp op_le ok_B ha hb hm
theorem t_le (ha : XE X J W a qa fa) (hb : XE X J W b qb fb) (hm : behindInMarks .LtE b = false := by rfl) : XT X J W (.Compare a [.LtE] [b] pos) (qa && qb) (fTst (fTwo qb fa fb (kS (gB bLe)))) := xt_cmp op_le ok_B ha hb hm
theorem w_gt (ha : XE X J W a qa fa) (hb : XE X J W b qb fb) (hm : behindInMarks .Gt b = false := by rfl) : XE X J W (.Compare a [.Gt] [b] pos) (qa && qb) (fTwo qb fa fb (kS (gB bGt))) := xe_cmp op_gt ok_B ha hb hm
theorem t_gt (ha : XE X J W a qa fa) (hb : XE X J W b qb fb) (hm : behindInMarks .Gt b = false := by rfl) : XT X J W (.Compare a [.Gt] [b] pos) (qa && qb) (fTst (fTwo qb fa fb (kS (gB bGt)))) := xt_cmp op_gt ok_B ha hb hm
theorem w_ge (ha : XE X J W a qa fa) (hb : XE X J W b qb fb) (hm : behindInMarks .GtE b = false := by rfl) : XE X J W (.Compare a [.GtE] [b] pos) (qa && qb) (fTwo qb fa fb (kS (gB bGe))) := xe_cmp op_ge ok_B ha hb hm
theorem t_ge (ha : XE X J W a qa fa) (hb : XE X J W b qb fb) (hm : behindInMarks .GtE b = false := by rfl) : XT X J W (.Compare a [.GtE] [b] pos) (qa && qb) (fTst (fTwo qb fa fb (kS (gB bGe)))) := xt_cmp op_ge ok_B ha hb hm
theorem w_eq (hK : J.K = X.K) (hu : X.A.units + 64 < cLine) (ha : XE X J W a qa fa) (hb : XE X J W b qb fb) (hm : behindInMarks .Eq b = false := by rfl) : XE X J W (.Compare a [.Eq] [b] pos) (qa && qb) (fTwo qb fa fb (kS gEq)) := xe_cmp (op_eqD hu) (ok_Eq hK) ha hb hm
theorem t_eq (hK : J.K = X.K) (hu : X.A.units + 64 < cLine) (ha : XE X J W a qa fa) (hb : XE X J W b qb fb) (hm : behindInMarks .Eq b = false := by rfl) : XT X J W (.Compare a [.Eq] [b] pos) (qa && qb) (fTst (fTwo qb fa fb (kS gEq))) := xt_cmp (op_eqD hu) (ok_Eq hK) ha hb hm
theorem w_ne (hK : J.K = X.K) (hu : X.A.units + 64 < cLine) (ha : XE X J W a qa fa) (hb : XE X J W b qb fb) (hm : behindInMarks .NotEq b = false := by rfl) : XE X J W (.Compare a [.NotEq] [b] pos) (qa && qb) (fTwo qb fa fb (kS gNe)) := xe_cmp (op_neD hu) (ok_Ne hK) ha hb hm
theorem t_ne (hK : J.K = X.K) (hu : X.A.units + 64 < cLine) (ha : XE X J W a qa fa) (hb : XE X J W b qb fb) (hm : behindInMarks .NotEq b = false := by rfl) : XT X J W (.Compare a [.NotEq] [b] pos) (qa && qb) (fTst (fTwo qb fa fb (kS gNe))) := xt_cmp (op_neD hu) (ok_Ne hK) ha hb hm
theorem w_in (hK : J.K = X.K) (ha : XE X J W a qa fa) (hb : XE X J W b qb fb) (hm : behindInMarks .In b = false := by rfl) : XE X J W (.Compare a [.In] [b] pos) (qa && qb) (fTwo qb fa fb (kS (gIn false))) := xe_cmp op_inA (ok_In hK false) ha hb hm
theorem t_in (hK : J.K = X.K) (ha : XE X J W a qa fa) (hb : XE X J W b qb fb) (hm : behindInMarks .In b = false := by rfl) : XT X J W (.Compare a [.In] [b] pos) (qa && qb) (fTst (fTwo qb fa fb (kS (gIn false)))) := xt_cmp op_inA (ok_In hK false) ha hb hm
theorem w_nin (hK : J.K = X.K) (ha : XE X J W a qa fa) (hb : XE X J W b qb fb) (hm : behindInMarks .NotIn b = false := by rfl) : XE X J W (.Compare a [.NotIn] [b] pos) (qa && qb) (fTwo qb fa fb (kS (gIn true))) := xe_cmp op_notInA (ok_In hK true) ha hb hm
theorem t_nin (hK : J.K = X.K) (ha : XE X J W a qa fa) (hb : XE X J W b qb fb) (hm : behindInMarks .NotIn b = false := by rfl) : XT X J W (.Compare a [.NotIn] [b] pos) (qa && qb) (fTst (fTwo qb fa fb (kS (gIn true)))) := xt_cmp op_notInA (ok_In hK true) ha hb hm
theorem w_isN (ha : XE X J W a qa fa) (hb : XE X J W b qb fb) (hm : behindInMarks .Is b = false := by rfl) : XE X J W (.Compare a [.Is] [b] pos) (qa && qb) (fTwo qb fa fb (kS gIsN)) := xe_cmp op_isN ok_IsN ha hb hm
theorem t_isN (ha : XE X J W a qa fa) (hb : XE X J W b qb fb) (hm : behindInMarks .Is b = false := by rfl) : XT X J W (.Compare a [.Is] [b] pos) (qa && qb) (fTst (fTwo qb fa fb (kS gIsN))) := xt_cmp op_isN ok_IsN ha hb hm
theorem w_notN (ha : XE X J W a qa fa) (hb : XE X J W b qb fb) (hm : behindInMarks .IsNot b = false := by rfl) : XE X J W (.Compare a [.IsNot] [b] pos) (qa && qb) (fTwo qb fa fb (kS gNotN)) := xe_cmp op_notN ok_NotN ha hb hm
theorem t_notN (ha : XE X J W a qa fa) (hb : XE X J W b qb fb) (hm : behindInMarks .IsNot b = false := by rfl) : XT X J W (.Compare a [.IsNot] [b] pos) (qa && qb) (fTst (fTwo qb fa fb (kS gNotN))) := xt_cmp op_notN ok_NotN ha hb hm
theorem w_isB (ha : XE X J W a qa fa) (hb : XE X J W b qb fb) (hm : behindInMarks .Is b = false := by rfl) : XE X J W (.Compare a [.Is] [b] pos) (qa && qb) (fTwo qb fa fb (kS gIsB)) := xe_cmp op_isBl ok_IsB ha hb hm
theorem t_isB (ha : XE X J W a qa fa) (hb : XE X J W b qb fb) (hm : behindInMarks .Is b = false := by rfl) : XT X J W (.Compare a [.Is] [b] pos) (qa && qb) (fTst (fTwo qb fa fb (kS gIsB))) := xt_cmp op_isBl ok_IsB ha hb hm
theorem w_len (hm : X.mg "len" = none) (ha : XE X J W a qa fa) (hg : Gl X "len" := by rfl) (he : starEach [a] X.env = (false, eval a X.env) :: starEach [] X.env := by rfl) (hpl : (backTo pos (starEach [] X.env)).any (·.1) = false := by rfl) : XE X J W (.Call (.Name "len" p) [a] [] pos) qa (fOne fa (kS1 gLen)) := xe_bi1 call_len ok_len hg hm boot_len ha (by decide) (by decide) he hpl
theorem w_abs (hm : X.mg "abs" = none) (ha : XE X J W a qa fa) (hg : Gl X "abs" := by rfl) (he : starEach [a] X.env = (false, eval a X.env) :: starEach [] X.env := by rfl) (hpl : (backTo pos (starEach [] X.env)).any (·.1) = false := by rfl) : XE X J W (.Call (.Name "abs" p) [a] [] pos) qa (fOne fa (kS1 gAbs)) := xe_bi1 call_abs ok_abs hg hm (by decide +kernel) ha (by decide) (by decide) he hpl
end
end MV
namespace MV
open PySem PySem.Spec PyProof.Rows L2 He
def gNeg : Vl → Option Vl
  | .int i => some (.int (-i))
  | _ => none
abbrev iMax : Int → Int → Int := fun i j => if j > i then j else i
abbrev iMin : Int → Int → Int := fun i j => if j < i then j else i
section
variable {X : Cx} {J : Jx} {W : WX} {e a b c tg iter elt o : Expr} {es : List Expr} {q qa qb qc qe qr qo : Bool} {fa fb fc : Sem1} {f g : SemS} {gc : SemB} {fs : SemA} {pos p px apos : Pos} {k j : Nat}
theorem w_neg (ha : XE X J W a qa fa) : XE X J W (.UnaryOp .USub a pos) qa (fOne fa (kS1 gNeg)) :=
  xe_un un_neg (ok_S1 fun H d1 d v Q r e q => by
    cases d1 <;> first | (cases e; exact ⟨_, r, q _ rfl⟩) | cases e) ha
theorem w_int (hm : X.mg "int" = none) (ha : XE X J W a qa fa) (hg : Gl X "int" := by rfl) (he : starEach [a] X.env = (false, eval a X.env) :: starEach [] X.env := by rfl) (hpl : (backTo pos (starEach [] X.env)).any (·.1) = false := by rfl) : XE X J W (.Call (.Name "int" p) [a] [] pos) qa (fOne fa (kS1 gInt)) := xe_ty1 call_int1 ok_int hg hm boot_int ha (by decide) (by decide) he hpl
theorem w_str (hm : X.mg "str" = none) (ha : XE X J W a qa fa) (hg : Gl X "str" := by rfl) (he : starEach [a] X.env = (false, eval a X.env) :: starEach [] X.env := by rfl) (hpl : (backTo pos (starEach [] X.env)).any (·.1) = false := by rfl) : XE X J W (.Call (.Name "str" p) [a] [] pos) qa (fOne fa (kS1 gStr)) := xe_ty1 call_str_int ok_str hg hm (by decide +kernel) ha (by decide) (by decide) he hpl
theorem w_list (hm : X.mg "list" = none) (ha : XE X J W a qa fa) (hg : Gl X "list" := by rfl) (he : starEach [a] X.env = (false, eval a X.env) :: starEach [] X.env := by rfl) (hpl : (backTo pos (starEach [] X.env)).any (·.1) = false := by rfl) : XE X J W (.Call (.Name "list" p) [a] [] pos) qa (fOne fa kListOf) := xe_ty1 call_list_of ok_listOf hg hm boot_list ha (by decide) (by decide) he hpl
theorem w_tuple (hm : X.mg "tuple" = none) (ha : XE X J W a qa fa) (hg : Gl X "tuple" := by rfl) (he : starEach [a] X.env = (false, eval a X.env) :: starEach [] X.env := by rfl) (hpl : (backTo pos (starEach [] X.env)).any (·.1) = false := by rfl) : XE X J W (.Call (.Name "tuple" p) [a] [] pos) qa (fOne fa kTupOf) := xe_ty1 call_tuple_of ok_tupOf hg hm (by decide +kernel) ha (by decide) (by decide) he hpl
theorem w_sum (hm : X.mg "sum" = none) (ha : XE X J W a qa fa) (hc : X.calm = true := by rfl) (hg : Gl X "sum" := by rfl) (he : starEach [a] X.env = (false, eval a X.env) :: starEach [] X.env := by rfl) (hpl : (backTo pos (starEach [] X.env)).any (·.1) = false := by rfl) : XE X J W (.Call (.Name "sum" p) [a] [] pos) qa (fOne fa (kS1 gSum)) := xe_bi1 (cr_sumA hc) ok_sum hg hm (by decide +kernel) ha (by decide) (by decide) he hpl
theorem w_max1 (hm : X.mg "max" = none) (ha : XE X J W a qa fa) (hc : X.calm = true := by rfl) (hg : Gl X "max" := by rfl) (he : starEach [a] X.env = (false, eval a X.env) :: starEach [] X.env := by rfl) (hpl : (backTo pos (starEach [] X.env)).any (·.1) = false := by rfl) : XE X J W (.Call (.Name "max" p) [a] [] pos) qa (fOne fa (kS1 gMax)) := xe_bi1 (cr_max hc) ok_max hg hm (by decide +kernel) ha (by decide) (by decide) he hpl
theorem w_min1 (hm : X.mg "min" = none) (ha : XE X J W a qa fa) (hc : X.calm = true := by rfl) (hg : Gl X "min" := by rfl) (he : starEach [a] X.env = (false, eval a X.env) :: starEach [] X.env := by rfl) (hpl : (backTo pos (starEach [] X.env)).any (·.1) = false := by rfl) : XE X J W (.Call (.Name "min" p) [a] [] pos) qa (fOne fa (kS1 gMin)) := xe_bi1 (cr_min hc) ok_min hg hm (by decide +kernel) ha (by decide) (by decide) he hpl
theorem w_any (hm : X.mg "any" = none) (ha : XE X J W a qa fa) (hc : X.calm = true := by rfl) (hg : Gl X "any" := by rfl) (he : starEach [a] X.env = (false, eval a X.env) :: starEach [] X.env := by rfl) (hpl : (backTo pos (starEach [] X.env)).any (·.1) = false := by rfl) : XE X J W (.Call (.Name "any" p) [a] [] pos) qa (fOne fa (kS1 gAny)) := xe_bi1 (cr_any hc) ok_any hg hm (by decide +kernel) ha (by decide) (by decide) he hpl
theorem w_all (hm : X.mg "all" = none) (ha : XE X J W a qa fa) (hc : X.calm = true := by rfl) (hg : Gl X "all" := by rfl) (he : starEach [a] X.env = (false, eval a X.env) :: starEach [] X.env := by rfl) (hpl : (backTo pos (starEach [] X.env)).any (·.1) = false := by rfl) : XE X J W (.Call (.Name "all" p) [a] [] pos) qa (fOne fa (kS1 gAll)) := xe_bi1 (cr_all hc) ok_all hg hm (by decide +kernel) ha (by decide) (by decide) he hpl
theorem w_max2 (hm : X.mg "max" = none) (ha : XE X J W a qa fa) (hb : XE X J W b qb fb) (hc : X.calm = true := by rfl) (hg : Gl X "max" := by rfl) (he : starEach [a, b] X.env = (false, eval a X.env) :: starEach [b] X.env := by rfl) (he2 : starEach [b] X.env = (false, eval b X.env) :: starEach [] X.env := by rfl) (hpl : (backTo pos (starEach [b] X.env)).any (·.1) = false := by rfl) :
    XE X J W (.Call (.Name "max" p) [a, b] [] pos) (qa && qb) (fTwo qb fa fb (kS (gI iMax))) := xe_bi2 (call_max2 hc) ok_max2 hg hm (by decide +kernel) ha hb (by decide) (by decide) he he2 hpl
theorem w_min2 (hm : X.mg "min" = none) (ha : XE X J W a qa fa) (hb : XE X J W b qb fb) (hc : X.calm = true := by rfl) (hg : Gl X "min" := by rfl) (he : starEach [a, b] X.env = (false, eval a X.env) :: starEach [b] X.env := by rfl) (he2 : starEach [b] X.env = (false, eval b X.env) :: starEach [] X.env := by rfl) (hpl : (backTo pos (starEach [b] X.env)).any (·.1) = false := by rfl) :
    XE X J W (.Call (.Name "min" p) [a, b] [] pos) (qa && qb) (fTwo qb fa fb (kS (gI iMin))) := xe_bi2 (call_min2 hc) ok_min2 hg hm (by decide +kernel) ha hb (by decide) (by decide) he he2 hpl
theorem w_ty {x : Str} {T : String} (hm : X.mg x = none) (hg : Gl X x := by rfl) (hv : bootBuiltins x = some (.type T) := by decide +kernel) (hn : x ≠ "__name__" := by decide) (hdb : (x == ("__debug__" : Str)) = false := by decide) : PE X (.Name x p) (tC (.ty T)) := pe_tyN hg hm hv hn hdb
theorem w_isi {T : String} {gg : Vl → Option Bool} (hK : J.K = X.K) (hi : IsOk X.K (.type T) gg) (hm : X.mg "isinstance" = none) (hc : PE X c (tC (.ty T))) (ha : XE X J W a qa fa) (hg : Gl X "isinstance" := by rfl)
    (he : starEach [a, c] X.env = (false, eval a X.env) :: starEach [c] X.env := by rfl) (he2 : starEach [c] X.env = (false, eval c X.env) :: starEach [] X.env := by rfl) (hpl : (backTo pos (starEach [c] X.env)).any (·.1) = false := by rfl) :
    XE X J W (.Call (.Name "isinstance" p) [a, c] [] pos) qa (fOne fa (kIsi gg)) := xe_isi hK hi (.ty T) hg hm (by decide +kernel) ha hc he he2 hpl
theorem w_sl {fr : SemA} {i : Nat} {x : Str} (hr : XA X J W es qr fr) (hN : X.N[i]? = some x := by rfl) (hv : Vis X.env.scope x := by first | exact .inl rfl | exact .inr (.inl rfl) | exact .inr (.inr rfl)) (hs : starEach (.Name x p :: es) X.env = (false, eval (.Name x p) X.env) :: starEach es X.env := by rfl)
    (hd : (x == ("__debug__" : Str)) = false := by decide) (hcd : (x == ("__classdict__" : Str)) = false := by decide) : XA X J W (.Name x p :: es) qr (aSl i fr) := xa_sl hN hv hr hs hd hcd
theorem w_r1 (hm : X.mg "range" = none) (ha : XE X J W a qa fa) (hg : Gl X "range" := by rfl) (hs : starEach [a] X.env = (false, eval a X.env) :: starEach [] X.env := by rfl) (hs2 : starEach [a] X.env = [(false, eval a X.env)] := by rfl) : XI X J W tg (.Call (.Name "range" p) [a] [] pos) qa (iR1 fa) := xi_r1 hg hm ha hs hs2
theorem w_r2 (hm : X.mg "range" = none) (ha : XE X J W a qa fa) (hb : XE X J W b qb fb) (hg : Gl X "range" := by rfl) (he : starEach [a, b] X.env = (false, eval a X.env) :: starEach [b] X.env := by rfl) (he2 : starEach [b] X.env = (false, eval b X.env) :: starEach [] X.env := by rfl)
    (hs : starEach [a, b] X.env = [(false, eval a X.env), (false, eval b X.env)] := by rfl) (hs2 : starEach [b] X.env = [(false, eval b X.env)] := by rfl) : XI X J W tg (.Call (.Name "range" p) [a, b] [] pos) (qa && qb) (iR2 fa fb) := xi_r2 hg hm ha hb he he2 hs hs2
theorem w_gn {i : Nat} {x : Str} (hN : X.N.Nodup := by assumption) (hi : X.N[i]? = some x := by rfl) (hx : Loc X.env.scope x := by first | exact .inl rfl | exact .inr rfl) (hf : X.fn x = true ∨ X.env.scope.names.lookup x = some .local := by first | exact .inl rfl | exact .inr rfl) (nf : NF J i := by first | exact nf_none (by assumption) | exact nf_ne (by assumption) rfl) : XG X J (.Name x p) [i] (gNm i) := xg_name hN hi hx hf nf
theorem w_gc {ix is : List Nat} {i : Nat} {x : Str} (hr : XGs X J es ix is) (hmem : i ∈ ix := by decide) (hN : X.N.Nodup := by assumption) (hi : X.N[i]? = some x := by rfl) (hx : Loc X.env.scope x := by first | exact .inl rfl | exact .inr rfl) (hf : X.fn x = true ∨ X.env.scope.names.lookup x = some .local := by first | exact .inl rfl | exact .inr rfl)
    (nf : NF J i := by first | exact nf_none (by assumption) | exact nf_ne (by assumption) rfl) (hs : (assignEach (.Name x p :: es) X.env).map (·.2) = assign (.Name x p) X.env :: (assignEach es X.env).map (·.2) := by rfl) : XGs X J (.Name x p :: es) ix (i :: is) := xgs_cons hmem hN hi hx hr hf hs nf
theorem w_gtp {is : List Nat} {k1 : Nat} (h : XGs X J es is is) (hc : X.calm = true := by rfl) (hn : (assignEach es X.env).length = is.length := by rfl) (hst : (assignEach es X.env).findIdx? (·.1) = none := by rfl) : XG X J (.Tuple es k1 pos) is (gTp is) := xg_tup hc h hn hst
theorem w_for {body : List Stmt} {tb : SemS} {src : SemI} {tgt : SemG} {ix : List Nat} (hp : PassesOwn (model X.prog X.w) X.A X.env X.xe) (hi : XI X J W tg iter q src) (hg : XG X J tg ix tgt) (hb : XB X J W body tb) (hc : X.calm = true := by rfl) (hs : ∀ x, foldedSetIterable iter X.env x = pure x := by intro _; rfl) : XS X J W (.For tg iter body [] pos) (sFor src tgt tb) := xs_for hp hc hi hg hb hs
theorem w_asg {i : Nat} {x : Str} (hN : X.N.Nodup) (ha : XE X J W a qa fa) (hi : X.N[i]? = some x := by rfl) (hx : Loc X.env.scope x := by first | exact .inl rfl | exact .inr rfl) (hs : swapsWith a (some (.Name x p)) pos.line X.env = pure false := by rfl) (hf : X.fn x = true ∨ X.env.scope.names.lookup x = some .local := by first | exact .inl rfl | exact .inr rfl) (nf : NF J i := by first | exact nf_none (by assumption) | exact nf_ne (by assumption) rfl) :
    XS X J W (.Assign [.Name x p] a pos) (sAsg i fa) := xs_asg hN hi hx ha hs hf nf
theorem w_aug {i : Nat} {x : Str} {op : Operator} {fop : Int → Int → Int} (hN : X.N.Nodup) (ha : XE X J W a qa fa) (ho : PIp X op (ipI fop)) (hi : X.N[i]? = some x := by rfl) (hx : Loc X.env.scope x := by first | exact .inl rfl | exact .inr rfl) (hf : X.fn x = true ∨ X.env.scope.names.lookup x = some .local := by first | exact .inl rfl | exact .inr rfl) (nf : NF J i := by first | exact nf_none (by assumption) | exact nf_ne (by assumption) rfl) :
    XS X J W (.AugAssign (.Name x p) op a pos) (sAug fop i fa) := xs_aug hN hi hx ha ho hf nf
theorem w_set {i : Nat} {x : Str} {ps' : Pos} (hb : XE X J W b true fb) (ha : XE X J W a qa fa) (hN : X.N[i]? = some x := by rfl) (hv : Vis X.env.scope x := by first | exact .inl rfl | exact .inr (.inl rfl) | exact .inr (.inr rfl)) (hd : (x == ("__debug__" : Str)) = false := by decide) (hcd : (x == ("__classdict__" : Str)) = false := by decide)
    (has : ∀ v, assign (.Subscript (.Name x p) b ps') X.env v = (do
      let ov ← holding [v] (eval (.Name x p) X.env)
      let iv ← holding [v, ov] (eval b X.env)
      standAt ps'
      holding [v, ov, iv] (setItem ov iv v)
      release [v, ov, iv] []) := by intro _; rfl)
    (hs : swapsWithSole [.Subscript (.Name x p) b ps'] a pos.line X.env = pure false := by rfl) (hw : swappedStores [.Subscript (.Name x p) b ps'] a X.env = pure none := by rfl)
    (h1 : (assignEach [.Subscript (.Name x p) b ps'] X.env).map (·.2) = [assign (.Subscript (.Name x p) b ps') X.env] := by rfl) :
    XS X J W (.Assign [.Subscript (.Name x p) b ps'] a pos) (sSet i fb fa) := xs_set hN hv hb ha hd hcd has hs hw h1
theorem w_app {i : Nat} {x : Str} (ha : XE X J W a qa fa) (hN : X.N[i]? = some x := by rfl) (hv : Vis X.env.scope x := by first | exact .inl rfl | exact .inr (.inl rfl) | exact .inr (.inr rfl)) (hd : (x == ("__debug__" : Str)) = false := by decide) (hcd : (x == ("__classdict__" : Str)) = false := by decide)
    (hst : starEach [a] X.env = (false, eval a X.env) :: starEach [] X.env := by rfl) (hbase : attributeBase (.Name x px) "append" X.env (eval (.Name x px) X.env) = eval (.Name x px) X.env := by rfl)
    (hfew : ((backTo pos (starEach [a] X.env)).all (fun x => !x.1) && (backToKw pos (keywordEach [] X.env)).all (fun x => x.1.isSome) && decide ([a].length + ([] : List Keyword).length + (if ([] : List Keyword).isEmpty then 0 else 1) < 30)) = true := by rfl)
    (hline : (apos.endLine == pos.line) = true := by rfl) (hplain : (backTo pos (starEach [] X.env)).any (·.1) = false := by rfl) :
    XE X J W (.Call (.Attribute (.Name x px) "append" apos) [a] [] pos) false (fApp i fa) := xe_app hN hv ha hd hcd hst (pe_bm PySem.F.plainAttrs_list PySem.F.slot_list_append PySem.F.type_list_append mt_append (pe_var hN hv hd hcd) (pa_cons ha.pe pa_nil hst) hbase hfew hline hst hplain)
theorem w_popAt {i : Nat} {x : Str} (ha : XE X J W a qa fa) (hN : X.N[i]? = some x := by rfl) (hv : Vis X.env.scope x := by first | exact .inl rfl | exact .inr (.inl rfl) | exact .inr (.inr rfl)) (hd : (x == ("__debug__" : Str)) = false := by decide) (hcd : (x == ("__classdict__" : Str)) = false := by decide)
    (hst : starEach [a] X.env = (false, eval a X.env) :: starEach [] X.env := by rfl) (hbase : attributeBase (.Name x px) "pop" X.env (eval (.Name x px) X.env) = eval (.Name x px) X.env := by rfl)
    (hfew : ((backTo pos (starEach [a] X.env)).all (fun x => !x.1) && (backToKw pos (keywordEach [] X.env)).all (fun x => x.1.isSome) && decide ([a].length + ([] : List Keyword).length + (if ([] : List Keyword).isEmpty then 0 else 1) < 30)) = true := by rfl)
    (hline : (apos.endLine == pos.line) = true := by rfl) (hplain : (backTo pos (starEach [] X.env)).any (·.1) = false := by rfl) :
    XE X J W (.Call (.Attribute (.Name x px) "pop" apos) [a] [] pos) false (fPopAt i fa) := xe_popAt hN hv ha hd hcd (pe_bm PySem.F.plainAttrs_list PySem.F.slot_list_pop PySem.F.type_list_pop mt_popAt (pe_var hN hv hd hcd) (pa_cons ha.pe pa_nil hst) hbase hfew hline hst hplain)
theorem w_pop {i : Nat} {x : Str} (hN : X.N[i]? = some x := by rfl) (hv : Vis X.env.scope x := by first | exact .inl rfl | exact .inr (.inl rfl) | exact .inr (.inr rfl)) (hd : (x == ("__debug__" : Str)) = false := by decide) (hcd : (x == ("__classdict__" : Str)) = false := by decide)
    (hbase : attributeBase (.Name x px) "pop" X.env (eval (.Name x px) X.env) = eval (.Name x px) X.env := by rfl) (hline : (apos.endLine == pos.line) = true := by rfl) :
    XE X J W (.Call (.Attribute (.Name x px) "pop" apos) [] [] pos) false (fOnL i kPop) := xe_pop (pe_bm0 PySem.F.plainAttrs_list PySem.F.slot_list_pop PySem.F.type_list_pop mt_pop (pe_var hN hv hd hcd) hbase hline)
theorem w_clear {i : Nat} {x : Str} (hN : X.N[i]? = some x := by rfl) (hv : Vis X.env.scope x := by first | exact .inl rfl | exact .inr (.inl rfl) | exact .inr (.inr rfl)) (hd : (x == ("__debug__" : Str)) = false := by decide) (hcd : (x == ("__classdict__" : Str)) = false := by decide)
    (hbase : attributeBase (.Name x px) "clear" X.env (eval (.Name x px) X.env) = eval (.Name x px) X.env := by rfl) (hline : (apos.endLine == pos.line) = true := by rfl) :
    XE X J W (.Call (.Attribute (.Name x px) "clear" apos) [] [] pos) false (fOnL i kClear) := xe_clear (pe_bm0 PySem.F.plainAttrs_list PySem.F.slot_list_clear PySem.F.type_list_clear mt_clear (pe_var hN hv hd hcd) hbase hline)
theorem w_call {pm : List PM} {rm : Bool} {fn : Fn} {x : Str} {fA : Addr} (F : FnC X.prog X.w X.K X.mg X.base j fA (spF X.K pm rm fn)) (hm : X.mg x = some (.ref fA)) (hr : Room k X.A) (tk : Takes X W) (hK : J.K = X.K) (ha : XA X J W (e :: es) q fs) (hj : j ≤ k := by decide) (hg : Gl X x := by rfl)
    (hdb : (x == ("__debug__" : Str)) = false := by decide) (he : starEach (e :: es) X.env = (false, eval e X.env) :: starEach es X.env := by rfl) (hpl : (backTo pos (starEach es X.env)).any (·.1) = false := by rfl) :
    XE X J W (.Call (.Name x p) (e :: es) [] pos) false (fCall pm rm fn fs) := xe_call hK (F.at hr hj tk) hg hm F.kp ha hdb he hpl
theorem w_call0 {pm : List PM} {rm : Bool} {fn : Fn} {x : Str} {fA : Addr} (F : FnC X.prog X.w X.K X.mg X.base j fA (spF X.K pm rm fn)) (hm : X.mg x = some (.ref fA)) (hr : Room k X.A) (tk : Takes X W) (hK : J.K = X.K) (hj : j ≤ k := by decide) (hg : Gl X x := by rfl) (hdb : (x == ("__debug__" : Str)) = false := by decide) :
    XE X J W (.Call (.Name x p) [] [] pos) false (fCall pm rm fn aNil) := xe_call0 hK (F.at hr hj tk) hg hm F.kp hdb
theorem w_lc {src : SemI} {tgt : SemG} {ix : List Nat} {cond : SemB} {felt : Sem1} {ifs : List Expr} {scope : Scope} {own : List (Str × Nat)} (hN : X.N.Nodup) (hi : XI X J W tg iter q src)
    (hg : ∀ (s : Shared) (H : Hp) (C : Addr) (cl : List (Str × Addr)) (fp : List Addr), XG (X.blk s H scope (compEnvC scope cl C X.env) fp) J tg ix tgt) (ht : ∀ (s : Shared) (H : Hp) (C : Addr) (cl : List (Str × Addr)) (fp : List Addr), XPs (X.blk s H scope (compEnvC scope cl C X.env) fp) J WN ifs qc cond)
    (he : ∀ (s : Shared) (H : Hp) (C : Addr) (cl : List (Str × Addr)) (fp : List Addr), XE (X.blk s H scope (compEnvC scope cl C X.env) fp) J WN elt qe felt)
    (ok : BlkOk X.N X.env.scope scope own := by exact ⟨rfl, by decide +kernel, by decide +kernel, by decide +kernel, by decide +kernel⟩) (hix : ∀ i ∈ ix, i ∈ own.map (·.2) := by decide) (hc : X.calm = true := by rfl) (hs : ∀ x, foldedSetIterable iter X.env x = pure x := by intro _; rfl)
    (nf : ∀ i ∈ own.map (·.2), NF J i := by first | exact fun _ _ => nf_none (by assumption) | exact nfs_ne (by assumption) rfl) :
    XE X J W (.ListComp elt [⟨tg, iter, ifs, 0⟩] scope pos) (q && (qc && qe)) (fLc (qc && qe) (own.map (·.2)) src tgt cond felt) := xe_lc hix hc hN hi ok hg ht he hs nf
theorem w_asgLc {i : Nat} {y : Str} {py spos : Pos} {src : SemI} {tgt : SemG} {ix : List Nat} {cond : SemB} {felt : Sem1} {ifs : List Expr} {scope : Scope} {own : List (Str × Nat)} (hN : X.N.Nodup) (hi : XI X J W tg iter q src)
    (hg : ∀ (s : Shared) (H : Hp) (C : Addr) (cl : List (Str × Addr)) (fp : List Addr), XG (X.blk s H scope (compEnvC scope cl C X.env) fp) J tg ix tgt) (ht : ∀ (s : Shared) (H : Hp) (C : Addr) (cl : List (Str × Addr)) (fp : List Addr), XPs (X.blk s H scope (compEnvC scope cl C X.env) fp) J WN ifs qc cond)
    (he : ∀ (s : Shared) (H : Hp) (C : Addr) (cl : List (Str × Addr)) (fp : List Addr), XE (X.blk s H scope (compEnvC scope cl C X.env) fp) J WN elt qe felt)
    (ok : BlkOk X.N X.env.scope scope own := by exact ⟨rfl, by decide +kernel, by decide +kernel, by decide +kernel, by decide +kernel⟩) (hix : ∀ i ∈ ix, i ∈ own.map (·.2) := by decide) (hc : X.calm = true := by rfl) (hy : X.N[i]? = some y := by rfl) (hyl : X.env.scope.names.lookup y = some .local := by rfl)
    (hsw : swapsWith (.ListComp elt [⟨tg, iter, ifs, 0⟩] scope pos) (some (.Name y py)) spos.line X.env = pure true := by rfl) (hs : ∀ x, foldedSetIterable iter X.env x = pure x := by intro _; rfl)
    (nf : ∀ i ∈ own.map (·.2), NF J i := by first | exact fun _ _ => nf_none (by assumption) | exact nfs_ne (by assumption) rfl) (nfi : NF J i := by first | exact nf_none (by assumption) | exact nf_ne (by assumption) rfl) :
    XS X J W (.Assign [.Name y py] (.ListComp elt [⟨tg, iter, ifs, 0⟩] scope pos) spos) (sAsg i (fLc (qc && qe) (own.map (·.2)) src tgt cond felt)) := xs_asgLc hix hc hN hy hyl hsw hi ok hg ht he hs nf nfi
theorem w_asgLcF {i : Nat} {y : Str} {py spos : Pos} {src : SemI} {tgt : SemG} {ix : List Nat} {cond : SemB} {felt : Sem1} {ifs : List Expr} {scope : Scope} {own : List (Str × Nat)} (hN : X.N.Nodup) (hi : XI X J W tg iter q src)
    (hg : ∀ (s : Shared) (H : Hp) (C : Addr) (cl : List (Str × Addr)) (fp : List Addr), XG (X.blk s H scope (compEnvC scope cl C X.env) fp) J tg ix tgt) (ht : ∀ (s : Shared) (H : Hp) (C : Addr) (cl : List (Str × Addr)) (fp : List Addr), XPs (X.blk s H scope (compEnvC scope cl C X.env) fp) J WN ifs qc cond)
    (he : ∀ (s : Shared) (H : Hp) (C : Addr) (cl : List (Str × Addr)) (fp : List Addr), XE (X.blk s H scope (compEnvC scope cl C X.env) fp) J WN elt qe felt)
    (ok : BlkOk X.N X.env.scope scope own := by exact ⟨rfl, by decide +kernel, by decide +kernel, by decide +kernel, by decide +kernel⟩) (hix : ∀ i ∈ ix, i ∈ own.map (·.2) := by decide) (hc : X.calm = true := by rfl) (hy : X.N[i]? = some y := by rfl) (hyl : X.env.scope.names.lookup y = some .local := by rfl)
    (hsw : swapsWith (.ListComp elt [⟨tg, iter, ifs, 0⟩] scope pos) (some (.Name y py)) spos.line X.env = pure true := by rfl) (hs : ∀ x, foldedSetIterable iter X.env x = pure x := by intro _; rfl)
    (nf : ∀ i ∈ own.map (·.2), NF J i := by first | exact fun _ _ => nf_none (by assumption) | exact nfs_ne (by assumption) rfl) (nfi : NF J i := by first | exact nf_none (by assumption) | exact nf_ne (by assumption) rfl) :
    XS X J W (.Assign [.Name y py] (.ListComp elt [⟨tg, iter, ifs, 0⟩] scope pos) spos) (sAsg i (fFrz (fLc (qc && qe) (own.map (·.2)) src tgt cond felt))) := xs_asgLcF hix hc hN hy hyl hsw hi ok hg ht he hs nf nfi
theorem w_raise {c' x : Str} {fsN : List Str} {pos2 : Pos} (T : OexC X.K (He.ga X.K c') ∧ (∀ f, f ∈ fsN → PySem.W.findIn X.K (.ref (He.ga X.K c')) f = some none) ∧ PySem.W.findIn X.K (.ref (He.ga X.K c')) "__init__" = some (some (.ref (He.ma X.K (He.ga X.K c') "__init__"))) ∧ PySem.W.typeIn X.K (.ref (He.ma X.K (He.ga X.K c') "__init__")) = some (.type "function"))
    (F : FnC X.prog X.w X.K X.mg X.base j (He.ma X.K (He.ga X.K c') "__init__") (spX fsN X.K)) (hm : X.mg x = some (.ref (He.ga X.K c'))) (hr : Room k X.A) (tk : Takes X W) (hK : J.K = X.K) (ha : XA X J W (e :: es) q fs) (hj : j + 1 ≤ k := by decide) (hl : (fsN.length ≤ 1000) := by decide) (hc : X.calm = true := by rfl) (hg : Gl X x := by rfl)
    (hdb : (x == ("__debug__" : Str)) = false := by decide) (he : starEach (e :: es) X.env = (false, eval e X.env) :: starEach es X.env := by rfl) (hpl : (backTo pos (starEach es X.env)).any (·.1) = false := by rfl) :
    XS X J W (.Raise (some (.Call (.Name x p) (e :: es) [] pos)) none pos2) (sRaise c' fsN fs) := by
  obtain ⟨⟨fd, ps, F1, hb⟩, _⟩ := F
  exact xs_raise hK hc tk T.1 T.2.1 T.2.2.1 T.2.2.2 F1 (hr.mono hj) hb hg hm hl ha hdb he hpl
end
end MV
namespace MV
open PySem PySem.Spec PyProof.Rows L2 He
theorem z_cls {K : PySem.W.Frag} {x : Str} (h : (Fm.std (.cls x)).ok K = true) : Cls K (ga K x) := cls_ok h
theorem z_noat {K : PySem.W.Frag} {x f : Str} (h : (Fm.std (.noat x f)).ok K = true) : NoAttr K (ga K x) f := noat_ok h
theorem z_meth {K : PySem.W.Frag} {x m : Str} (h : (Fm.std (.meth x m)).ok K = true) : Meth K (ga K x) m (ma K (ga K x) m) := meth_ok h
theorem z_mkr {K : PySem.W.Frag} {x : Str} (h : (Fm.std (.mkr x)).ok K = true) : Mk K (ga K x) (ma K (ga K x) "__init__") := mkr_ok h
theorem z_exm {K : PySem.W.Frag} {x y : Str} {b : Bool} (h : (Fm.std (.exm x y b)).ok K = true) : PySem.W.exmOne K (.ref (ga K x)) (.ref (ga K y)) = some b := exm_ok h
theorem fld_nil {K : PySem.W.Frag} {f : Str} : FldOk K [] f := ⟨fun c h => by cases h⟩
theorem fld_cons {K : PySem.W.Frag} {f c : Str} {cs : List Str} (h1 : Cls K (He.ga K c)) (h2 : NoAttr K (He.ga K c) f) (h : FldOk K cs f) : FldOk K (c :: cs) f := ⟨fun d hd => by
  rcases List.mem_cons.mp hd with z | z
  · rw [z]; exact ⟨h1, h2⟩
  · exact h.ok d z⟩
section
variable {X : Cx} {J : Jx} {W : WX} {e a b c tg iter elt o : Expr} {es : List Expr} {q qa qb qo : Bool} {fa fb fc : Sem1} {fs : SemA} {fo : SemR} {pos p px apos : Pos} {k j : Nat}
theorem w_rsl {i : Nat} {x : Str} (hN : X.N[i]? = some x := by rfl) (hv : Vis X.env.scope x := by first | exact .inl rfl | exact .inr (.inl rfl) | exact .inr (.inr rfl)) (hd : (x == ("__debug__" : Str)) = false := by decide) (hcd : (x == ("__classdict__" : Str)) = false := by decide) : XR X J W (.Name x p) true (rSl i) := xr_sl hN hv hd hcd
theorem w_fld {f : Str} {cs : List Str} (hK : J.K = X.K) (hf : FldOk X.K cs f) (ha : XE X J W a qa fa) (hb : attributeBase a f X.env (eval a X.env) = eval a X.env := by rfl) : XE X J W (.Attribute a f pos) qa (fOne fa (kFld f cs)) := xe_fld hK hf ha hb
theorem w_sfld {i : Nat} {x f : Str} {cs : List Str} {pos' : Pos} (hK : J.K = X.K) (hf : FldOk X.K cs f) (ha : XE X J W a qa fa) (hN : X.N[i]? = some x := by rfl) (hv : Vis X.env.scope x := by first | exact .inl rfl | exact .inr (.inl rfl) | exact .inr (.inr rfl)) (hs : swapsWith a (some (.Attribute (.Name x p) f pos')) pos.line X.env = pure false := by rfl)
    (hd : (x == ("__debug__" : Str)) = false := by decide) (hcd : (x == ("__classdict__" : Str)) = false := by decide) : XS X J W (.Assign [.Attribute (.Name x p) f pos'] a pos) (sFldS i f cs fa) := xs_fld hK hf hN hv ha hs hd hcd
theorem w_prop {c f : Str} {g : Addr} {rm : Bool} {fn : Fn} (hK : J.K = X.K) (k1 : Cls X.K (He.ga X.K c)) (hp : PropOf X.K (He.ga X.K c) f (He.ma X.K (He.ga X.K c) f) g) (F : FnC X.prog X.w X.K X.mg X.base j g (spF X.K [.bor] rm fn)) (hr : Room k X.A) (ho : XR X J W o qo fo) (hj : j + 1 ≤ k := by decide) (hab : attributeBase o f X.env (eval o X.env) = eval o X.env := by rfl) :
    XE X J W (.Attribute o f pos) false (fProp c f rm fn fo) := by
  obtain ⟨⟨fd, ps, F1, hb⟩, _⟩ := F
  exact xe_prop hK k1 hp F1 (hr.mono hj) hb ho hab
theorem w_meth {c m : Str} {fA : Addr} {pm : List PM} {rm : Bool} {fn : Fn} (F : FnC X.prog X.w X.K X.mg X.base j fA (spF X.K pm rm fn)) (k1 : Cls X.K (He.ga X.K c)) (k2 : Meth X.K (He.ga X.K c) m fA) (hr : Room k X.A) (tk : Takes X W) (hK : J.K = X.K) (ho : XR X J W o qo fo) (ha : XA X J W (e :: es) q fs) (hj : j ≤ k := by decide)
    (hst : starEach (e :: es) X.env = (false, eval e X.env) :: starEach es X.env := by rfl) (hpl : (backTo pos (starEach es X.env)).any (·.1) = false := by rfl)
    {pl : Sem Bool} (ht : eval (.Call (.Attribute o m apos) (e :: es) [] pos) X.env = (do
      let ov ← eval o X.env
      standAt apos.atName
      let (f, first) ← holding [ov] (getMethod ov m pl)
      callWith pos f first (backTo pos (starEach (e :: es) X.env)) (backToKw pos (keywordEach [] X.env))) := by rfl) :
    XE X J W (.Call (.Attribute o m apos) (e :: es) [] pos) false (fMeth c m pm rm fn fo fs) := xe_meth (pl := pl) (p := pos) hK (F.at hr hj tk) k1 k2 ho ha hst hpl ht
theorem w_meth0 {c m : Str} {fA : Addr} {pm : List PM} {rm : Bool} {fn : Fn} (F : FnC X.prog X.w X.K X.mg X.base j fA (spF X.K pm rm fn)) (k1 : Cls X.K (He.ga X.K c)) (k2 : Meth X.K (He.ga X.K c) m fA) (hr : Room k X.A) (tk : Takes X W) (hK : J.K = X.K) (ho : XR X J W o qo fo) (hj : j ≤ k := by decide)
    {pl : Sem Bool} (ht : eval (.Call (.Attribute o m apos) [] [] pos) X.env = (do
      let ov ← eval o X.env
      standAt apos.atName
      let (f, first) ← holding [ov] (getMethod ov m pl)
      callWith pos f first (backTo pos (starEach [] X.env)) (backToKw pos (keywordEach [] X.env))) := by rfl) :
    XE X J W (.Call (.Attribute o m apos) [] [] pos) false (fMeth c m pm rm fn fo aNil) := xe_meth0 (pl := pl) (p := pos) hK (F.at hr hj tk) k1 k2 ho ht
theorem w_make {c x : Str} {fA : Addr} {pm : List PM} {rm : Bool} {fn : Fn} (F : FnC X.prog X.w X.K X.mg X.base j fA (spF X.K (.io :: pm) rm fn)) (M : Mk X.K (He.ga X.K c) fA) (hm : X.mg x = some (.ref (He.ga X.K c))) (hr : Room k X.A) (tk : Takes X W) (hK : J.K = X.K) (ha : XA X J W (e :: es) q fs) (hj : j + 1 ≤ k := by decide) (hg : Gl X x := by rfl)
    (hdb : (x == ("__debug__" : Str)) = false := by decide) (he : starEach (e :: es) X.env = (false, eval e X.env) :: starEach es X.env := by rfl) (hpl : (backTo pos (starEach es X.env)).any (·.1) = false := by rfl) :
    XE X J W (.Call (.Name x p) (e :: es) [] pos) false (fMake c pm fn fs) := xe_make hK (F.make M hr hj tk) hg hm M.kp ha hdb he hpl
theorem w_make0 {c x : Str} {fA : Addr} {pm : List PM} {rm : Bool} {fn : Fn} (F : FnC X.prog X.w X.K X.mg X.base j fA (spF X.K (.io :: pm) rm fn)) (M : Mk X.K (He.ga X.K c) fA) (hm : X.mg x = some (.ref (He.ga X.K c))) (hr : Room k X.A) (tk : Takes X W) (hK : J.K = X.K) (hj : j + 1 ≤ k := by decide) (hg : Gl X x := by rfl)
    (hdb : (x == ("__debug__" : Str)) = false := by decide) : XE X J W (.Call (.Name x p) [] [] pos) false (fMake c pm fn aNil) := xe_make0 hK (F.make M hr hj tk) hg hm M.kp hdb
end
end MV
namespace MV
open PySem PySem.Spec PyProof.Rows L2 He
/-! ### clauses by tables -/
def tabX (yes no : List Str) (c : Str) : Option Bool := if yes.contains c then some true else if no.contains c then some false else none
theorem tabX_ok {K : PySem.W.Frag} {u : Value} {yes no : List Str} (h1 : ∀ c ∈ yes, PySem.W.exmOne K (.ref (ga K c)) u = some true) (h2 : ∀ c ∈ no, PySem.W.exmOne K (.ref (ga K c)) u = some false) : ∀ k b, tabX yes no k = some b → PySem.W.exmOne K (.ref (ga K k)) u = some b := fun k b h => by
  unfold tabX at h
  by_cases c1 : yes.contains k = true
  · rw [if_pos c1] at h; cases h; exact h1 k (List.contains_iff_mem.mp c1)
  · rw [if_neg c1] at h
    by_cases c2 : no.contains k = true
    · rw [if_pos c2] at h; cases h; exact h2 k (List.contains_iff_mem.mp c2)
    · rw [if_neg c2] at h; cases h
theorem all_nil {p : Str → Prop} : ∀ c ∈ ([] : List Str), p c := fun c h => by cases h
theorem all_cons {p : Str → Prop} {x : Str} {l : List Str} (h : p x) (r : ∀ c ∈ l, p c) : ∀ c ∈ x :: l, p c := fun c hc => by
  rcases List.mem_cons.mp hc with z | z
  · rw [z]; exact h
  · exact r c z
theorem names_own {X : Cx} {x : Str} {C : Addr} (hm : X.mg x = some (.ref C)) (hg : Gl X x := by rfl) (hd : (x == ("__debug__" : Str)) = false := by decide) : Names X x (.ref C) := ⟨hg, hd, .inl hm⟩
end MV
namespace MV
open PySem PySem.Spec PyProof.Rows L2 He
/-! ### a class's constants -/
theorem cval_ok {K : PySem.W.Frag} {c f : Str} {i : Int} (h : (Fm.cval c f i).ok K = true) : ∃ u, ClX.CRead K (ga K c) (.type "type") ∧ ClX.CVal K (ga K c) (.type "type") f (.int i) u := by
  obtain ⟨h1, h⟩ := ba h
  obtain ⟨h2, h3⟩ := ba h
  cases q : PySem.W.findCls K (.ref (ga K c)) (.type "type") f with
  | none => rw [q] at h3; cases h3
  | some r =>
    rw [q] at h3
    cases r with
    | val u =>
      cases u with
      | int j t =>
        have e : j = i := of_decide_eq_true h3
        subst e
        exact ⟨_, ⟨h1, eqO_ok h2⟩, ⟨q, ⟨t, rfl⟩⟩⟩
      | _ => cases h3
    | _ => cases h3
section
variable {X : Cx} {J : Jx} {W : WX} {a b c : Expr} {q qa qb : Bool} {fa fb : Sem1} {pos p : Pos}
theorem w_cval {x cn f : Str} {i : Int} (h : ∃ u, ClX.CRead X.K (ga X.K cn) (.type "type") ∧ ClX.CVal X.K (ga X.K cn) (.type "type") f (.int i) u) (hm : X.mg x = some (.ref (ga X.K cn))) (hg : Gl X x := by rfl) (hdb : (x == ("__debug__" : Str)) = false := by decide) (hb : attributeBase (.Name x p) f X.env (eval (.Name x p) X.env) = eval (.Name x p) X.env := by rfl) :
    XE X J W (.Attribute (.Name x p) f pos) true (fC (.int i)) := by
  obtain ⟨u, h1, h2⟩ := h
  exact xe_c ((ClX.pe_cval (pe_ownN hg hm hdb) hb).imp fun σ H Q h => ⟨_, _, _, u, rfl, h1, h2, h⟩) (fun _ => rfl)
/-! ### sorted, of ints -/
def srt (ns : List Int) : List Int := ns.mergeSort (fun i j => decide (i ≤ j))
theorem srt_eq {ns ns' : List Int} (h1 : ns'.Perm ns) (h2 : ns'.Pairwise (· ≤ ·)) : ns' = srt ns := by
  refine List.Perm.eq_of_pairwise (le := (· ≤ ·)) (fun a b _ _ => Int.le_antisymm) h2 ?_ (h1.trans (List.mergeSort_perm ns _).symm)
  refine (List.pairwise_mergeSort (le := fun i j => decide (i ≤ j)) (fun a b c h1 h2 => ?_) (fun a b => ?_) ns).imp fun h => of_decide_eq_true h
  · exact decide_eq_true (Int.le_trans (of_decide_eq_true h1) (of_decide_eq_true h2))
  · rcases Int.le_total a b with h | h
    · rw [decide_eq_true h]; rfl
    · rw [decide_eq_true h, Bool.or_true]
def kSrt : K1 := fun s ρ => match s.d with
  | .lst xs => (match iL xs with
    | some ns => .ok ⟨.own, .lst ((srt ns).map Vl.int)⟩ ρ
    | none => .bad)
  | _ => .bad
theorem ok_srt : Ok1 J W (fun v => rSortedI X.K [v]) kSrt := by
  rintro ρ τ σ H ⟨md, d⟩ v Q ⟨F, B, O, I⟩ m
  cases d with
  | lst xs =>
    obtain ⟨p, vs, e, g, r⟩ := I.top.list I.base
    have m : Out J W τ σ (match iL xs with
      | some ns => .ok ⟨.own, .lst ((srt ns).map Vl.int)⟩ ρ
      | none => .bad) Q := m
    cases z : iL xs with
    | none => rw [z] at m; exact m.elim
    | some ns =>
      rw [z] at m
      rw [iL_eq z] at r
      have hv := repL_ints r
      subst hv
      refine ⟨p, ns, by rw [e], SqL.of g, fun ns' l h1 h2 nl => ?_⟩
      rw [srt_eq h1 h2]
      exact m _ _ (I.drop1.new nl ⟨_, rfl, repL_of_ints _⟩)
  | _ => exact m.elim
theorem w_sorted (hm : X.mg "sorted" = none) (ha : XE X J W a qa fa) (hg : Gl X "sorted" := by rfl) (he : starEach [a] X.env = (false, eval a X.env) :: starEach [] X.env := by rfl) (hpl : (backTo pos (starEach [] X.env)).any (·.1) = false := by rfl) : XE X J W (.Call (.Name "sorted" p) [a] [] pos) qa (fOne fa kSrt) := xe_bi1 cr_sortedI ok_srt hg hm (by decide +kernel) ha (by decide) (by decide) he hpl
end
end MV
namespace MV
open PySem PySem.Spec PyProof.Rows L2 He
/-- a law's end: its def keeps its promise, whatever it may let out -/
theorem walk_mv {l : PySem.W.OpenLaw} {n k : Nat} {q : Program} {loose : List Str} {XP : (Str → Option Value) → Heap → Prop} {YP : World → Heap → Prop} {d : DefRec} {x : Str}
    (hn : l.most = some n) (hn2 : n ≤ sizeLine) (hdf : d.params.defaults = []) (hr : Room k callerA)
    (F : ∀ (w : World) (mg : Str → Option Value) (fa : Addr) (h : Heap), YP w h → h.Ns mainGlobals mg → mg d.name = some (.ref fa) →
      ∃ (K : PySem.W.Frag) (fd : FuncData) (sp : Sp), K.In h ∧ (∀ (s : Shared) (u : Value), BindsTo s fd ⟨[u], []⟩ [(x, u)]) ∧
        (∀ (H : Hp) (a : Addr) (ns : List Int), ns.length ≤ n → SqL K H a (ns.map V.int) → sp [.ref a] H (fun v _ => v = .bl true) fun _ _ _ => False) ∧
        ∀ base : Heap, K.In base → base.Ns mainGlobals mg → FnOk l.prog w K mg base (L2N.CX l.prog w) k fa fd [x] sp) :
    PySem.W.WalkO q loose XP YP l.row.toRowW d [] (fun f vs => PySem.call f vs) := by
  refine Att.attach_call hn hdf fun w s₀ s₁ mg mb fa o pm cd doc a vs ns G Y ho hd hcd hmg hobj hints hlen hg => ?_
  obtain ⟨K, fd, sp, KX, hb, hsp, hF⟩ := F w mg fa _ Y G.T.g hmg
  exact law_call KX G.T.g G.T.b G.T.builtins G.T.nolimit hg hobj hints (Nat.le_trans hlen hn2) hr hF hb (fun H hO hS => hsp H a ns hlen hS) fun H e s' x => by
    obtain ⟨_, _, _, _, _, _, _, _, _, _, _, _, z⟩ := x
    exact z
end MV
namespace MV
open PySem PySem.Spec PyProof.Rows L2 He
/-! ### own operators between two instances of one class -/
def ntA : Ar → Bool
  | .ex s => !s.m.isT
  | .sl _ => true
def fOp2 (c m : Str) (pm : List PM) (rm : Bool) (fn : Fn) (fo fb : SemR) : Sem1 := fun ρ => bnd (fo ρ) fun a ρ1 => grd (ntA a) (bnd (fb ρ1) fun b ρ2 => grd (clsOk c m ρ2 a && clsOk c m ρ2 b) (kCall pm rm fn [a, b] ρ2))
section
variable {X : Cx} {J : Jx} {W : WX} {pm : List PM} {rm : Bool} {fn : Fn} {q qo qb : Bool} {σ : St} {H : Hp} {Q : VK} {τ τ1 τ2 : List (Sv × V)} {ρ : En} {F B : Hp} {O : Addr → Option Ow}
theorem ntA_ok {a : Ar} {v : V} (h : ntA a = true) (k : Stk σ [a] [v] τ τ1) (n : NoTmp τ) : NoTmp τ1 := by
  cases a with
  | ex s =>
    rw [show τ1 = (s, v) :: τ from k]
    exact n.cons fun z => by
      have h : (!s.m.isT) = true := h
      rw [z] at h; cases h
  | sl i => obtain ⟨_, k2⟩ := (show σ[i]? = some (some v) ∧ τ1 = τ from k); rw [k2]; exact n
/-- the class of what was put, with more put above it -/
theorem clsOk_below {c m : Str} {a b : Ar} {v u : V} (h : clsOk c m ρ a = true) (k1 : Stk σ [a] [v] τ τ1) (k2 : Stk σ [b] [u] τ1 τ2) (I : Iv J ρ τ2 σ H) : ∃ x dx ws, v = .ref x ∧ H x = some (.ins (He.ga J.K c) dx ws) := by
  have I1 : Iv J ρ τ1 σ H := by
    obtain ⟨F, B, O, I⟩ := I
    exact ⟨F, B, O, I.unstk k2⟩
  obtain ⟨x, dx, ws, h1, h2, _⟩ := clsOk_at h k1 I1
  exact ⟨x, dx, ws, h1, h2⟩
theorem tOp2 {c m : Str} {fo fb : SemR} {to tb : TE} (h : ∃ ρ τ, Iv J ρ τ σ H ∧ (false = true ∨ NoTmp τ) ∧ Out J W τ σ (fOp2 c m pm rm fn fo fb ρ) Q) (hto : ∀ σ H Q, (∃ ρ τ, Iv J ρ τ σ H ∧ (qo = true ∨ NoTmp τ) ∧ OutR J W τ σ (fo ρ) Q) → to σ H Q) (htb : ∀ σ H Q, (∃ ρ τ, Iv J ρ τ σ H ∧ (qb = true ∨ NoTmp τ) ∧ OutR J W τ σ (fb ρ) Q) → tb σ H Q) :
    to σ H fun x H1 => tb σ H1 fun y H2 => ∃ a dx ws b dy us, x = .ref a ∧ y = .ref b ∧ H2 a = some (.ins (He.ga J.K c) dx ws) ∧ H2 b = some (.ins (He.ga J.K c) dy us) ∧ spF J.K pm rm fn [x, y] H2 Q (WE W σ) := by
  obtain ⟨ρ, τ, I, c0, m0⟩ := h
  have nt : NoTmp τ := c0.elim (fun z => nomatch z) id
  refine hto _ _ _ ⟨ρ, τ, I, .inr nt, ?_⟩
  unfold fOp2 at m0
  cases e : fo ρ with
  | ok a ρ1 =>
    rw [e] at m0
    intro v τ1 H1 k1 I1
    obtain ⟨ha, m1⟩ := out_grd (b := ntA a) m0
    refine htb _ _ _ ⟨ρ1, τ1, I1, .inr (ntA_ok ha k1 nt), ?_⟩
    cases e2 : fb ρ1 with
    | ok b ρ2 =>
      rw [e2] at m1
      intro u τ2 H2 k2 I2
      obtain ⟨hc, m2⟩ := out_grd (b := clsOk c m ρ2 a && clsOk c m ρ2 b) m1
      obtain ⟨hc1, hc2⟩ := Bool.and_eq_true_iff.mp hc
      obtain ⟨x, dx, ws, z1, z2⟩ := clsOk_below hc1 k1 k2 I2
      obtain ⟨y, dy, us, z3, z4, _⟩ := clsOk_at hc2 k2 I2
      exact ⟨x, dx, ws, y, dy, us, z1, z3, z2, z4, call_sp nt (stk_cons k1 k2) I2 m2⟩
    | exc cc fs ρ2 => rw [e2] at m1; exact m1
    | bad => rw [e2] at m1; exact m1
  | exc cc fs ρ1 => rw [e] at m0; exact m0
  | bad => rw [e] at m0; exact m0
theorem back_ok {pins : List (Addr × Obj)} {v : Value} {s' : Shared} (h : EP X pins σ Q v s') : PySem.W.CmpBack (EP X pins σ Q) v s' := by
  obtain ⟨z, H', I', r, q⟩ := h
  exact SlX.cmpback r ⟨z, H', I', r, q⟩
/-- a op b -/
theorem xe_own {c : Str} {f : Addr} {op : Operator} {a b : Expr} {fo fb : SemR} {pos : Pos} (hK : J.K = X.K) (hc : CallAt X W f (spF X.K pm rm fn)) (hs : PySem.W.findIn X.K (.ref (He.ga X.K c)) (PySem.dunder op.info.2) = some (some (.ref f))) (hf : PySem.W.isFn X.K (.ref f) = true) (hsf : PySem.W.selfFirst X.K (He.ga X.K c) = true)
    (ho : XR X J W a qo fo) (hb : XR X J W b qb fb) : XE X J W (.BinOp a op b pos) false (fOp2 c (PySem.dunder op.info.2) pm rm fn fo fb) := by
  refine ⟨⟨fun pins s σ H Q I h => ?_⟩⟩
  refine wpAny_BinOp (binT ho.pe hb.pe I (tOp2 h (fun _ _ _ z => z) fun _ _ _ z => z) fun v u s2 x y H2 I2 rx ry qq => ?_)
  obtain ⟨a', dx, ws, b', dy, us, rfl, rfl, ha, hb', q⟩ := qq
  cases rx
  cases ry
  rw [hK] at ha hb' q
  obtain ⟨mA, Ja, _⟩ := ins_get I2.hok ha
  obtain ⟨mB, Jb, _⟩ := ins_get I2.hok hb'
  obtain ⟨od, Ja, _⟩ := Ja.look
  obtain ⟨od', Jb, _⟩ := Jb.look
  obtain ⟨m, hF⟩ := I2.fr
  exact PySem.W.binop_K hF I2.ok.mod.kin Ja Jb.type hsf hs hf (wpAny_mono (hc _ _ _ _ _ [.ref a', .ref b'] [.ref a', .ref b'] I2 (.cons rfl (.cons rfl .nil)) q) (fun _ _ z => back_ok z) fun _ _ z => z)
theorem cmp_plain {op : CmpOp} (h : op ≠ .Is ∧ op ≠ .IsNot ∧ op ≠ .In ∧ op ≠ .NotIn) {v u : Value} : compareOp op v u = richCompare op v u := by
  obtain ⟨h1, h2, h3, h4⟩ := h
  cases op <;> first | rfl | contradiction
/-- a <= b and the like -/
theorem xe_ownC {c dn : Str} {f : Addr} {op : CmpOp} {a b : Expr} {fo fb : SemR} {pos : Pos} (hK : J.K = X.K) (hu : X.A.units < cLine) (hc : CallAt X W f (spF X.K pm rm fn)) (hd : (cmpInfo op).2.1 = dn) (hplain : op ≠ .Is ∧ op ≠ .IsNot ∧ op ≠ .In ∧ op ≠ .NotIn) (hs : PySem.W.findIn X.K (.ref (He.ga X.K c)) dn = some (some (.ref f))) (hf : PySem.W.isFn X.K (.ref f) = true)
    (ho : XR X J W a qo fo) (hb : XR X J W b qb fb) (hm : behindInMarks op b = false) : XE X J W (.Compare a [op] [b] pos) false (fOp2 c dn pm rm fn fo fb) := by
  refine ⟨⟨fun pins s σ H Q I h => ?_⟩⟩
  refine wpAny_Compare1 (binT ho.pe hb.pe I (tOp2 h (fun _ _ _ z => z) fun _ _ _ z => z) fun v u s2 x y H2 I2 rx ry qq => ?_) hm
  obtain ⟨a', dx, ws, b', dy, us, rfl, rfl, ha, hb', q⟩ := qq
  cases rx
  cases ry
  rw [hK] at ha hb' q
  subst hd
  obtain ⟨mA, Ja, _⟩ := ins_get I2.hok ha
  obtain ⟨mB, Jb, _⟩ := ins_get I2.hok hb'
  obtain ⟨od, Ja, _⟩ := Ja.look
  obtain ⟨od', Jb, _⟩ := Jb.look
  obtain ⟨m, hF⟩ := I2.fr
  rw [cmp_plain hplain]
  exact PySem.W.cmp_K hu hF I2.ok.mod.kin Ja Jb.type (by simp [PySem.W.notFirst]) hs hf (wpAny_mono (hc _ _ _ _ _ [.ref a', .ref b'] [.ref a', .ref b'] I2 (.cons rfl (.cons rfl .nil)) q) (fun _ _ z => back_ok z) fun _ _ z => z)
/-- .. as a test -/
theorem xt_ownC {c dn : Str} {f : Addr} {op : CmpOp} {a b : Expr} {fo fb : SemR} {pos : Pos} (hK : J.K = X.K) (hu : X.A.units < cLine) (hc : CallAt X W f (spF X.K pm rm fn)) (hd : (cmpInfo op).2.1 = dn) (hplain : op ≠ .Is ∧ op ≠ .IsNot ∧ op ≠ .In ∧ op ≠ .NotIn) (hs : PySem.W.findIn X.K (.ref (He.ga X.K c)) dn = some (some (.ref f))) (hf : PySem.W.isFn X.K (.ref f) = true)
    (ho : XR X J W a qo fo) (hb : XR X J W b qb fb) (hm : behindInMarks op b = false) : XT X J W (.Compare a [op] [b] pos) false (fTst (fOp2 c dn pm rm fn fo fb)) := by
  refine ⟨⟨fun pins s σ H Q I h => ?_⟩⟩
  have h1 := tT_tst h
  refine wpAny_isTrue_Compare1 (thn (ho.pe.run pins s σ H _ I (tOp2 h1 (fun _ _ _ z => z) fun _ _ _ z => z)) fun v s1 ⟨x, H1, I1, r1, q1⟩ => thn (hb.pe.run pins s1 σ H1 _ I1 q1) fun u s2 ⟨y, H2, I2, r2, q2⟩ => ?_) hm
  obtain ⟨a', dx, ws, b', dy, us, rfl, rfl, ha, hb', q⟩ := q2
  cases r1
  cases r2
  rw [hK] at ha hb' q
  subst hd
  obtain ⟨mA, Ja, _⟩ := ins_get I2.hok ha
  obtain ⟨mB, Jb, _⟩ := ins_get I2.hok hb'
  obtain ⟨od, Ja, _⟩ := Ja.look
  obtain ⟨od', Jb, _⟩ := Jb.look
  obtain ⟨m, hF⟩ := I2.fr
  rw [cmp_plain hplain]
  refine PySem.W.cmp_K hu hF I2.ok.mod.kin Ja Jb.type (by simp [PySem.W.notFirst]) hs hf (wpAny_mono (hc _ _ _ _ _ [.ref a', .ref b'] [.ref a', .ref b'] I2 (.cons rfl (.cons rfl .nil)) q) (fun cv s3 z => ?_) fun _ _ z => z)
  obtain ⟨z, H3, I3, r3, k, e, q3⟩ := z
  subst e
  cases r3
  exact wpAny_truthy_bool ⟨H3, I3, q3⟩
end
end MV
namespace MV
open PySem PySem.Spec PyProof.Rows L2 He
/-! ### static methods, by the class's name -/
structure StatC (K : PySem.W.Frag) (C : Addr) (m : Str) (p g : Addr) : Prop where
  rd : ClX.CRead K C (.type "type")
  at_ : PySem.W.findCls K (.ref C) (.type "type") m = some (.get (.builtin "staticmethod.__get__") (.ref p) .none (.ref C))
  rc : ∃ rest, PySem.W.recIn K p "staticmethod" = some (.ref g :: rest)
theorem stat_ok {K : PySem.W.Frag} {c m : Str} (h : (Fm.stat c m).ok K = true) : StatC K (ga K c) m (ma K (ga K c) m) (recAt "staticmethod" K c m) := by
  obtain ⟨h1, h⟩ := ba h
  obtain ⟨h2, h⟩ := ba h
  obtain ⟨h3, h4⟩ := ba h
  refine ⟨⟨h1, eqO_ok h2⟩, ?_, ?_⟩
  · cases q : PySem.W.findCls K (.ref (ga K c)) (.type "type") m with
    | none => rw [q] at h4; cases h4
    | some r =>
      rw [q] at h4
      split at h4
      · rename_i b p C e
        cases e
        obtain ⟨z1, z⟩ := ba h4
        obtain ⟨z2, z3⟩ := ba z
        rw [of_decide_eq_true z1, of_decide_eq_true z2, of_decide_eq_true z3]
      · cases h4
  · have h3 := of_decide_eq_true h3
    cases q : PySem.W.recIn K (ma K (ga K c) m) "staticmethod" with
    | none => rw [q] at h3; cases h3
    | some vs =>
      rw [q] at h3
      cases vs with
      | nil => cases h3
      | cons v vs =>
        have : v = .ref (recAt "staticmethod" K c m) := Option.some.inj h3
        exact ⟨vs, by rw [this]⟩
section
variable {X : Cx} {J : Jx} {W : WX} {pins : List (Addr × Obj)} {σ : St} {H : Hp} {s : Shared} {C p g : Addr} {m : Str} {A : Around} {E : Value → Shared → Prop} {pm : List PM} {rm : Bool} {fn : Fn} {q : Bool} {fs : SemA}
theorem getstat_ok {b : Bool} {Q : Value → Shared → Prop} (I : Inv X pins σ H s) (k : StatC X.K C m p g) (h : ∀ s', Inv X pins σ H s' → Q (.ref g) s') : wpAny (model X.prog X.w) A (getAttr (.ref C) m b) Q E s := by
  obtain ⟨rest, hp⟩ := k.rc
  refine PySem.W.cls_bind I.kIn k.rd.rd k.at_ ?_
  exact wpAny_call (PySem.W.sm_get (s := { s with toks := s.toks + 1 }) I.kIn hp (PySem.W.handed_on rfl (h _ (I.tok _))))
/-- C.m(e, ..) -/
theorem xe_stat {x : Str} {e : Expr} {es : List Expr} {p1 apos pos : Pos} {pl : Sem Bool} (hK : J.K = X.K) (hc : CallAt X W g (spF X.K pm rm fn)) (k : StatC X.K C m p g) (hk : PySem.W.keepIn X.K (.ref g) = true) (hg : Gl X x) (hm : X.mg x = some (.ref C)) (ha : XA X J W (e :: es) q fs)
    (hdb : (x == ("__debug__" : Str)) = false := by decide) (hst : starEach (e :: es) X.env = (false, eval e X.env) :: starEach es X.env := by rfl) (hpl : (backTo pos (starEach es X.env)).any (·.1) = false := by rfl)
    (ht : eval (.Call (.Attribute (.Name x p1) m apos) (e :: es) [] pos) X.env = (do
      let ov ← eval (.Name x p1) X.env
      standAt apos.atName
      let (f, first) ← holding [ov] (getMethod ov m pl)
      callWith pos f first (backTo pos (starEach (e :: es) X.env)) (backToKw pos (keywordEach [] X.env))) := by rfl) :
    XE X J W (.Call (.Attribute (.Name x p1) m apos) (e :: es) [] pos) false (fCall pm rm fn fs) := by
  refine ⟨⟨fun pins s σ H Q I h => ?_⟩⟩
  refine PySem.W.methodCall_KW (pl := pl) (thn ((pe_ownN (C := C) hg hm hdb).run pins s σ H (fun y H1 => y = .ref C ∧ tA J W q fs σ H1 fun vs H2 => spF J.K pm rm fn vs H2 Q (WE W σ)) I ⟨rfl, tA_call h⟩) fun u s1 ⟨y, H1, I1, rx, ey, q1⟩ => ?_) ht
  subst ey
  cases rx
  refine PySem.W.method_cls I1.kIn k.rd.ga (getstat_ok I1 k fun s2 I2 => ?_)
  exact PySem.W.callWith_K (first := []) (h₀ := X.base) I2.ok.mod.kin hk (thn (ha.pa.run pos pins s2 σ H1 _ I2 q1) fun us s3 ⟨vs, H2, I3, r, q2⟩ => ⟨I3.kIn, hc _ _ _ _ _ us vs I3 r (hK ▸ q2)⟩) hst hpl
theorem w_stat {c x : Str} {e : Expr} {es : List Expr} {p1 apos pos : Pos} {j k : Nat} {pl : Sem Bool} (F : FnC X.prog X.w X.K X.mg X.base j g (spF X.K pm rm fn)) (S : StatC X.K (ga X.K c) m p g) (hm : X.mg x = some (.ref (ga X.K c))) (hr : Room k X.A) (tk : Takes X W) (hK : J.K = X.K) (ha : XA X J W (e :: es) q fs) (hj : j ≤ k := by decide) (hg : Gl X x := by rfl)
    (hdb : (x == ("__debug__" : Str)) = false := by decide) (hst : starEach (e :: es) X.env = (false, eval e X.env) :: starEach es X.env := by rfl) (hpl : (backTo pos (starEach es X.env)).any (·.1) = false := by rfl)
    (ht : eval (.Call (.Attribute (.Name x p1) m apos) (e :: es) [] pos) X.env = (do
      let ov ← eval (.Name x p1) X.env
      standAt apos.atName
      let (f, first) ← holding [ov] (getMethod ov m pl)
      callWith pos f first (backTo pos (starEach (e :: es) X.env)) (backToKw pos (keywordEach [] X.env))) := by rfl) :
    XE X J W (.Call (.Attribute (.Name x p1) m apos) (e :: es) [] pos) false (fCall pm rm fn fs) := xe_stat (pl := pl) hK (F.at hr hj tk) S F.kp hg hm ha hdb hst hpl ht
theorem w_own {c : Str} {op : Operator} {a b : Expr} {fo fb : SemR} {pos : Pos} {f : Addr} {j k : Nat} {qo qb : Bool} (F : FnC X.prog X.w X.K X.mg X.base j f (spF X.K pm rm fn)) (S : PySem.W.findIn X.K (.ref (ga X.K c)) (PySem.dunder op.info.2) = some (some (.ref f)) ∧ PySem.W.isFn X.K (.ref f) = true ∧ PySem.W.selfFirst X.K (ga X.K c) = true) (hr : Room k X.A) (tk : Takes X W) (hK : J.K = X.K)
    (ho : XR X J W a qo fo) (hb : XR X J W b qb fb) (hj : j ≤ k := by decide) : XE X J W (.BinOp a op b pos) false (fOp2 c (PySem.dunder op.info.2) pm rm fn fo fb) := xe_own hK (F.at hr hj tk) S.1 S.2.1 S.2.2 ho hb
theorem w_ownC {c dn : Str} {op : CmpOp} {a b : Expr} {fo fb : SemR} {pos : Pos} {f : Addr} {j k : Nat} {qo qb : Bool} (F : FnC X.prog X.w X.K X.mg X.base j f (spF X.K pm rm fn)) (S : PySem.W.findIn X.K (.ref (ga X.K c)) dn = some (some (.ref f)) ∧ PySem.W.isFn X.K (.ref f) = true ∧ PySem.W.selfFirst X.K (ga X.K c) = true) (hr : Room k X.A) (tk : Takes X W) (hK : J.K = X.K)
    (ho : XR X J W a qo fo) (hb : XR X J W b qb fb) (hj : j ≤ k := by decide) (hd : (cmpInfo op).2.1 = dn := by rfl) (hplain : op ≠ .Is ∧ op ≠ .IsNot ∧ op ≠ .In ∧ op ≠ .NotIn := by decide) (hm : behindInMarks op b = false := by rfl) : XE X J W (.Compare a [op] [b] pos) false (fOp2 c dn pm rm fn fo fb) := xe_ownC hK (by have := hr.un; omega) (F.at hr hj tk) hd hplain S.1 S.2.1 ho hb hm
theorem t_ownC {c dn : Str} {op : CmpOp} {a b : Expr} {fo fb : SemR} {pos : Pos} {f : Addr} {j k : Nat} {qo qb : Bool} (F : FnC X.prog X.w X.K X.mg X.base j f (spF X.K pm rm fn)) (S : PySem.W.findIn X.K (.ref (ga X.K c)) dn = some (some (.ref f)) ∧ PySem.W.isFn X.K (.ref f) = true ∧ PySem.W.selfFirst X.K (ga X.K c) = true) (hr : Room k X.A) (tk : Takes X W) (hK : J.K = X.K)
    (ho : XR X J W a qo fo) (hb : XR X J W b qb fb) (hj : j ≤ k := by decide) (hd : (cmpInfo op).2.1 = dn := by rfl) (hplain : op ≠ .Is ∧ op ≠ .IsNot ∧ op ≠ .In ∧ op ≠ .NotIn := by decide) (hm : behindInMarks op b = false := by rfl) : XT X J W (.Compare a [op] [b] pos) false (fTst (fOp2 c dn pm rm fn fo fb)) := xt_ownC hK (by have := hr.un; omega) (F.at hr hj tk) hd hplain S.1 S.2.1 ho hb hm
end
end MV
namespace MV
open PySem PySem.Spec PyProof.Rows L2 He
section
variable {X : Cx} {J : Jx} {W : WX} {a b tg : Expr} {qa qb : Bool} {fa fb : Sem1}
theorem w_r3 {p p1 p2 pos : Pos} {k1 : Nat} (hm : X.mg "range" = none) (ha : XE X J W a qa fa) (hb : XE X J W b qb fb) (hc : X.calm = true := by rfl) (hg : Gl X "range" := by rfl)
    (he : starEach [a, b, .UnaryOp .USub (.Constant (.int 1) k1 p1) p2] X.env = (false, eval a X.env) :: starEach [b, .UnaryOp .USub (.Constant (.int 1) k1 p1) p2] X.env := by rfl)
    (he2 : starEach [b, .UnaryOp .USub (.Constant (.int 1) k1 p1) p2] X.env = (false, eval b X.env) :: starEach [.UnaryOp .USub (.Constant (.int 1) k1 p1) p2] X.env := by rfl)
    (he3 : starEach [.UnaryOp .USub (.Constant (.int 1) k1 p1) p2] X.env = (false, eval (.UnaryOp .USub (.Constant (.int 1) k1 p1) p2) X.env) :: starEach [] X.env := by rfl) (hpl : (backTo pos (starEach [b, .UnaryOp .USub (.Constant (.int 1) k1 p1) p2] X.env)).any (·.1) = false := by rfl) :
    XI X J W tg (.Call (.Name "range" p) [a, b, .UnaryOp .USub (.Constant (.int 1) k1 p1) p2] [] pos) (qa && qb) (iR3 fa fb) :=
  xi_r3 hg hm ha hb (pi_range3 hg hm (pa_cons ha.pe (pa_cons hb.pe (pa_cons (pe_un un_neg pe_int) pa_nil he3) he2) he) he hpl)
end
end MV
namespace MV
open PySem PySem.Spec PyProof.Rows L2 He
/-! ### list(range(..)) -/
def rgL (a b : Int) : List Vl := (List.range (b - a).toNat).map fun (i : Nat) => Vl.int (a + (i : Int))
def rgOkB (a b : Int) : Bool := c62 a && (c62 b && decide ((b - a).toNat ≤ 16777216))
def fLR (a b : Int) (ρ : En) : Rs Sv := grd (rgOkB a b) (.ok ⟨.own, .lst (rgL a b)⟩ ρ)
def fLR1 (fa : Sem1) : Sem1 := fOne fa (kI fun j ρ => fLR 0 j ρ)
def fLR2 (qb : Bool) (fa fb : Sem1) : Sem1 := fun ρ => bnd (fa ρ) (kI fun i ρ1 => bnd (fb ρ1) (kI fun j ρ2 => fLR i j ρ2))
section
variable {X : Cx} {J : Jx} {W : WX} {a b : Expr} {q qa qb : Bool} {fa fb : Sem1} {pos p pr posr : Pos} {τ : List (Sv × V)} {σ : St} {H : Hp} {ρ : En} {Q : VK}
theorem rgL_rep {K : PySem.W.Frag} {G : Hp} {i j : Int} : RepL K G (rgL i j) (rgV i j) := by
  have : ∀ l : List Nat, RepL K G (l.map fun (k : Nat) => Vl.int (i + (k : Int))) (l.map fun k => V.int (i + (k : Nat))) := by
    intro l
    induction l with
    | nil => exact .nil
    | cons x l ih => exact .cons rfl ih
  exact this _
theorem lr_ok {i j : Int} (I : Iv J ρ τ σ H) (m : Out J W τ σ (fLR i j ρ) Q) : RgOk i j ∧ ∀ q, H q = none → Q (.ref q) (upd H q (.lst (rgV i j))) := by
  obtain ⟨h, m⟩ := out_grd (b := rgOkB i j) m
  obtain ⟨h1, h2⟩ := Bool.and_eq_true_iff.mp h
  obtain ⟨h3, h4⟩ := Bool.and_eq_true_iff.mp h2
  obtain ⟨z1, z2⟩ := c62_ok h1
  obtain ⟨z3, z4⟩ := c62_ok h3
  obtain ⟨F, B, O, I⟩ := I
  exact ⟨⟨z1, z2, z3, z4, of_decide_eq_true h4⟩, fun q nq => m _ _ (I.new nq ⟨_, rfl, rgL_rep⟩)⟩
theorem w_lr1 (hl : X.mg "list" = none) (hr : X.mg "range" = none) (ha : XE X J W a qa fa) (hc : X.calm = true := by rfl) (hg : Gl X "list" := by rfl) (hgr : Gl X "range" := by rfl) (na : starEach [a] X.env = (false, eval a X.env) :: starEach [] X.env := by rfl)
    (nr : starEach [.Call (.Name "range" pr) [a] [] posr] X.env = (false, eval (.Call (.Name "range" pr) [a] [] posr) X.env) :: starEach [] X.env := by rfl) :
    XE X J W (.Call (.Name "list" p) [.Call (.Name "range" pr) [a] [] posr] [] pos) qa (fLR1 fa) := by
  refine ⟨(pe_listRg hc hg hl (prg_1 hgr hr ha.pe na) nr).imp fun σ H Q h => ?_⟩
  obtain ⟨ρ, τ, I, c, m⟩ := h
  exact tE_int I c m fun j ρ1 H1 I1 m1 => ⟨j, rfl, lr_ok I1 m1⟩
theorem w_lr2 (hl : X.mg "list" = none) (hr : X.mg "range" = none) (ha : XE X J W a qa fa) (hb : XE X J W b qb fb) (hc : X.calm = true := by rfl) (hg : Gl X "list" := by rfl) (hgr : Gl X "range" := by rfl) (na : starEach [a, b] X.env = (false, eval a X.env) :: starEach [b] X.env := by rfl)
    (nb : starEach [b] X.env = (false, eval b X.env) :: starEach [] X.env := by rfl) (hp : (backTo posr (starEach [b] X.env)).any (·.1) = false := by rfl)
    (nr : starEach [.Call (.Name "range" pr) [a, b] [] posr] X.env = (false, eval (.Call (.Name "range" pr) [a, b] [] posr) X.env) :: starEach [] X.env := by rfl) :
    XE X J W (.Call (.Name "list" p) [.Call (.Name "range" pr) [a, b] [] posr] [] pos) (qa && qb) (fLR2 qb fa fb) := by
  refine ⟨(pe_listRg hc hg hl (prg_2 hgr hr ha.pe hb.pe na nb hp) nr).imp fun σ H Q h => ?_⟩
  obtain ⟨ρ, τ, I, c, m⟩ := h
  exact tE_int I (qand c).1 m fun i ρ1 H1 I1 m1 => tE_int I1 (qand c).2 m1 fun j ρ2 H2 I2 m2 => ⟨i, j, rfl, rfl, lr_ok I2 m2⟩
end
end MV
namespace MV
open PySem PySem.Spec PyProof.Rows L2 He
/-! ### suites: what is known of the caught class -/
theorem tabX_yes {yes no : List Str} {k : Str} (h : tabX yes no k = some true) : k ∈ yes := by
  unfold tabX at h
  by_cases c1 : yes.contains k = true
  · exact List.contains_iff_mem.mp c1
  · rw [if_neg c1] at h
    split at h <;> cases h
theorem kitAny_l {K : PySem.W.Frag} {t : Value} : ∀ (l : List (Value × Bool)), (∀ p ∈ l, PySem.W.kitOne K t p.1 = some p.2) → PySem.W.kitAny K t (l.map fun (p : Value × Bool) => p.1) = some (l.any fun (p : Value × Bool) => p.2)
  | [], _ => rfl
  | (u, b) :: l, h => by
    have h1 := h (u, b) List.mem_cons_self
    have ih := kitAny_l l fun p hp => h p (List.mem_cons_of_mem _ hp)
    show (match PySem.W.kitOne K t u with | some true => some true | some false => PySem.W.kitAny K t (l.map fun (p : Value × Bool) => p.1) | none => none) = some (((u, b) :: l).any fun (p : Value × Bool) => p.2)
    rw [h1]
    cases b with
    | true => rfl
    | false => exact ih
theorem kp_nil {K : PySem.W.Frag} {t : Value} : ∀ p ∈ ([] : List (Value × Bool)), PySem.W.kitOne K t p.1 = some p.2 := fun p h => by cases h
theorem kp_cons {K : PySem.W.Frag} {t u : Value} {b : Bool} {l : List (Value × Bool)} (h : PySem.W.kitOne K t u = some b) (r : ∀ p ∈ l, PySem.W.kitOne K t p.1 = some p.2) : ∀ p ∈ (u, b) :: l, PySem.W.kitOne K t p.1 = some p.2 := fun p hp => by
  rcases List.mem_cons.mp hp with z | z
  · rw [z]; exact h
  · exact r p z
end MV
namespace MV
open PySem PySem.Spec PyProof.Rows L2 L2H HotX He
/-! ### while an exception is handled: a list is walked to its end -/
theorem lend_hot {prog : Program} {w : World} {A : Around} {E : Value → Shared → Prop} {s : Shared} {it l x1 : Addr} {i : Nat} {items : Array Value} {Q : Option Value → Shared → Prop} (hot : HotAt A x1 s.heap) (ne : it ≠ x1) (hit : s.heap.IsListIter it l i) (hl : s.heap.IsList l items) (hx : items[i]? = none)
    (hQ : ∀ h', (∀ b o, b ≠ it → s.heap.get? b = some o → h'.get? b = some o) → Q none { s with heap := h' }) : wpAny (model prog w) A (pyNext (.ref it)) Q E s := by
  obtain ⟨hh, oo, ws, g1, dd, cc⟩ := hot
  obtain ⟨oi, gi, ci, di⟩ := id hit
  obtain ⟨ol, gl, _, nl, dl⟩ := hl
  have up : ∀ (h' : Heap) b o, b ≠ it → h' = s.heap.update it (Obj.mapFields (·.setIfInBounds 0 .none)) → s.heap.get? b = some o → h'.get? b = some o := fun h' b o hb e g => by
    rw [e, Heap.get?_update_other _ _ (fun z => hb z.symm)]
    exact g
  unfold pyNext
  refine wpAny_bind (wpAny_attempt (wpAny_callSpecial?_slot (name := Str.ofString "__next__") hit.typeIs slot_listiter_next (wpAny_call_entry slot_listiter_next hit.typeIs entry_listiter_next ?_ (args_listiter_next _))))
  show wpAny _ _ (field (.ref it) 0 >>= _) _ _ s
  refine wpAny_bind (wpAny_field gi di (x := .ref l) rfl ?_)
  show wpAny _ _ (if (Value.ref l == Value.none) = true then _ else _) _ _ s
  rw [if_neg (by exact Bool.false_ne_true)]
  show wpAny _ _ (field (.ref it) 1 >>= _) _ _ s
  refine wpAny_bind (wpAny_field gi di (x := .int i 0) rfl ?_)
  show wpAny _ _ (seqItems? (.ref l) >>= _) _ _ s
  refine wpAny_bind (wpAny_seqItems gl dl ?_)
  simp only [Int.toNat_natCast, hx]
  refine wpAny_bind (wpAny_rule (wpAny_bind (wpAny_setField gi di (by simp) ?_)))
  show wpAny _ _ (newExc (.type "StopIteration") [] >>= _) _ _ _
  refine wpAny_bind ?_
  simp only [newExc, newTuple]
  refine wpAny_bind (wpAny_newObj_type ?_ (by size_fits))
  refine wpAny_bind (m := firstArgMember _ _) (wpAny_of_eq (a := Value.none) (by first | rfl | (simp only [firstArgMember]; rfl)) ?_)
  refine wpAny_newObj_type ?_ (by size_fits)
  have g2 := up _ x1 oo (fun z => ne z.symm) rfl g1
  refine raiseNew_hot ⟨hh, oo, ws, Heap.get?_push_of_some _ (Heap.get?_push_of_some _ g2), dd, cc⟩ (Nat.ne_of_lt (Heap.lt_size (Heap.get?_push_of_some _ g2))) (Heap.get?_push_size _ rfl) rfl (by first | (simp; done) | (simp; omega)) ?_
  refine wpAny_bind (wpAny_isInstance (T := "StopIteration") (b := true) ⟨_, Heap.get?_update_self _ (Heap.get?_push_size _ rfl) rfl, rfl⟩ isSubtype_stop ?_)
  refine wpAny_pure (hQ _ fun b o hb e => ?_)
  have g3 := up _ b o hb rfl e
  rw [Heap.get?_update_other _ _ (Nat.ne_of_gt (Heap.lt_size (Heap.get?_push_of_some _ g3)))]
  exact Heap.get?_push_of_some _ (Heap.get?_push_of_some _ g3)
theorem turn_listH {P : Program} {w : World} {K : PySem.W.Frag} {tg : Expr} (a it : Addr) : TurnH P w K tg (Itl K a) [it] it (fun i h => h.IsListIter it a i) := by
  have T := turn_list (P := P) (w := w) (K := K) (tg := tg) a it
  refine ⟨T.mem, T.obj, T.keep, ?_, ?_, T.self⟩
  · intro X hP hw hK hc i pins s σ H E I hf st ⟨xs, x, hq, hx⟩
    subst hP hw hK
    obtain ⟨its, rv, pl, _⟩ := I.list hq
    obtain ⟨u, hu, ru⟩ := rv.get hx
    obtain ⟨f0, f1, f2, f3, f4, f5⟩ := hf it List.mem_cons_self
    refine wpAny_pyNext_list_item st pl.isList (x := u) (by rw [List.getElem?_toArray]; exact hu) fun h' st' sb => ?_
    have I' : Inv X pins σ H { s with heap := h' } := I.turned (t' := s.toks) (fun b o hb e => (sb.2 b hb).trans e) f0 f1 f3 f4 f5
    obtain ⟨o, eo, co, d⟩ := id st'
    exact ⟨u, rfl, go_of (s := { s with heap := h' }) eo co d (by decide) ⟨x, H, I', ru, ⟨rfl, fun ys hy => (I.list_inj hy hq) ▸ hx⟩, st', fun b hb => (hf b hb).1⟩⟩
  · intro X hP hw hK ⟨p, ⟨hh, v1, e1, c1⟩, hp⟩ i pins s σ H E I hf st ⟨xs, hq, hx⟩
    subst hP hw hK
    obtain ⟨its, rv, pl, _⟩ := I.list hq
    obtain ⟨f0, f1, f2, f3, f4, f5⟩ := hf it List.mem_cons_self
    have hl := rv.length
    exact lend_hot (x1 := p.1) ⟨hh, p.2, v1, (I.pin p (List.mem_append_left _ hp)).1, e1, c1⟩ (fun z => f5 p (List.mem_append_left _ hp) z.symm) st pl.isList (by simp; omega) fun h' eb => ⟨rfl, I.turned (t' := s.toks) eb f0 f1 f3 f4 f5⟩
theorem pi_listH {X : Cx} {tg l : Expr} {tl : TE} (hl : PE X l tl) : PIH X tg l (iList X.K tl) := by
  refine ⟨fun pins s σ H R I h => thn (hl.run pins s σ H _ I h) fun v s1 ⟨x, H1, I1, r1, a, e, ⟨xs, hq⟩, q⟩ => ?_⟩
  subst e
  cases r1
  obtain ⟨its, rv, pl, _⟩ := I1.list hq
  refine wpAny_pyIter_list pl.isList ⟨s1.heap.objs.size, [s1.heap.objs.size], _, _, H1, rfl, I1.kept (t' := s1.toks) (fun b o e => Heap.get?_push_of_some _ e), turn_listH a _, ⟨_, Heap.get?_push_size _ rfl, rfl, rfl⟩, fun b hb => ?_, q⟩
  rw [List.mem_singleton.mp hb]
  exact I1.fpOk (Nat.le_refl _) (I1.hok.fresh (Nat.le_refl _))
theorem _root_.L2H.PIH.imp {X : Cx} {tg e : Expr} {t t' : TI} (h : PIH X tg e t) (i : ∀ σ H Q, t' σ H Q → t σ H Q) : PIH X tg e t' := ⟨fun pins s σ H Q I q => h.run pins s σ H Q I (i σ H Q q)⟩
/-! ### a comprehension there -/
/-- the block's context, the handled exception pinned -/
abbrev blkH (X : Cx) (s : Shared) (H : Hp) (scope : Scope) (cenv : Env) (fp : List Addr) (p : Addr × Obj) : Cx := (X.blk s H scope cenv fp).tr [p] fun _ _ => False
theorem blkH_hot {X : Cx} {s : Shared} {H : Hp} {scope : Scope} {cenv : Env} {fp : List Addr} {p : Addr × Obj} (h : Hot1 X.A p) : HotC (blkH X s H scope cenv fp p) := ⟨p, h, List.mem_singleton.mpr rfl⟩
section
variable {X : Cx} {elt tg iter : Expr} {ifs : List Expr} {scope : Scope} {own : List (Str × Nat)} {pos : Pos} {wi : TI} {g : TG} {tt : TT} {te : TE}
theorem pe_lcH (hot : HotC X) (hN : X.N.Nodup) (hi : PIH X tg iter wi) (ok : BlkOk X.N X.env.scope scope own)
    (hg : ∀ (s : Shared) (H : Hp) (C : Addr) (cl : List (Str × Addr)) (fp : List Addr) (p : Addr × Obj), Hot1 X.A p → PG (blkH X s H scope (compEnvC scope cl C X.env) fp p) tg g)
    (ht : ∀ (s : Shared) (H : Hp) (C : Addr) (cl : List (Str × Addr)) (fp : List Addr) (p : Addr × Obj), Hot1 X.A p → PTs (blkH X s H scope (compEnvC scope cl C X.env) fp p) ifs tt)
    (he : ∀ (s : Shared) (H : Hp) (C : Addr) (cl : List (Str × Addr)) (fp : List Addr) (p : Addr × Obj), Hot1 X.A p → PE (blkH X s H scope (compEnvC scope cl C X.env) fp p) elt te)
    (hs : ∀ x, foldedSetIterable iter X.env x = pure x := by intro _; rfl) : PE X (.ListComp elt [⟨tg, iter, ifs, 0⟩] scope pos) (tLc wi g tt te (own.map (·.2))) := by
  refine ⟨fun pins s σ H Q I h => ?_⟩
  rw [eval_ListComp]
  have hfree : ∀ y ∈ scope.names, y.2 = .free → ∃ c, X.env.cells.lookup y.1 = some c := fun y hy e => (ok.free y hy e).elim (fun k => I.ok.has _ (.inl k)) fun k => I.ok.has _ (.inr k)
  refine wpAny_comprehension_free (use := none) rfl hs (closure_ok hfree) ok.kind (fun y hy e => (ok.uniq y hy).trans (congrArg some e)) (thn (hi.run pins s σ H _ I h) fun xv s1 hx => thn hx fun itv s2 ⟨it, fp, tn, J, H2, e, I2, T, st2, f2, q⟩ => ?_)
  subst e
  refine wpAny_newObj_type (newEnv_comp ?_) (by show 0 ≤ sizeLine; decide)
  generalize hD : s2.heap.objs.size = D
  have hDn : H2 D = none := I2.hok.fresh (Nat.le_of_eq hD)
  obtain ⟨W, ⟨m0, w0⟩, turn⟩ := q D hDn
  generalize es3 : ({ s2 with heap := s2.heap.push { cls := .type "list", data := .seq ([] : List Value).toArray } } : Shared) = s3
  have I3 : Inv X pins σ (upd H2 D (.lst [])) s3 := by
    subst es3
    refine I2.laid (t' := s2.toks) (fun b o e => Heap.get?_push_of_some _ e) (Nat.le_of_eq hD) ⟨Nat.zero_le _, [], 0, .nil, ?_⟩
    rw [← hD]
    exact Heap.get?_push_size _ rfl
  have eh3 : s3.heap = s2.heap.push { cls := .type "list", data := .seq ([] : List Value).toArray } := by subst es3; rfl
  have f3 : ∀ b ∈ fp, FpOk X pins (upd H2 D (.lst [])) b ∧ b < s3.heap.objs.size := fun b hb => by
    obtain ⟨o, eb, _⟩ := T.obj _ _ st2 b hb
    have lt := Heap.lt_size eb
    refine ⟨⟨(upd_ne (by rw [← hD]; exact Nat.ne_of_lt lt)).trans (f2 b hb).1, (f2 b hb).2⟩, ?_⟩
    rw [eh3, Heap.size_push]
    exact Nat.lt_succ_of_lt lt
  have st3 : tn 0 s3.heap := T.keep _ _ _ st2 fun b _ o e => eh3 ▸ Heap.get?_push_of_some _ e
  obtain ⟨p, hp1, hpn⟩ := hot
  have P3 := I3.pin p (List.mem_append_left _ hpn)
  have I4 := block_start I3 ok hN f3
  have hG := hg s3 (upd H2 D (.lst [])) s3.heap.objs.size (cellsFrom (s3.heap.objs.size + 1) scope.names (cloFrom X.env.cells scope.names [])) fp p hp1
  have hT := ht s3 (upd H2 D (.lst [])) s3.heap.objs.size (cellsFrom (s3.heap.objs.size + 1) scope.names (cloFrom X.env.cells scope.names [])) fp p hp1
  have hE := he s3 (upd H2 D (.lst [])) s3.heap.objs.size (cellsFrom (s3.heap.objs.size + 1) scope.names (cloFrom X.env.cells scope.names [])) fp p hp1
  show codeAny _ _ (.compStart (.ListComp elt [⟨tg, iter, ifs, 0⟩] scope pos) 0 (.ref it) (.ref D) (compEnvC scope (cellsFrom (s3.heap.objs.size + 1) scope.names (cloFrom X.env.cells scope.names [])) s3.heap.objs.size X.env)) (compPost (model X.prog X.w) X.A X.xe none (EP X pins σ Q) (.ref D) s3.heap.objs.size) { s3 with heap := pushCells (s3.heap.push { cls := .type "dict", data := .dict #[] }) scope.names }
  have ceL : (compEnvC scope (cellsFrom (s3.heap.objs.size + 1) scope.names (cloFrom X.env.cells scope.names [])) s3.heap.objs.size X.env).locals = s3.heap.objs.size := rfl
  generalize compEnvC scope (cellsFrom (s3.heap.objs.size + 1) scope.names (cloFrom X.env.cells scope.names [])) s3.heap.objs.size X.env = ce at I4 hG hT hE ceL ⊢
  generalize upd H2 D (.lst []) = H3 at I3 I4 hG hT hE w0 f3 P3
  generalize es4 : ({ s3 with heap := pushCells (s3.heap.push { cls := .type "dict", data := .dict #[] }) scope.names } : Shared) = s4 at I4 ⊢
  have up4 : ∀ b o, s3.heap.get? b = some o → s4.heap.get? b = some o := fun b o e => by subst es4; exact pushCells_keeps _ _ _ _ (Heap.get?_push_of_some _ e)
  have st4 : tn 0 s4.heap := T.keep _ _ _ st3 fun b _ o e => up4 b o e
  -- the exception stays pinned in the block
  have I5 : Inv (blkH X s3 H3 scope ce fp p) [] (wipe σ (own.map (·.2))) H3 s4 := (I4.pins_of (pins' := [p]) fun q hq => by
    rw [List.mem_singleton.mp hq]
    exact ⟨up4 _ _ P3.1, P3.2.1, fun z => Nat.ne_of_lt (Heap.lt_size P3.1) (z.trans ceL), fun hm => (List.mem_cons.mp (I3.stkSub p.1 hm)).elim P3.2.2.1 P3.2.2.2.1, P3.2.2.2.2⟩).toTry _
  have stat : ∀ {σ' : St} {H' : Hp} {s' : Shared}, Inv (blkH X s3 H3 scope ce fp p) [] σ' H' s' → (∀ b ∈ fp, H' b = none) → ∀ b ∈ fp, FpOk (blkH X s3 H3 scope ce fp p) [] H' b := fun {σ' H' s'} I' hn b hb =>
    ⟨hn b hb, (I'.ok.exf b hb).1, I'.ok.exfs b hb, .inl hb, fun x c e => (I'.ok.exf b hb).2 x c e, fun q hq => by
      have : q = p := List.mem_singleton.mp (by rw [List.append_nil] at hq; exact hq)
      rw [this]
      exact (f3 b hb).1.2.2.2.2.2 p (List.mem_append_left _ hpn)⟩
  have hotB : HotC (blkH X s3 H3 scope ce fp p) := blkH_hot hp1
  refine codeAny_compStart_list ?_ (T.self X.A 0 _ _ _ st4 ?_) <;>
  · refine compLoop_any (fun n s' => ∃ i H', Inv (blkH X s3 H3 scope ce fp p) [] (wipe σ (own.map (·.2))) H' s' ∧ tn i s'.heap ∧ (∀ b ∈ fp, H' b = none) ∧ W i n H') ?_ m0 ⟨0, H3, I5, st4, fun b hb => (f3 b hb).1.1, w0⟩
    rintro n sa ⟨i, Ha, Ia, sta, na, wa⟩
    rcases turn i n Ha wa with ⟨stop, qq⟩ | ⟨go, Nx, hNx, step⟩
    · refine thnF (T.done (blkH X s3 H3 scope ce fp p) rfl rfl rfl hotB i [] sa _ Ha (fun _ _ => False) Ia (stat Ia na) sta stop) fun r sb ⟨hr, Ib⟩ => ?_
      subst hr
      have Ic : Inv X pins σ Ha sb := I3.call' (ch := fp) Ib.os Ib.base Ib.hok Ib.bare fun b hb => ⟨(f3 b hb).1.2.2.2.1, (f3 b hb).1.2.1, (f3 b hb).1.2.2.2.2.1, (f3 b hb).1.2.2.2.2.2⟩
      have nC : Ha s3.heap.objs.size = none := ceL ▸ (show Ha ce.locals = none from Ib.free)
      obtain ⟨m, hn, _⟩ := Ib.loc
      obtain ⟨f0, f1, _, f3', f4, f5⟩ := I3.fpOk (Nat.le_refl _) nC
      exact ⟨m, ceL ▸ (show sb.heap.Ns ce.locals m from hn), fun h'' sB => ⟨.ref D, Ha, Ic.turned (t' := sb.toks) (fun b o hb e => (sB.2 b hb).trans e) f0 f1 f3' f4 f5, rfl, qq⟩⟩
    · refine thnF (T.item (blkH X s3 H3 scope ce fp p) rfl rfl rfl hotB i [] sa _ Ha (fun _ _ => False) Ia (stat Ia na) sta go) fun r sb ⟨u, hr, hb⟩ => ?_
      subst hr
      refine thnF hb fun _ sc ⟨x, Hc, Ic, rc, yc, stc, nc⟩ => ?_
      refine thnF (hG.run _ sc _ Hc x u _ (Ic.pinned (stat Ic nc) (T.obj _ _ stc)) rc (step x Hc yc)) fun _ sd ⟨σd, Hd, Id, wd, qd⟩ => ?_
      refine thnF (hT.run _ sd σd Hd _ Id qd) fun b se ⟨He, Ie, qe⟩ => ?_
      have fin : ∀ {s' : Shared} {H' : Hp}, Inv (blkH X s3 H3 scope ce fp p) ([] ++ pinsAt fp sc.heap) σd H' s' → Nx H' → ∃ m, m < n ∧ ∃ i H', Inv (blkH X s3 H3 scope ce fp p) [] (wipe σ (own.map (·.2))) H' s' ∧ tn i s'.heap ∧ (∀ b ∈ fp, H' b = none) ∧ W i m H' := fun {s' H'} I' nx => by
        obtain ⟨m', lt, w'⟩ := hNx H' nx
        have kp : ∀ b ∈ fp, ∀ o, sc.heap.get? b = some o → s'.heap.get? b = some o ∧ H' b = none := fun b hb o e => ⟨(I'.pin (b, o) (List.mem_append_right _ (List.mem_append_right _ (mem_pinsAt hb e)))).1, (I'.pin (b, o) (List.mem_append_right _ (List.mem_append_right _ (mem_pinsAt hb e)))).2.1⟩
        refine ⟨m', lt, i + 1, H', (I'.unpinned (pins := [])).weak (by rw [← wd, wipe_length]) (fun j v e => (wipe_some (wd ▸ e)).1), T.keep _ _ _ stc fun b hb o e => (kp b hb o e).1, fun b hb => ?_, w'⟩
        obtain ⟨o, eo, _⟩ := T.obj _ _ stc b hb
        exact (kp b hb o eo).2
      cases b with
      | false =>
        simp only [Bool.false_eq_true, if_false] at qe ⊢
        exact fin Ie qe
      | true =>
        simp only [if_true] at qe ⊢
        refine thnF (hE.run _ se σd He _ Ie qe) fun z sf ⟨yv, Hf, If, rf, acc, hDf, hzf, nx⟩ => ?_
        exact app_ok (X := blkH X s3 H3 scope ce fp p) If hDf hzf rf fun sg Ig => fin Ig nx
end
end MV
namespace MV
open PySem PySem.Spec PyProof.Rows L2 L2H He
/-! ### defs that are called while an exception is handled -/
structure XIH (X : Cx) (J : Jx) (W : WX) (tg iter : Expr) (q : Bool) (f : SemI) : Prop where
  pi : PIH X tg iter (tI J W q f)
structure FnCH (P : Program) (w : World) (K : PySem.W.Frag) (mg : Str → Option Value) (base : Heap) (k : Nat) (f : Addr) (sp : Sp) : Prop where
  ex : ∃ fd ps, FnH P w K mg base (L2N.CX P w) k f fd ps sp ∧ Binds K fd ps []
  kp : PySem.W.keepIn K (.ref f) = true
theorem FnCH.at {X : Cx} {W : WX} {k j : Nat} {f : Addr} {sp : Sp} (F : FnCH X.prog X.w X.K X.mg X.base j f sp) (hr : RoomH k X.A) (hj : j ≤ k) (hot : HotC X) (tk : Takes X W) : CallAt X W f sp := by
  obtain ⟨⟨fd, ps, F, hb⟩, _⟩ := F
  exact fun pins σ H s Q us vs I r h => run_fnH (E := WE W) F (hr.mono hj) hot hb (passAt tk σ) I r h
theorem fn_mvH {P : Program} {w : World} {K : PySem.W.Frag} {mg : Str → Option Value} {base : Heap} {x qual : Str} {params : Arguments} {body : List Stmt} {scope : Scope} {dvs : List V} {kws : List (Str × V)} {f : Addr} {fd : FuncData} {N ps : List Str} {k : Nat} {pm : List PM} {rm : Bool} {bd : SemS}
    (F : FunD K x qual params body scope dvs kws f fd) (S : FnScope N ps scope) (hp : pm.length = ps.length)
    (hb : ∀ (cdv : Value) (A : Around) (outer : List Env) (s : Shared) (H : Hp) (E : XK) (p : Addr × Obj) (J : Jx), J.K = K → J.fx = none → RoomH k (A.deeper (envOfC qual scope s.heap.objs.size f cdv)) → HotC (cxH (L2N.CX P w) P w K mg base N qual scope f cdv A outer s H E p) →
      XB (cxH (L2N.CX P w) P w K mg base N qual scope f cdv A outer s H E p) J (fun cls d _ H => E cls d H) body bd) :
    FnH P w K mg base (L2N.CX P w) (k + 1) f fd ps (spF K pm rm (runB pm rm N.length bd)) := by
  have hpl : ps.length ≤ N.length := by have := congrArg List.length S.pre; rw [List.length_take] at this; omega
  obtain ⟨oc, od, dV, kV, doc, pm', an, cdv, ct, osl, rfl, lk, hcd, _, _⟩ := F.ex
  refine fn_ofH lk hcd S (fun vs H Q E h => ?_) fun A outer s H vs Q E p hot hr h => ?_
  · obtain ⟨F0, ios, ds, _, _, a, _⟩ := h
    rw [(a.len 0).2.1, hp]
  · obtain ⟨F0, ios, ds, hF, nd, a, m⟩ := h
    exact ⟨_, (hb cdv A outer s H E p ⟨K, H, F0, (ioIx pm 0).zip ios, none⟩ rfl rfl hr ⟨p, hot, List.mem_singleton.mpr rfl⟩).pss, initE pm ds N.length, [], entry (by rw [hp]; exact hpl) hF nd a (argsR_io a), fun _ h => (by simp at h), body_ends (a.len 0).2.2 m⟩
theorem tk_cxH {P : Program} {w : World} {K : PySem.W.Frag} {mg : Str → Option Value} {base : Heap} {N : List Str} {qual : Str} {scope : Scope} {f : Addr} {cdv : Value} {A : Around} {outer : List Env} {s : Shared} {H : Hp} {E : XK} {p : Addr × Obj} :
    Takes (cxH (L2N.CX P w) P w K mg base N qual scope f cdv A outer s H E p) (fun cls d _ H => E cls d H) := L2N.takes_of rfl rfl rfl rfl
theorem po_cxH {P : Program} {w : World} {K : PySem.W.Frag} {mg : Str → Option Value} {base : Heap} {N : List Str} {qual : Str} {scope : Scope} {f : Addr} {cdv : Value} {A : Around} {outer : List Env} {s : Shared} {H : Hp} {E : XK} {p : Addr × Obj} :
    PassesOwn (model P w) (cxH (L2N.CX P w) P w K mg base N qual scope f cdv A outer s H E p).A (cxH (L2N.CX P w) P w K mg base N qual scope f cdv A outer s H E p).env (cxH (L2N.CX P w) P w K mg base N qual scope f cdv A outer s H E p).xe := passes_of (X := cxH (L2N.CX P w) P w K mg base N qual scope f cdv A outer s H E p) rfl
theorem un64H {k : Nat} {A : Around} (r : RoomH k A) : A.units + 64 < cLine := by have := r.un; omega
/-- a suite is such a place -/
theorem suite_hot {X : Cx} {a : Addr} {oe : Obj} {pn : List (Addr × Obj)} {cls : Value} {d : Option Addr} (hz : L2N.Zn cls d oe) (hf : ∃ vs, oe.data = .fields vs) : HotC (X.suite a ((a, oe) :: pn)) := by
  obtain ⟨vs, e⟩ := hf
  exact ⟨(a, oe), ⟨rfl, vs, e, hz.2.2 vs e⟩, List.mem_cons_self⟩
theorem suite_room {k : Nat} {X : Cx} {a : Addr} {pn : List (Addr × Obj)} (r : Room k X.A) : RoomH k (X.suite a pn).A := ⟨r.dp, r.un⟩
theorem suite_roomH {k : Nat} {X : Cx} {a : Addr} {pn : List (Addr × Obj)} (r : RoomH k X.A) : RoomH k (X.suite a pn).A := ⟨r.dp, r.un⟩
section
variable {X : Cx} {J : Jx} {W : WX} {e a b c tg iter elt : Expr} {es : List Expr} {q qa qb qc qe : Bool} {fa fb : Sem1} {fs : SemA} {pos p apos : Pos} {k j : Nat}
theorem h_list (ha : XE X J W iter qa fa) : XIH X J W tg iter qa (iSrc fa kItL) := ⟨(pi_listH ha.pe).imp fun σ H R h => cv_list h⟩
theorem h_call {pm : List PM} {rm : Bool} {fn : Fn} {x : Str} {fA : Addr} (F : FnCH X.prog X.w X.K X.mg X.base j fA (spF X.K pm rm fn)) (hm : X.mg x = some (.ref fA)) (hot : HotC X) (hr : RoomH k X.A) (tk : Takes X W) (hK : J.K = X.K) (ha : XA X J W (e :: es) q fs) (hj : j ≤ k := by decide) (hg : Gl X x := by rfl)
    (hdb : (x == ("__debug__" : Str)) = false := by decide) (he : starEach (e :: es) X.env = (false, eval e X.env) :: starEach es X.env := by rfl) (hpl : (backTo pos (starEach es X.env)).any (·.1) = false := by rfl) :
    XE X J W (.Call (.Name x p) (e :: es) [] pos) false (fCall pm rm fn fs) := xe_call hK (F.at hr hj hot tk) hg hm F.kp ha hdb he hpl
theorem h_lc {src : SemI} {tgt : SemG} {ix : List Nat} {cond : SemB} {felt : Sem1} {ifs : List Expr} {scope : Scope} {own : List (Str × Nat)} (hot : HotC X) (hN : X.N.Nodup) (hi : XIH X J W tg iter q src)
    (hg : ∀ (s : Shared) (H : Hp) (C : Addr) (cl : List (Str × Addr)) (fp : List Addr) (p : Addr × Obj), Hot1 X.A p → XG (blkH X s H scope (compEnvC scope cl C X.env) fp p) J tg ix tgt)
    (ht : ∀ (s : Shared) (H : Hp) (C : Addr) (cl : List (Str × Addr)) (fp : List Addr) (p : Addr × Obj), Hot1 X.A p → XPs (blkH X s H scope (compEnvC scope cl C X.env) fp p) J WN ifs qc cond)
    (he : ∀ (s : Shared) (H : Hp) (C : Addr) (cl : List (Str × Addr)) (fp : List Addr) (p : Addr × Obj), Hot1 X.A p → XE (blkH X s H scope (compEnvC scope cl C X.env) fp p) J WN elt qe felt)
    (ok : BlkOk X.N X.env.scope scope own := by exact ⟨rfl, by decide +kernel, by decide +kernel, by decide +kernel, by decide +kernel⟩) (hix : ∀ i ∈ ix, i ∈ own.map (·.2) := by decide) (hs : ∀ x, foldedSetIterable iter X.env x = pure x := by intro _; rfl)
    (nf : ∀ i ∈ own.map (·.2), NF J i := by first | exact fun _ _ => nf_none (by assumption) | exact nfs_ne (by assumption) rfl) :
    XE X J W (.ListComp elt [⟨tg, iter, ifs, 0⟩] scope pos) (q && (qc && qe)) (fLc (qc && qe) (own.map (·.2)) src tgt cond felt) :=
  ⟨(pe_lcH hot hN hi.pi ok (fun s H C cl fp p hp => (hg s H C cl fp p hp).pg) (fun s H C cl fp p hp => (ht s H C cl fp p hp).pts) (fun s H C cl fp p hp => (he s H C cl fp p hp).pe) hs).imp fun σ H Q h => lc_ok nf hix h⟩
theorem names_bi {x : Str} {T : String} (hm : X.mg x = none) (hv : bootBuiltins x = some (.type T) := by decide +kernel) (hg : Gl X x := by rfl) (hd : (x == ("__debug__" : Str)) = false := by decide) (hn : x ≠ "__name__" := by decide) : Names X x (.type T) := ⟨hg, hd, .inr ⟨hm, hv, hn⟩⟩
end
end MV
namespace MV
/-- the whole numbers from lo on, n of them -/
def iv (lo : Int) (n : Nat) : List Int := (List.range n).map fun (k : Nat) => lo + (k : Int)
theorem iv_length {lo : Int} {n : Nat} : (iv lo n).length = n := by unfold iv; simp
theorem mem_iv {x lo : Int} {n : Nat} : x ∈ iv lo n ↔ lo ≤ x ∧ x < lo + n := by
  unfold iv
  rw [List.mem_map]
  constructor
  · rintro ⟨k, hk, rfl⟩
    have := List.mem_range.mp hk
    omega
  · rintro ⟨h1, h2⟩
    exact ⟨(x - lo).toNat, List.mem_range.mpr (by omega), by omega⟩
theorem nodup_iv {lo : Int} {n : Nat} : (iv lo n).Nodup := by
  unfold iv List.Nodup
  rw [List.pairwise_map]
  exact List.nodup_range.imp fun h e => h (by omega)
theorem asc_iv {lo : Int} {n : Nat} : (iv lo n).Pairwise (· ≤ ·) := by
  unfold iv
  rw [List.pairwise_map]
  exact List.pairwise_lt_range.imp fun h => by omega
theorem iv_zero {lo : Int} : iv lo 0 = [] := rfl
theorem iv_succ {lo : Int} {n : Nat} : iv lo (n + 1) = iv lo n ++ [lo + (n : Int)] := by
  unfold iv
  rw [List.range_succ, List.map_append]; rfl
theorem iv_get {lo : Int} {n i : Nat} (h : i < n) : (iv lo n)[i]? = some (lo + i) := by
  unfold iv
  rw [List.getElem?_map, List.getElem?_range h]; rfl
/-! sums -/
def sm {α : Type} (l : List α) (f : α → Int) : Int := (l.map f).sum
theorem sm_nil {α : Type} {f : α → Int} : sm [] f = 0 := rfl
theorem sm_cons {α : Type} {a : α} {l : List α} {f : α → Int} : sm (a :: l) f = f a + sm l f := by unfold sm; simp
theorem sm_app {α : Type} {l m : List α} {f : α → Int} : sm (l ++ m) f = sm l f + sm m f := by unfold sm; simp
theorem sm_add {α : Type} {l : List α} {f g : α → Int} : sm l (fun x => f x + g x) = sm l f + sm l g := by
  induction l with
  | nil => rfl
  | cons a l ih => rw [sm_cons, sm_cons, sm_cons, ih]; omega
theorem sm_sub {α : Type} {l : List α} {f g : α → Int} : sm l (fun x => f x - g x) = sm l f - sm l g := by
  induction l with
  | nil => rfl
  | cons a l ih => rw [sm_cons, sm_cons, sm_cons, ih]; omega
theorem sm_mul {α : Type} {l : List α} {f : α → Int} {c : Int} : sm l (fun x => c * f x) = c * sm l f := by
  induction l with
  | nil => simp [sm_nil]
  | cons a l ih => rw [sm_cons, sm_cons, ih, Int.mul_add]
theorem sm_zero {α : Type} {l : List α} : sm l (fun _ => 0) = 0 := by
  induction l with
  | nil => rfl
  | cons a l ih => rw [sm_cons, ih]; rfl
theorem sm_congr {α : Type} {l : List α} {f g : α → Int} (h : ∀ x ∈ l, f x = g x) : sm l f = sm l g := by
  unfold sm; rw [List.map_congr_left h]
theorem sm_comm {α β : Type} {l : List α} {m : List β} {f : α → β → Int} : sm l (fun a => sm m (f a)) = sm m (fun b => sm l fun a => f a b) := by
  induction l with
  | nil => rw [sm_nil]; exact sm_zero.symm
  | cons a l ih =>
    rw [sm_cons, ih, ← sm_add]
    exact sm_congr fun b _ => (sm_cons (f := fun a => f a b)).symm
theorem sm_perm {α : Type} {l m : List α} {f : α → Int} (h : l.Perm m) : sm l f = sm m f := by
  induction h with
  | nil => rfl
  | cons a _ ih => rw [sm_cons, sm_cons, ih]
  | swap a b l => rw [sm_cons, sm_cons, sm_cons, sm_cons]; omega
  | trans _ _ i j => exact i.trans j
theorem sm_map {α β : Type} {l : List α} {g : α → β} {f : β → Int} : sm (l.map g) f = sm l fun x => f (g x) := by
  unfold sm; rw [List.map_map]; rfl
theorem sm_id {l : List Int} : sm l (fun x => x) = l.sum := by unfold sm; rw [List.map_id']
theorem sm_le {α : Type} {l : List α} {f : α → Int} (h : ∀ x ∈ l, 0 ≤ f x) : 0 ≤ sm l f ∧ ∀ x ∈ l, f x ≤ sm l f := by
  induction l with
  | nil => exact ⟨by rw [sm_nil]; omega, fun x hx => by cases hx⟩
  | cons a l ih =>
    have ⟨i1, i2⟩ := ih fun x hx => h x (List.mem_cons_of_mem _ hx)
    have h0 := h a List.mem_cons_self
    rw [sm_cons]
    refine ⟨by omega, fun x hx => ?_⟩
    rcases List.mem_cons.mp hx with e | e
    · rw [e]; omega
    · have := i2 x e; omega
def ind (p : Prop) [Decidable p] : Int := if p then 1 else 0
theorem sm_count {α : Type} {l : List α} {p : α → Prop} [DecidablePred p] : sm l (fun x => ind (p x)) = ((l.filter fun x => decide (p x)).length : Int) := by
  induction l with
  | nil => rfl
  | cons a l ih =>
    rw [sm_cons, ih]
    unfold ind
    by_cases h : p a
    · rw [if_pos h, List.filter_cons_of_pos (p := fun x => decide (p x)) (decide_eq_true h), List.length_cons]; omega
    · rw [if_neg h, List.filter_cons_of_neg (p := fun x => decide (p x)) (by simp [h])]; omega
/-! heights -/
def hAt (hs : List Int) (p : Int) : Int := hs.getD (p % (hs.length : Int)).toNat 0
def land (hs : List Int) (p : Int) : Int := p + hAt hs p
/-- the places where the places of one cycle land, taken around -/
def tgs (hs : List Int) : List Int := (List.range hs.length).map fun (i : Nat) => ((i : Int) + hs.getD i 0) % (hs.length : Int)
structure Gd (hs : List Int) : Prop where
  l1 : 1 ≤ hs.length
  l2 : hs.length ≤ 6
  lo : ∀ h ∈ hs, 0 ≤ h
  hi : ∀ h ∈ hs, h ≤ 96
  pm : (tgs hs).Perm (iv 0 hs.length)
theorem getD_mem {hs : List Int} {i : Nat} (h : i < hs.length) : hs.getD i 0 ∈ hs := by
  rw [List.getD_eq_getElem?_getD, List.getElem?_eq_getElem h]
  exact List.getElem_mem h
section
variable {hs : List Int}
theorem modlt (h : 1 ≤ hs.length) (p : Int) : (p % (hs.length : Int)).toNat < hs.length ∧ ((p % (hs.length : Int)).toNat : Int) = p % (hs.length : Int) := by
  have h0 : (0 : Int) ≤ p % (hs.length : Int) := Int.emod_nonneg _ (by omega)
  have h1 : p % (hs.length : Int) < (hs.length : Int) := Int.emod_lt_of_pos _ (by omega)
  omega
theorem hAt_mem (h : 1 ≤ hs.length) (p : Int) : hAt hs p ∈ hs := getD_mem (modlt h p).1
theorem Gd.hlo (g : Gd hs) (p : Int) : 0 ≤ hAt hs p := g.lo _ (hAt_mem g.l1 p)
theorem Gd.hhi (g : Gd hs) (p : Int) : hAt hs p ≤ 96 := g.hi _ (hAt_mem g.l1 p)
theorem hAt_mod {p q : Int} (h : p % (hs.length : Int) = q % (hs.length : Int)) : hAt hs p = hAt hs q := by unfold hAt; rw [h]
theorem hAt_nat {i : Nat} (h : i < hs.length) : hAt hs (i : Int) = hs.getD i 0 := by
  unfold hAt
  rw [Int.emod_eq_of_lt (by omega) (by omega)]; rfl
theorem Gd.inj (g : Gd hs) {p q : Int} (e : land hs p = land hs q) : p = q := by
  have nd : (tgs hs).Nodup := g.pm.nodup_iff.mpr nodup_iv
  have hp := modlt g.l1 p
  have hq := modlt g.l1 q
  have l1 := g.l1
  have key : ∀ r : Int, (((r % (hs.length : Int)).toNat : Int) + hs.getD (r % (hs.length : Int)).toNat 0) % (hs.length : Int) = (land hs r) % (hs.length : Int) := fun r => by
    have hr := modlt g.l1 r
    unfold land hAt
    rw [hr.2, Int.emod_add_emod]
  have e2 : (tgs hs)[(p % (hs.length : Int)).toNat]? = (tgs hs)[(q % (hs.length : Int)).toNat]? := by
    unfold tgs
    rw [List.getElem?_map, List.getElem?_map, List.getElem?_range hp.1, List.getElem?_range hq.1]
    exact congrArg some ((key p).trans (by rw [e]; exact (key q).symm))
  have e3 : (p % (hs.length : Int)).toNat = (q % (hs.length : Int)).toNat := by
    have h1 : (p % (hs.length : Int)).toNat < (tgs hs).length := by unfold tgs; rw [List.length_map, List.length_range]; exact hp.1
    exact (List.getElem?_inj h1 nd).mp e2
  have e4 : p % (hs.length : Int) = q % (hs.length : Int) := by omega
  have e5 := hAt_mod e4
  unfold land at e
  omega
theorem Gd.sur (g : Gd hs) (q : Int) : ∃ i : Nat, i < hs.length ∧ ((i : Int) + hs.getD i 0) % (hs.length : Int) = q % (hs.length : Int) := by
  have hq := modlt g.l1 q
  have : q % (hs.length : Int) ∈ tgs hs := g.pm.mem_iff.mpr (mem_iv.mpr (by omega))
  unfold tgs at this
  obtain ⟨i, h1, h2⟩ := List.mem_map.mp this
  exact ⟨i, List.mem_range.mp h1, h2⟩
theorem sub_of_mod {n i h q : Int} (n0 : 0 < n) (i0 : 0 ≤ i) (i1 : i < n) (e : (i + h) % n = q % n) : (q - h) % n = i := by
  have : (q - h) % n = i % n := by
    rw [Int.emod_eq_emod_iff_emod_sub_eq_zero] at e ⊢
    have e2 : (i + h - q) = -(q - h - i) := by omega
    rw [e2] at e
    exact Int.emod_eq_zero_of_dvd (Int.dvd_neg.mp (Int.dvd_of_emod_eq_zero e))
  rw [this, Int.emod_eq_of_lt i0 i1]
/-- the came list -/
structure Cm (hs c : List Int) : Prop where
  len : c.length = hs.length
  at_ : ∀ i : Nat, i < hs.length → c.getD (((i : Int) + hs.getD i 0) % (hs.length : Int)).toNat 0 = ((i : Int) + hs.getD i 0) % (hs.length : Int) - hs.getD i 0
def cm (c : List Int) (q : Int) : Int := hAt c q + q - q % (c.length : Int)
theorem Cm.land {c : List Int} (g : Gd hs) (m : Cm hs c) (q : Int) : land hs (cm c q) = q := by
  obtain ⟨i, h1, h2⟩ := g.sur q
  have l1 := g.l1
  have e : cm c q = q - hs.getD i 0 := by
    unfold cm hAt
    rw [m.len, ← h2, m.at_ i h1]; omega
  have e2 : hAt hs (q - hs.getD i 0) = hs.getD i 0 := by
    unfold hAt
    rw [sub_of_mod (by omega) (by omega) (by omega) h2]; rfl
  rw [e]
  unfold MV.land
  rw [e2]; omega
theorem Cm.iff {c : List Int} (g : Gd hs) (m : Cm hs c) (p q : Int) : MV.land hs p = q ↔ p = cm c q :=
  ⟨fun e => g.inj (e.trans (m.land g q).symm), fun e => by rw [e]; exact m.land g q⟩
/-! how many are in the air -/
theorem step_div {n y : Int} (h1 : 1 ≤ n) (h2 : n ≤ 6) : y / n - (y - 1) / n = ind (y % n = 0) := by
  unfold ind
  have : n = 1 ∨ n = 2 ∨ n = 3 ∨ n = 4 ∨ n = 5 ∨ n = 6 := by omega
  rcases this with rfl | rfl | rfl | rfl | rfl | rfl <;> split <;> omega
theorem win {n g h i : Int} (h1 : 1 ≤ n) (h2 : n ≤ 6) (i0 : 0 ≤ i) (i1 : i < n) (h0 : 0 ≤ h) : ∀ m : Nat, sm (iv 0 m) (fun k => ind ((g - 1 - k) % n = i ∧ g ≤ g - 1 - k + h)) = (g - 1 - i) / n - (g - 1 - (if (m : Int) ≤ h then (m : Int) else h) - i) / n
  | 0 => by
    show 0 = _
    rw [if_pos (by omega)]
    simp
  | m + 1 => by
    rw [iv_succ, sm_app, win h1 h2 i0 i1 h0 m, sm_cons, sm_nil]
    by_cases c : (m : Int) < h
    · rw [if_pos (by omega), if_pos (by omega)]
      have s := step_div (n := n) (y := g - 1 - m - i) h1 h2
      have e : ind ((g - 1 - m - i) % n = 0) = ind ((g - 1 - (0 + (m : Int))) % n = i ∧ g ≤ g - 1 - (0 + (m : Int)) + h) := by
        unfold ind
        have : ((g - 1 - m - i) % n = 0) ↔ ((g - 1 - (0 + (m : Int))) % n = i ∧ g ≤ g - 1 - (0 + (m : Int)) + h) := by
          rw [Int.zero_add]
          constructor
          · intro z
            refine ⟨?_, by omega⟩
            have := Int.emod_emod_of_dvd
            have z2 : (g - 1 - m) % n = i % n := (Int.emod_eq_emod_iff_emod_sub_eq_zero).mpr z
            rw [z2, Int.emod_eq_of_lt i0 i1]
          · rintro ⟨z, _⟩
            have z2 : (g - 1 - m) % n = i % n := by rw [z, Int.emod_eq_of_lt i0 i1]
            exact (Int.emod_eq_emod_iff_emod_sub_eq_zero).mp z2
        by_cases w : (g - 1 - m - i) % n = 0
        · rw [if_pos w, if_pos (this.mp w)]
        · rw [if_neg w, if_neg fun z => w (this.mpr z)]
      rw [← e, ← s]
      rw [show g - 1 - ((m + 1 : Nat) : Int) - i = g - 1 - m - i - 1 by omega]
      omega
    · have e : ind ((g - 1 - (0 + (m : Int))) % n = i ∧ g ≤ g - 1 - (0 + (m : Int)) + h) = 0 := by
        unfold ind; rw [if_neg]; omega
      rw [e, if_neg (show ¬ ((m + 1 : Nat) : Int) ≤ h by omega)]
      by_cases c2 : (m : Int) = h
      · rw [if_pos (show (m : Int) ≤ h by omega), c2]; omega
      · rw [if_neg (show ¬ (m : Int) ≤ h by omega)]; omega
theorem one_class {n : Nat} {f : Nat → Int} {r : Nat} (h : r < n) : sm (List.range n) (fun i => if r = i then f i else 0) = f r := by
  induction n with
  | zero => omega
  | succ n ih =>
    rw [List.range_succ, sm_app, sm_cons, sm_nil]
    by_cases c : r = n
    · subst c
      have : sm (List.range r) (fun i => if r = i then f i else 0) = 0 := (sm_congr (g := fun _ => 0) fun x hx => if_neg (show ¬ r = x by have := List.mem_range.mp hx; omega)).trans sm_zero
      rw [this, if_pos rfl]; omega
    · rw [ih (by omega), if_neg c]; omega
theorem Gd.sum (g : Gd hs) : hs.sum = (hs.length : Int) * sm (List.range hs.length) (fun i => ((i : Int) + hs.getD i 0) / (hs.length : Int)) := by
  have e0 : hs = (List.range hs.length).map fun i => hs.getD i 0 := by
    apply List.ext_getElem
    · simp
    · intro i h1 h2
      rw [List.getElem_map, List.getElem_range, List.getD_eq_getElem?_getD, List.getElem?_eq_getElem h1]; rfl
  have e1 : hs.sum = sm (List.range hs.length) (fun i => hs.getD i 0) := by
    show hs.sum = ((List.range hs.length).map fun i => hs.getD i 0).sum
    rw [← e0]
  have e2 : sm (List.range hs.length) (fun i => ((i : Int) + hs.getD i 0) % (hs.length : Int)) = sm (List.range hs.length) (fun i => (i : Int)) := by
    have := sm_perm (f := fun x => x) g.pm
    unfold tgs iv at this
    rw [sm_map, sm_map] at this
    rw [this]
    exact sm_congr fun x _ => by omega
  have e3 : sm (List.range hs.length) (fun i => (i : Int) + hs.getD i 0) = sm (List.range hs.length) (fun i => (hs.length : Int) * (((i : Int) + hs.getD i 0) / (hs.length : Int))) + sm (List.range hs.length) (fun i => ((i : Int) + hs.getD i 0) % (hs.length : Int)) := by
    rw [← sm_add]
    exact sm_congr fun i _ => (Int.mul_ediv_add_emod _ _).symm
  rw [sm_add, e2, sm_mul] at e3
  have e4 : sm (List.range hs.length) (fun (i : Nat) => (i : Int)) = sm (List.range hs.length) Nat.cast := rfl
  rw [e1]; omega
theorem Gd.air (g : Gd hs) (t : Int) : (((iv 0 96).filter fun k => decide (t ≤ land hs (t - 1 - k))).length : Int) = hs.sum / (hs.length : Int) := by
  have l1 := g.l1
  have l2 := g.l2
  rw [← sm_count, g.sum, Int.mul_ediv_cancel_left _ (by omega)]
  have e1 : sm (iv 0 96) (fun k => ind (t ≤ land hs (t - 1 - k))) = sm (iv 0 96) (fun k => sm (List.range hs.length) fun i => ind ((t - 1 - k) % (hs.length : Int) = (i : Int) ∧ t ≤ t - 1 - k + hs.getD i 0)) := by
    refine sm_congr fun k _ => ?_
    have hm := modlt g.l1 (t - 1 - k)
    have := one_class (f := fun i => ind (t ≤ t - 1 - k + hs.getD i 0)) hm.1
    show ind (t ≤ t - 1 - k + hs.getD ((t - 1 - k) % (hs.length : Int)).toNat 0) = _
    rw [← this]
    refine sm_congr fun i _ => ?_
    unfold ind
    by_cases c : ((t - 1 - k) % (hs.length : Int)).toNat = i
    · rw [if_pos c]
      by_cases d : t ≤ t - 1 - k + hs.getD i 0
      · rw [if_pos d, if_pos ⟨by omega, d⟩]
      · rw [if_neg d, if_neg fun z => d z.2]
    · rw [if_neg c, if_neg fun z => c (by omega)]
  rw [e1, sm_comm]
  have e2 : sm (List.range hs.length) (fun i => sm (iv 0 96) fun k => ind ((t - 1 - k) % (hs.length : Int) = (i : Int) ∧ t ≤ t - 1 - k + hs.getD i 0)) = sm (List.range hs.length) fun i => (t - 1 - (i : Int)) / (hs.length : Int) - ((t - 1 - (((i : Int) + hs.getD i 0) % (hs.length : Int))) / (hs.length : Int) - ((i : Int) + hs.getD i 0) / (hs.length : Int)) := by
    refine sm_congr fun i hi => ?_
    have hi := List.mem_range.mp hi
    have hm := getD_mem hi
    have := g.lo _ hm
    have h96 := g.hi _ hm
    rw [win (by omega) (by omega) (by omega) (by omega) this]
    have : (if ((96 : Nat) : Int) ≤ hs.getD i 0 then ((96 : Nat) : Int) else hs.getD i 0) = hs.getD i 0 := by split <;> omega
    rw [this]
    have e : t - 1 - hs.getD i 0 - (i : Int) = t - 1 - (((i : Int) + hs.getD i 0) % (hs.length : Int)) + (hs.length : Int) * (-(((i : Int) + hs.getD i 0) / (hs.length : Int))) := by
      have := Int.mul_ediv_add_emod ((i : Int) + hs.getD i 0) (hs.length : Int)
      rw [Int.mul_neg]; omega
    rw [e, Int.add_mul_ediv_left _ _ (by omega)]
    omega
  rw [e2, sm_sub, sm_sub]
  have e3 : sm (List.range hs.length) (fun i => (t - 1 - (((i : Int) + hs.getD i 0) % (hs.length : Int))) / (hs.length : Int)) = sm (List.range hs.length) (fun i => (t - 1 - (i : Int)) / (hs.length : Int)) := by
    have := sm_perm (f := fun x => (t - 1 - x) / (hs.length : Int)) g.pm
    unfold tgs iv at this
    rw [sm_map, sm_map] at this
    rw [this]
    exact sm_congr fun x _ => by rw [Int.zero_add]
  rw [e3]; omega
end
end MV
namespace MV
section
variable {hs : List Int}
/-- the landings that are in the air -/
def fnd (hs : List Int) (g : Int) : List Int := ((iv (g - 96) 96).map (land hs)).filter fun q => decide (g ≤ q)
def airC (c : List Int) (g : Int) (H : Nat) : List Int := (iv g H).filter fun q => decide (cm c q < g)
theorem Gd.nodup_map (g : Gd hs) {lo : Int} {n : Nat} : ((iv lo n).map (land hs)).Nodup := by
  unfold List.Nodup
  rw [List.pairwise_map]
  exact nodup_iv.imp fun h e => h (g.inj e)
theorem mem_fnd {t q : Int} : q ∈ fnd hs t ↔ t ≤ q ∧ ∃ p, t - 96 ≤ p ∧ p < t ∧ land hs p = q := by
  unfold fnd
  rw [List.mem_filter, List.mem_map]
  constructor
  · rintro ⟨⟨p, hp, e⟩, h⟩
    have := mem_iv.mp hp
    exact ⟨of_decide_eq_true h, p, by omega, by omega, e⟩
  · rintro ⟨h, p, h1, h2, e⟩
    exact ⟨⟨p, mem_iv.mpr (by omega), e⟩, decide_eq_true h⟩
theorem Gd.ge (g : Gd hs) (p : Int) : p ≤ land hs p := by have := g.hlo p; unfold land; omega
theorem Gd.le (g : Gd hs) (p : Int) : land hs p ≤ p + 96 := by have := g.hhi p; unfold land; omega
theorem Cm.mem {c : List Int} (g : Gd hs) (m : Cm hs c) {t q : Int} : q ∈ fnd hs t ↔ t ≤ q ∧ cm c q < t := by
  rw [mem_fnd]
  constructor
  · rintro ⟨h, p, h1, h2, e⟩
    rw [(m.iff g p q).mp e] at h2
    exact ⟨h, h2⟩
  · rintro ⟨h1, h2⟩
    have := g.le (cm c q)
    rw [m.land g q] at this
    exact ⟨h1, cm c q, by omega, h2, m.land g q⟩
theorem Cm.air {c : List Int} (g : Gd hs) (m : Cm hs c) {t : Int} {H : Nat} (hH : ∀ h ∈ hs, h ≤ (H : Int)) : (airC c t H).Perm (fnd hs t) := by
  refine (List.perm_ext_iff_of_nodup (nodup_iv.filter _) (g.nodup_map.filter _)).mpr fun q => ?_
  show q ∈ airC c t H ↔ q ∈ fnd hs t
  rw [m.mem g]
  unfold airC
  rw [List.mem_filter, mem_iv, decide_eq_true_iff]
  constructor
  · rintro ⟨⟨h1, h2⟩, h3⟩; exact ⟨h1, h3⟩
  · rintro ⟨h1, h2⟩
    refine ⟨⟨h1, ?_⟩, h2⟩
    have e := m.land g q
    have := hH _ (hAt_mem g.l1 (cm c q))
    unfold MV.land at e
    omega
theorem airC_asc {c : List Int} {t : Int} {H : Nat} : (airC c t H).Pairwise (· ≤ ·) := asc_iv.filter _
/-- one gap farther -/
theorem Cm.moved {c : List Int} (g : Gd hs) (m : Cm hs c) {t : Int} {A : List Int} (hA : A.Perm (fnd hs t)) {H : Nat} (hH : ∀ h ∈ hs, h ≤ (H : Int)) :
    (airC c (t + 1) H).Perm ((A.filter fun q => decide (q ≠ t)) ++ if t ∈ A then [MV.land hs t] else []) := by
  refine (m.air g hH).trans ?_
  have ndA : A.Nodup := hA.nodup_iff.mpr (g.nodup_map.filter _)
  have memA : ∀ q, q ∈ A ↔ t ≤ q ∧ cm c q < t := fun q => hA.mem_iff.trans (m.mem g)
  have up : t ∈ A → t + 1 ≤ MV.land hs t := fun h => by
    have h1 := ((memA t).mp h).2
    have h2 := g.ge t
    have h3 := m.land g t
    have : MV.land hs t ≠ t := fun e => by
      have := (m.iff g t t).mp e
      omega
    omega
  refine (List.perm_ext_iff_of_nodup (g.nodup_map.filter _) ?_).mpr fun q => ?_
  · refine List.nodup_append.mpr ⟨ndA.filter _, ?_, ?_⟩
    · split <;> simp
    · intro x hx y hy e
      split at hy
      · rename_i h
        rw [List.mem_singleton.mp hy] at e
        have hx := (List.mem_filter.mp hx).1
        have := ((memA x).mp hx).2
        have := (m.iff g t x).mp e.symm
        omega
      · cases hy
  · show q ∈ fnd hs (t + 1) ↔ _
    rw [m.mem g, List.mem_append, List.mem_filter, decide_eq_true_iff, memA]
    constructor
    · rintro ⟨h1, h2⟩
      by_cases c1 : cm c q < t
      · exact .inl ⟨⟨by omega, c1⟩, by omega⟩
      · have e : cm c q = t := by omega
        have e2 : MV.land hs t = q := by rw [← e]; exact m.land g q
        have : t ∈ A := (memA t).mpr ⟨Int.le_refl _, by
          have h3 := g.ge (cm c t)
          rw [m.land g t] at h3
          have : cm c t ≠ t := fun z => by
            have := m.land g t
            rw [z, e2] at this
            omega
          omega⟩
        rw [if_pos this]
        exact .inr (List.mem_singleton.mpr e2.symm)
    · rintro (⟨⟨h1, h2⟩, h3⟩ | h)
      · exact ⟨by omega, by omega⟩
      · split at h
        · rename_i hA
          have e := List.mem_singleton.mp h
          have := up hA
          have e2 := (m.iff g t q).mp e.symm
          exact ⟨by omega, by omega⟩
        · cases h
theorem Gd.count (g : Gd hs) (t : Int) : ((fnd hs t).length : Int) = hs.sum / (hs.length : Int) := by
  rw [← g.air t]
  have p : ((iv 0 96).map fun k => t - 1 - k).Perm (iv (t - 96) 96) := by
    refine (List.perm_ext_iff_of_nodup ?_ nodup_iv).mpr fun q => ?_
    · unfold List.Nodup
      rw [List.pairwise_map]
      exact nodup_iv.imp fun h e => h (by omega)
    · rw [List.mem_map, mem_iv]
      constructor
      · rintro ⟨k, hk, rfl⟩
        have := mem_iv.mp hk
        omega
      · intro h
        exact ⟨t - 1 - q, mem_iv.mpr (by omega), by omega⟩
  unfold fnd
  have e1 := ((p.map (land hs)).filter fun q => decide (t ≤ q)).length_eq
  rw [← e1, List.map_map, List.filter_map, List.length_map]
  rfl
theorem Cm.one {c : List Int} (g : Gd hs) (m : Cm hs c) {q : Int} : ((iv (q - 96) 97).filter fun p => decide (MV.land hs p = q)) = [cm c q] := by
  have h1 := g.ge (cm c q)
  have h2 := g.le (cm c q)
  rw [m.land g q] at h1 h2
  refine (List.Perm.eq_singleton ?_)
  refine (List.perm_ext_iff_of_nodup (nodup_iv.filter _) (by simp)).mpr fun p => ?_
  rw [List.mem_filter, decide_eq_true_iff, mem_iv, List.mem_singleton, m.iff g]
  constructor
  · rintro ⟨_, h⟩; exact h
  · intro h; exact ⟨by omega, h⟩
end
end MV
namespace MV
/-- where the places land, taken around n -/
def tgn (n : Nat) (hs : List Int) : List Int := (List.range hs.length).map fun (i : Nat) => ((i : Int) + hs.getD i 0) % (n : Int)
theorem tgn_self {hs : List Int} : tgn hs.length hs = tgs hs := rfl
theorem tgn_app {n : Nat} {hs : List Int} {x : Int} : tgn n (hs ++ [x]) = tgn n hs ++ [((hs.length : Int) + x) % (n : Int)] := by
  unfold tgn
  rw [List.length_append, List.length_singleton, List.range_succ, List.map_append]
  congr 1
  · refine List.map_congr_left fun i hi => ?_
    have hi := List.mem_range.mp hi
    rw [List.getD_eq_getElem?_getD, List.getD_eq_getElem?_getD, List.getElem?_append_left hi]
  · simp [List.getD_eq_getElem?_getD]
theorem tgn_len {n : Nat} {hs : List Int} : (tgn n hs).length = hs.length := by unfold tgn; simp
theorem perm_era {α : Type} : ∀ {l : List α} {j : Nat} {t : α}, l[j]? = some t → (t :: l.eraseIdx j).Perm l
  | x :: l, 0, t, e => by
    have : x = t := by simpa using e
    rw [this]; exact List.Perm.refl _
  | x :: l, j + 1, t, e => by
    have := perm_era (l := l) (j := j) (t := t) (by simpa using e)
    exact (List.Perm.swap x t _).trans (this.cons x)
/-- the first loop -/
structure L1 (n k : Nat) (left hs : List Int) : Prop where
  pm : (left ++ tgn n hs).Perm (iv 0 n)
  len : hs.length = k
  lo : ∀ h ∈ hs, 0 ≤ h ∧ h < (n : Int)
theorem L1.start (n : Nat) : L1 n 0 (iv 0 n) [] := ⟨by show (iv 0 n ++ []).Perm _; rw [List.append_nil], rfl, fun h hh => by cases hh⟩
theorem L1.left {n k : Nat} {left hs : List Int} (h : L1 n k left hs) : left.length + k = n := by
  have := h.pm.length_eq
  rw [List.length_append, tgn_len, iv_length, h.len] at this
  exact this
theorem L1.step {n k : Nat} {left hs : List Int} (h : L1 n k left hs) {j : Nat} (hj : j < left.length) (t : Int) (e : left[j]? = some t) : L1 n (k + 1) (left.eraseIdx j) (hs ++ [(t - (k : Int)) % (n : Int)]) := by
  have hn : 0 < n := by have := h.left; omega
  have et : left[j] = t := by rw [List.getElem?_eq_getElem hj] at e; exact Option.some.inj e
  have mt : t ∈ iv 0 n := h.pm.mem_iff.mp (List.mem_append_left _ (et ▸ List.getElem_mem hj))
  have bt := mem_iv.mp mt
  have e2 : ((hs.length : Int) + (t - (k : Int)) % (n : Int)) % (n : Int) = t := by
    rw [h.len, Int.add_emod_emod, show (k : Int) + (t - k) = t by omega, Int.emod_eq_of_lt (by omega) (by omega)]
  refine ⟨?_, by rw [List.length_append, List.length_singleton, h.len], fun x hx => ?_⟩
  · rw [tgn_app, e2]
    refine List.Perm.trans ?_ h.pm
    have p1 : (t :: left.eraseIdx j).Perm left := perm_era e
    have p2 : (left.eraseIdx j ++ (tgn n hs ++ [t])).Perm (t :: (left.eraseIdx j ++ tgn n hs)) := by
      rw [← List.append_assoc]
      exact List.perm_append_singleton _ _
    exact p2.trans (by rw [← List.cons_append]; exact p1.append_right _)
  · rcases List.mem_append.mp hx with q | q
    · exact h.lo x q
    · rw [List.mem_singleton.mp q]
      exact ⟨Int.emod_nonneg _ (by omega), Int.emod_lt_of_pos _ (by omega)⟩
theorem pm_sum {hs : List Int} (pm : (tgs hs).Perm (iv 0 hs.length)) : ∃ b, hs.sum = (hs.length : Int) * b := by
  have e0 : hs = (List.range hs.length).map fun i => hs.getD i 0 := by
    apply List.ext_getElem
    · simp
    · intro i h1 h2
      rw [List.getElem_map, List.getElem_range, List.getD_eq_getElem?_getD, List.getElem?_eq_getElem h1]; rfl
  have e1 : hs.sum = sm (List.range hs.length) (fun i => hs.getD i 0) := by
    show hs.sum = ((List.range hs.length).map fun i => hs.getD i 0).sum
    rw [← e0]
  have e2 : sm (List.range hs.length) (fun i => ((i : Int) + hs.getD i 0) % (hs.length : Int)) = sm (List.range hs.length) (fun i => (i : Int)) := by
    have := sm_perm (f := fun x => x) pm
    unfold tgs iv at this
    rw [sm_map, sm_map] at this
    rw [this]
    exact sm_congr fun x _ => by omega
  have e3 : sm (List.range hs.length) (fun i => (i : Int) + hs.getD i 0) = sm (List.range hs.length) (fun i => (hs.length : Int) * (((i : Int) + hs.getD i 0) / (hs.length : Int))) + sm (List.range hs.length) (fun i => ((i : Int) + hs.getD i 0) % (hs.length : Int)) := by
    rw [← sm_add]
    exact sm_congr fun i _ => (Int.mul_ediv_add_emod _ _).symm
  rw [sm_add, e2, sm_mul] at e3
  have e4 : sm (List.range hs.length) (fun (i : Nat) => (i : Int)) = sm (List.range hs.length) Nat.cast := rfl
  exact ⟨sm (List.range hs.length) (fun i => ((i : Int) + hs.getD i 0) / (hs.length : Int)), by rw [e1]; omega⟩
theorem sum_le {n : Int} : ∀ {hs : List Int}, (∀ h ∈ hs, 0 ≤ h ∧ h < n) → 0 ≤ hs.sum ∧ hs.sum ≤ (hs.length : Int) * (n - 1)
  | [], _ => by simp
  | h :: hs, q => by
    have := sum_le fun x hx => q x (List.mem_cons_of_mem _ hx)
    have h0 := q h List.mem_cons_self
    rw [List.sum_cons, List.length_cons]
    have e : ((hs.length + 1 : Nat) : Int) * (n - 1) = (hs.length : Int) * (n - 1) + (n - 1) := by
      rw [show ((hs.length + 1 : Nat) : Int) = (hs.length : Int) + 1 by omega, Int.add_mul]; omega
    omega
theorem mem_le_sum : ∀ {hs : List Int}, (∀ h ∈ hs, 0 ≤ h) → 0 ≤ hs.sum ∧ ∀ h ∈ hs, h ≤ hs.sum
  | [], _ => ⟨by simp, fun h hh => by cases hh⟩
  | h :: hs, q => by
    have ⟨i1, i2⟩ := mem_le_sum fun x hx => q x (List.mem_cons_of_mem _ hx)
    have h0 := q h List.mem_cons_self
    rw [List.sum_cons]
    refine ⟨by omega, fun x hx => ?_⟩
    rcases List.mem_cons.mp hx with e | e
    · omega
    · have := i2 x e; omega
/-- the second loop -/
structure L2s (n : Nat) (most balls : Int) (hs : List Int) : Prop where
  len : hs.length = n
  pm : (tgs hs).Perm (iv 0 hs.length)
  lo : ∀ h ∈ hs, 0 ≤ h
  sm : hs.sum = (n : Int) * balls
  b0 : 0 ≤ balls
  bm : balls ≤ most
theorem L1.done {n : Nat} {left hs : List Int} (h : L1 n n left hs) (h1 : 1 ≤ n) (h6 : n ≤ 6) {most : Int} (hm : 5 ≤ most) : L2s n most (hs.sum / (n : Int)) hs := by
  have hl := h.left
  have e : left = [] := List.eq_nil_of_length_eq_zero (by omega)
  have pm := h.pm
  rw [e, List.nil_append, ← h.len, tgn_self] at pm
  obtain ⟨b, hb⟩ := pm_sum pm
  have s := sum_le h.lo
  rw [h.len] at hb s
  have eb : hs.sum / (n : Int) = b := by rw [hb, Int.mul_ediv_cancel_left _ (by omega)]
  have hb2 : 0 ≤ b ∧ b ≤ n - 1 := by
    rw [hb] at s
    have : n = 1 ∨ n = 2 ∨ n = 3 ∨ n = 4 ∨ n = 5 ∨ n = 6 := by omega
    rcases this with rfl | rfl | rfl | rfl | rfl | rfl <;> omega
  exact ⟨h.len, pm, fun x hx => (h.lo x hx).1, by rw [eb]; exact hb, by omega, by omega⟩
theorem sum_set : ∀ {hs : List Int} {i : Nat} {x : Int}, i < hs.length → (hs.set i x).sum = hs.sum + x - hs.getD i 0
  | h :: hs, 0, x, _ => by
    rw [List.set_cons_zero, List.sum_cons, List.sum_cons]
    show x + hs.sum = h + hs.sum + x - h
    omega
  | h :: hs, i + 1, x, q => by
    rw [List.set_cons_succ, List.sum_cons, List.sum_cons, sum_set (by simpa using q)]
    show h + (hs.sum + x - hs.getD i 0) = h + hs.sum + x - hs.getD i 0
    omega
theorem getD_set {hs : List Int} {i j : Nat} {x : Int} (h : i < hs.length) : (hs.set i x).getD j 0 = if i = j then x else hs.getD j 0 := by
  rw [List.getD_eq_getElem?_getD, List.getElem?_set]
  split
  · rfl
  · rw [List.getD_eq_getElem?_getD]
theorem L2s.step {n : Nat} {most balls more : Int} {hs : List Int} (h : L2s n most balls hs) {i : Nat} (hi : i < n) (m0 : 0 ≤ more) (m1 : balls + more ≤ most) : L2s n most (balls + more) (hs.set i (hs.getD i 0 + (n : Int) * more)) := by
  have hl : i < hs.length := by rw [h.len]; exact hi
  have et : tgs (hs.set i (hs.getD i 0 + (n : Int) * more)) = tgs hs := by
    unfold tgs
    rw [List.length_set]
    refine List.map_congr_left fun j _ => ?_
    rw [getD_set hl]
    split
    · rename_i e
      subst e
      rw [← Int.add_assoc, h.len, Int.add_mul_emod_self_left]
    · rfl
  have nm : 0 ≤ (n : Int) * more := Int.mul_nonneg (by omega) m0
  refine ⟨by rw [List.length_set]; exact h.len, by rw [et, List.length_set]; exact h.pm, fun x hx => ?_, ?_, by have := h.b0; omega, m1⟩
  · rcases List.mem_or_eq_of_mem_set hx with q | q
    · exact h.lo x q
    · have := h.lo _ (getD_mem hl)
      omega
  · rw [sum_set hl, h.sm, Int.mul_add]; omega
theorem L2s.gd {n : Nat} {most balls : Int} {hs : List Int} (h : L2s n most balls hs) (h1 : 1 ≤ n) (h6 : n ≤ 6) (hm : most ≤ 16) : Gd hs ∧ hs.sum / (hs.length : Int) ≤ most ∧ hs.sum = (hs.length : Int) * (hs.sum / (hs.length : Int)) := by
  have b0 := h.b0
  have bm := h.bm
  have eb : hs.sum / (hs.length : Int) = balls := by rw [h.sm, h.len, Int.mul_ediv_cancel_left _ (by omega)]
  refine ⟨⟨by rw [h.len]; exact h1, by rw [h.len]; exact h6, h.lo, fun x hx => ?_, h.pm⟩, by omega, by rw [eb, h.sm, h.len]⟩
  have := (mem_le_sum h.lo).2 x hx
  rw [h.sm] at this
  have : n = 1 ∨ n = 2 ∨ n = 3 ∨ n = 4 ∨ n = 5 ∨ n = 6 := by omega
  rcases this with rfl | rfl | rfl | rfl | rfl | rfl <;> omega
theorem hAt_cycle {hs : List Int} {p k : Int} : hAt hs (p + (hs.length : Int) * k) = hAt hs p := hAt_mod (by rw [Int.add_mul_emod_self_left])
theorem Gd.nocol {hs : List Int} (g : Gd hs) {i j : Nat} (h : j < i) (hi : i < hs.length) : ((i : Int) + hs.getD i 0 - (j : Int) - hs.getD j 0) % (hs.length : Int) ≠ 0 := fun e => by
  obtain ⟨k, hk⟩ := Int.dvd_of_emod_eq_zero e
  have e1 : land hs (i : Int) = land hs ((j : Int) + (hs.length : Int) * k) := by
    unfold land
    rw [hAt_cycle, hAt_nat hi, hAt_nat (Nat.lt_trans h hi)]; omega
  have e2 := g.inj e1
  have : 0 < (hs.length : Int) * k := by omega
  have k0 : 0 < k := by
    rcases Int.lt_or_le 0 k with q | q
    · exact q
    · have := Int.mul_le_mul_of_nonneg_left q (show (0 : Int) ≤ (hs.length : Int) by omega)
      omega
  have := Int.mul_le_mul_of_nonneg_left (show (1 : Int) ≤ k by omega) (show (0 : Int) ≤ (hs.length : Int) by omega)
  omega
theorem ones_gd {n : Nat} (h1 : 1 ≤ n) (h6 : n ≤ 6) : Gd (List.replicate n 1) ∧ (List.replicate n (1 : Int)).sum = (n : Int) := by
  have : n = 1 ∨ n = 2 ∨ n = 3 ∨ n = 4 ∨ n = 5 ∨ n = 6 := by omega
  rcases this with rfl | rfl | rfl | rfl | rfl | rfl <;> exact ⟨⟨by decide, by decide, by decide, by decide, by decide⟩, by decide⟩
end MV
namespace MV
section
variable {hs : List Int}
theorem iv_add {lo : Int} {m : Nat} : ∀ n : Nat, iv lo (m + n) = iv lo m ++ iv (lo + (m : Int)) n
  | 0 => by rw [iv_zero, List.append_nil]; rfl
  | n + 1 => by
    rw [← Nat.add_assoc, iv_succ, iv_add n, iv_succ, List.append_assoc]
    congr 2
    simp only [Int.natCast_add, Int.add_assoc]
theorem filt_split {α : Type} {p : α → Bool} : ∀ l : List α, (l.filter p).length + (l.filter fun x => !p x).length = l.length
  | [] => rfl
  | a :: l => by
    have ih := filt_split (p := p) l
    cases h : p a with
    | true => rw [List.filter_cons_of_pos h, List.filter_cons_of_neg (by simp [h]), List.length_cons, List.length_cons]; omega
    | false => rw [List.filter_cons_of_neg (by simp [h]), List.filter_cons_of_pos (by simp [h]), List.length_cons, List.length_cons]; omega
theorem filt_eq_le {t : Int} : ∀ {l : List Int}, l.Nodup → (l.filter fun q => decide (q = t)).length ≤ 1
  | [], _ => by simp
  | a :: l, nd => by
    have ⟨h1, h2⟩ := List.nodup_cons.mp nd
    by_cases h : a = t
    · rw [List.filter_cons_of_pos (by simp [h])]
      have : (l.filter fun q => decide (q = t)) = [] := List.filter_eq_nil_iff.mpr fun x hx e => h1 (by have := of_decide_eq_true e; rw [h, ← this]; exact hx)
      rw [this]; simp
    · rw [List.filter_cons_of_neg (by simp [h])]
      exact filt_eq_le h2
/-- the places of a stretch that land at its end or later -/
def cnt (hs : List Int) (a t : Int) : List Int := (iv a (t - a).toNat).filter fun p => decide (t ≤ land hs p)
theorem fnd_length (t : Int) : (fnd hs t).length = ((iv (t - 96) 96).filter fun p => decide (t ≤ land hs p)).length := by
  unfold fnd
  rw [List.filter_map, List.length_map]; rfl
theorem none_before (g : Gd hs) {t lo : Int} {n : Nat} (h : lo + (n : Int) ≤ t - 96) : ((iv lo n).filter fun p => decide (t ≤ land hs p)) = [] :=
  List.filter_eq_nil_iff.mpr fun p hp e => by
    have h1 := mem_iv.mp hp
    have h2 := g.le p
    have h3 : t ≤ land hs p := of_decide_eq_true e
    omega
theorem win_all (g : Gd hs) {a t : Int} (h : a ≤ t) : ((iv (a - 96) (t - a + 96).toNat).filter fun p => decide (t ≤ land hs p)).length = (fnd hs t).length := by
  have e : (t - a + 96).toNat = (t - a).toNat + 96 := by omega
  rw [e, iv_add, List.filter_append, none_before g (by omega), List.nil_append, fnd_length]
  congr 3
  omega
theorem balls_same (g : Gd hs) (a t : Int) : (fnd hs a).length = (fnd hs t).length := by
  have h1 := g.count a
  have h2 := g.count t
  omega
theorem cnt_U (g : Gd hs) {a t : Int} (h : a ≤ t) : (cnt hs a t).length = ((fnd hs a).filter fun q => decide (q < t)).length := by
  have h1 := win_all g h
  have e : (t - a + 96).toNat = 96 + (t - a).toNat := by omega
  rw [e, iv_add, List.filter_append, List.length_append, show a - 96 + ((96 : Nat) : Int) = a by omega] at h1
  have h2 := filt_split (p := fun q => decide (q < t)) (fnd hs a)
  have h3 : ((fnd hs a).filter fun q => !decide (q < t)).length = ((iv (a - 96) 96).filter fun p => decide (t ≤ land hs p)).length := by
    unfold fnd
    rw [List.filter_filter, List.filter_map, List.length_map]
    congr 1
    refine List.filter_congr fun p _ => ?_
    show (!decide (land hs p < t) && decide (a ≤ land hs p)) = decide (t ≤ land hs p)
    by_cases c : t ≤ land hs p
    · rw [decide_eq_true c, decide_eq_false (show ¬ land hs p < t by omega), decide_eq_true (show a ≤ land hs p by omega)]; rfl
    · rw [decide_eq_false c, decide_eq_true (show land hs p < t by omega)]; rfl
  have h4 := balls_same g a t
  show ((iv a (t - a).toNat).filter fun p => decide (t ≤ land hs p)).length = _
  omega
theorem cnt_far (g : Gd hs) {a t : Int} (h : a + 96 ≤ t) : ((cnt hs a t).length : Int) = hs.sum / (hs.length : Int) := by
  rw [cnt_U g (by omega), ← g.count a]
  have : ((fnd hs a).filter fun q => decide (q < t)) = fnd hs a := List.filter_eq_self.mpr fun q hq => by
    obtain ⟨_, p, h1, h2, e⟩ := mem_fnd.mp hq
    have := g.le p
    exact decide_eq_true (by omega)
  rw [this]
theorem cnt_step (g : Gd hs) {a t : Int} (h : a ≤ t) : (cnt hs a (t + 1)).length = (cnt hs a t).length ∨ (cnt hs a (t + 1)).length = (cnt hs a t).length + 1 := by
  have nd : (fnd hs a).Nodup := g.nodup_map.filter _
  rw [cnt_U g h, cnt_U g (show a ≤ t + 1 by omega)]
  have h1 := filt_split (p := fun q => decide (q < t)) ((fnd hs a).filter fun q => decide (q < t + 1))
  have e1 : (((fnd hs a).filter fun q => decide (q < t + 1)).filter fun q => decide (q < t)) = (fnd hs a).filter fun q => decide (q < t) := by
    rw [List.filter_filter]
    refine List.filter_congr fun q _ => ?_
    by_cases c : q < t
    · rw [decide_eq_true c, decide_eq_true (show q < t + 1 by omega)]; rfl
    · rw [decide_eq_false c]; rfl
  have e2 : (((fnd hs a).filter fun q => decide (q < t + 1)).filter fun q => !decide (q < t)) = (fnd hs a).filter fun q => decide (q = t) := by
    rw [List.filter_filter]
    refine List.filter_congr fun q _ => ?_
    by_cases c : q = t
    · rw [decide_eq_true c, decide_eq_false (show ¬ q < t by omega), decide_eq_true (show q < t + 1 by omega)]; rfl
    · rw [decide_eq_false c]
      by_cases d : q < t
      · rw [decide_eq_true d]; rfl
      · rw [decide_eq_false (show ¬ q < t + 1 by omega), Bool.and_false]
  rw [e1, e2] at h1
  have := filt_eq_le (t := t) nd
  omega
theorem cnt_clip (g : Gd hs) {a b t : Int} {H : Int} (hH : ∀ h ∈ hs, h ≤ H) (hb : b = if t - H > a then t - H else a) (h : a ≤ t) (h0 : 0 ≤ H) : ((iv b (t - b).toNat).filter fun p => decide (t ≤ land hs p)) = cnt hs a t := by
  unfold cnt
  by_cases c : t - H > a
  · rw [if_pos c] at hb
    have e : (t - a).toNat = (b - a).toNat + (t - b).toNat := by omega
    rw [e, iv_add, List.filter_append]
    have : ((iv a (b - a).toNat).filter fun p => decide (t ≤ land hs p)) = [] := List.filter_eq_nil_iff.mpr fun p hp e => by
      have h1 := mem_iv.mp hp
      have h2 := hH _ (hAt_mem g.l1 p)
      have h3 : t ≤ land hs p := of_decide_eq_true e
      unfold land at h3
      omega
    rw [this, List.nil_append, show a + ((b - a).toNat : Int) = b by omega]
  · rw [if_neg c] at hb
    rw [hb]
end
end MV
namespace MV
/-- the heights of one entry -/
def ent0 (n : Nat) (S : List Int) (k : Nat) : List Int := (List.range k).foldl (fun hs i => hs.set (S.getD i 0).toNat (S.getD (i + 1) 0 - S.getD i 0)) (List.replicate n 0)
def ent (n : Nat) (S : List Int) : List Int := (ent0 n S (S.length - 1)).set (S.getD (S.length - 1) 0).toNat (S.getD 0 0 + (n : Int) - S.getD (S.length - 1) 0)
def hgt (n : Nat) (S : List Int) (p : Int) : Nat → Int → Int
  | 0, h => h
  | f + 1, h => if h < (n : Int) ∧ ¬ (p + h) % (n : Int) ∈ S then hgt n S p f (h + 1) else h
/-- the same, as the law builds them -/
def oc (n : Nat) (S T : List Int) : List Int := T.foldl (fun hs p => hs.set p.toNat (hgt n S p 7 1)) (List.replicate n 0)
def bits (n code : Nat) : List Int := (iv 0 n).filter fun p => decide ((code / 2 ^ p.toNat) % 2 = 1)
def subs (n : Nat) : List (List Int) := (List.range (2 ^ n - 1)).map fun c => bits n (c + 1)
def hold (n : Nat) (S : List Int) (a t : Int) : Int := if (iv a (t - a).toNat).any (fun p => decide (p % (n : Int) ∈ S)) then 1 else 0
def chk (n : Nat) (S : List Int) : Bool :=
  decide (oc n S S = ent n S) && (decide ((ent n S).length = n) && ((ent n S).all (fun h => decide (0 ≤ h) && decide (h ≤ 96)) && ((tgs (ent n S)).isPerm (iv 0 n) && (decide ((ent n S).sum = (n : Int)) && (decide (((iv 0 n).filter fun p => !decide ((ent n S).getD p.toNat 0 = 0)) = S) &&
    (List.range n).all fun a => (List.range (n + 2)).all fun l => decide (((cnt (ent n S) (a : Int) ((a : Int) + (l : Int))).length : Int) = hold n S (a : Int) ((a : Int) + (l : Int))))))))
theorem chk_all : ∀ n ∈ [1, 2, 3, 4, 5, 6], ∀ S ∈ subs n, chk n S = true := by decide +kernel
theorem bits_in : ∀ n ∈ [1, 2, 3, 4, 5, 6], ∀ c ∈ List.range (2 ^ n - 1), bits n (c + 1) ∈ subs n := fun n _ c hc => List.mem_map.mpr ⟨c, hc, rfl⟩
theorem filt_in6 : ∀ b0 b1 b2 b3 b4 b5 : Bool, ((iv 0 6).filter fun p => [b0, b1, b2, b3, b4, b5].getD p.toNat false) = [] ∨ ((iv 0 6).filter fun p => [b0, b1, b2, b3, b4, b5].getD p.toNat false) ∈ subs 6 := by decide +kernel
theorem filt_in5 : ∀ b0 b1 b2 b3 b4 : Bool, ((iv 0 5).filter fun p => [b0, b1, b2, b3, b4].getD p.toNat false) = [] ∨ ((iv 0 5).filter fun p => [b0, b1, b2, b3, b4].getD p.toNat false) ∈ subs 5 := by decide +kernel
theorem filt_in4 : ∀ b0 b1 b2 b3 : Bool, ((iv 0 4).filter fun p => [b0, b1, b2, b3].getD p.toNat false) = [] ∨ ((iv 0 4).filter fun p => [b0, b1, b2, b3].getD p.toNat false) ∈ subs 4 := by decide +kernel
theorem filt_in3 : ∀ b0 b1 b2 : Bool, ((iv 0 3).filter fun p => [b0, b1, b2].getD p.toNat false) = [] ∨ ((iv 0 3).filter fun p => [b0, b1, b2].getD p.toNat false) ∈ subs 3 := by decide +kernel
theorem filt_in2 : ∀ b0 b1 : Bool, ((iv 0 2).filter fun p => [b0, b1].getD p.toNat false) = [] ∨ ((iv 0 2).filter fun p => [b0, b1].getD p.toNat false) ∈ subs 2 := by decide +kernel
theorem filt_in1 : ∀ b0 : Bool, ((iv 0 1).filter fun p => [b0].getD p.toNat false) = [] ∨ ((iv 0 1).filter fun p => [b0].getD p.toNat false) ∈ subs 1 := by decide +kernel
theorem asc_filter {n : Nat} {S : List Int} (asc : S.Pairwise (· < ·)) (b : ∀ x ∈ S, 0 ≤ x ∧ x < (n : Int)) : S = (iv 0 n).filter fun p => decide (p ∈ S) := by
  have nd : S.Nodup := asc.imp fun h e => by omega
  refine List.Perm.eq_of_pairwise (le := (· ≤ ·)) (fun a b _ _ => Int.le_antisymm) (asc.imp fun h => by omega) (asc_iv.filter _) ((List.perm_ext_iff_of_nodup nd (nodup_iv.filter _)).mpr fun x => ?_)
  rw [List.mem_filter, mem_iv, decide_eq_true_iff]
  constructor
  · intro h
    have := b x h
    exact ⟨by omega, h⟩
  · exact fun h => h.2
theorem asc_in {n : Nat} {S : List Int} (n1 : 1 ≤ n) (n6 : n ≤ 6) (asc : S.Pairwise (· < ·)) (b : ∀ x ∈ S, 0 ≤ x ∧ x < (n : Int)) (ne : S ≠ []) : S ∈ subs n := by
  have e := asc_filter asc b
  have key : ∀ (l : List Bool) (h : ∀ p ∈ iv 0 n, l.getD p.toNat false = decide (p ∈ S)), ((iv 0 n).filter fun p => l.getD p.toNat false) = S := fun l h => (List.filter_congr h).trans e.symm
  have : n = 1 ∨ n = 2 ∨ n = 3 ∨ n = 4 ∨ n = 5 ∨ n = 6 := by omega
  have cl : ∀ (p : Int) (m : Nat), p ∈ iv 0 m → ∃ i : Nat, i < m ∧ p = (i : Int) := fun p m hp => by
    have := mem_iv.mp hp
    exact ⟨p.toNat, by omega, by omega⟩
  rcases this with rfl | rfl | rfl | rfl | rfl | rfl
  · have k := key [decide ((0 : Int) ∈ S)] (fun p hp => by
      obtain ⟨i, hi, rfl⟩ := cl p _ hp
      have : i = 0 := by omega
      subst this; rfl)
    rcases filt_in1 (decide ((0 : Int) ∈ S)) with h | h
    · exact absurd (k.symm.trans h) ne
    · rw [k] at h; exact h
  · have k := key [decide ((0 : Int) ∈ S), decide ((1 : Int) ∈ S)] (fun p hp => by
      obtain ⟨i, hi, rfl⟩ := cl p _ hp
      have : i = 0 ∨ i = 1 := by omega
      rcases this with rfl | rfl <;> rfl)
    rcases filt_in2 (decide ((0 : Int) ∈ S)) (decide ((1 : Int) ∈ S)) with h | h
    · exact absurd (k.symm.trans h) ne
    · rw [k] at h; exact h
  · have k := key [decide ((0 : Int) ∈ S), decide ((1 : Int) ∈ S), decide ((2 : Int) ∈ S)] (fun p hp => by
      obtain ⟨i, hi, rfl⟩ := cl p _ hp
      have : i = 0 ∨ i = 1 ∨ i = 2 := by omega
      rcases this with rfl | rfl | rfl <;> rfl)
    rcases filt_in3 (decide ((0 : Int) ∈ S)) (decide ((1 : Int) ∈ S)) (decide ((2 : Int) ∈ S)) with h | h
    · exact absurd (k.symm.trans h) ne
    · rw [k] at h; exact h
  · have k := key [decide ((0 : Int) ∈ S), decide ((1 : Int) ∈ S), decide ((2 : Int) ∈ S), decide ((3 : Int) ∈ S)] (fun p hp => by
      obtain ⟨i, hi, rfl⟩ := cl p _ hp
      have : i = 0 ∨ i = 1 ∨ i = 2 ∨ i = 3 := by omega
      rcases this with rfl | rfl | rfl | rfl <;> rfl)
    rcases filt_in4 (decide ((0 : Int) ∈ S)) (decide ((1 : Int) ∈ S)) (decide ((2 : Int) ∈ S)) (decide ((3 : Int) ∈ S)) with h | h
    · exact absurd (k.symm.trans h) ne
    · rw [k] at h; exact h
  · have k := key [decide ((0 : Int) ∈ S), decide ((1 : Int) ∈ S), decide ((2 : Int) ∈ S), decide ((3 : Int) ∈ S), decide ((4 : Int) ∈ S)] (fun p hp => by
      obtain ⟨i, hi, rfl⟩ := cl p _ hp
      have : i = 0 ∨ i = 1 ∨ i = 2 ∨ i = 3 ∨ i = 4 := by omega
      rcases this with rfl | rfl | rfl | rfl | rfl <;> rfl)
    rcases filt_in5 (decide ((0 : Int) ∈ S)) (decide ((1 : Int) ∈ S)) (decide ((2 : Int) ∈ S)) (decide ((3 : Int) ∈ S)) (decide ((4 : Int) ∈ S)) with h | h
    · exact absurd (k.symm.trans h) ne
    · rw [k] at h; exact h
  · have k := key [decide ((0 : Int) ∈ S), decide ((1 : Int) ∈ S), decide ((2 : Int) ∈ S), decide ((3 : Int) ∈ S), decide ((4 : Int) ∈ S), decide ((5 : Int) ∈ S)] (fun p hp => by
      obtain ⟨i, hi, rfl⟩ := cl p _ hp
      have : i = 0 ∨ i = 1 ∨ i = 2 ∨ i = 3 ∨ i = 4 ∨ i = 5 := by omega
      rcases this with rfl | rfl | rfl | rfl | rfl | rfl <;> rfl)
    rcases filt_in6 (decide ((0 : Int) ∈ S)) (decide ((1 : Int) ∈ S)) (decide ((2 : Int) ∈ S)) (decide ((3 : Int) ∈ S)) (decide ((4 : Int) ∈ S)) (decide ((5 : Int) ∈ S)) with h | h
    · exact absurd (k.symm.trans h) ne
    · rw [k] at h; exact h
theorem in6 {n : Nat} (n1 : 1 ≤ n) (n6 : n ≤ 6) : n ∈ [1, 2, 3, 4, 5, 6] := by
  have : n = 1 ∨ n = 2 ∨ n = 3 ∨ n = 4 ∨ n = 5 ∨ n = 6 := by omega
  rcases this with rfl | rfl | rfl | rfl | rfl | rfl <;> decide
structure Ent (n : Nat) (S : List Int) : Prop where
  oc : oc n S S = ent n S
  len : (ent n S).length = n
  gd : Gd (ent n S)
  sum : (ent n S).sum = (n : Int)
  used : ((iv 0 n).filter fun p => !decide ((ent n S).getD p.toNat 0 = 0)) = S
  cyc : ∀ a l : Nat, a < n → l < n + 2 → ((cnt (ent n S) (a : Int) ((a : Int) + (l : Int))).length : Int) = hold n S (a : Int) ((a : Int) + (l : Int))
theorem ent_of {n : Nat} {S : List Int} (n1 : 1 ≤ n) (n6 : n ≤ 6) (h : S ∈ subs n) : Ent n S := by
  have c := chk_all n (in6 n1 n6) S h
  unfold chk at c
  simp only [Bool.and_eq_true] at c
  obtain ⟨c1, c2, c3, c4, c5, c6, c7⟩ := c
  have c2 := of_decide_eq_true c2
  have hb : ∀ x ∈ ent n S, 0 ≤ x ∧ x ≤ 96 := fun x hx => by
    have := List.all_eq_true.mp c3 x hx
    simp only [Bool.and_eq_true, decide_eq_true_eq] at this
    exact this
  refine ⟨of_decide_eq_true c1, c2, ⟨by rw [c2]; exact n1, by rw [c2]; exact n6, fun x hx => (hb x hx).1, fun x hx => (hb x hx).2, by rw [c2]; exact List.isPerm_iff.mp c4⟩, of_decide_eq_true c5, of_decide_eq_true c6, fun a l ha hl => ?_⟩
  exact of_decide_eq_true (List.all_eq_true.mp (List.all_eq_true.mp c7 a (List.mem_range.mpr ha)) l (List.mem_range.mpr hl))
theorem iv_shift {a c : Int} {m : Nat} : iv (a + c) m = (iv a m).map (· + c) := by
  unfold iv
  rw [List.map_map]
  refine List.map_congr_left fun k _ => ?_
  show a + c + (k : Int) = a + (k : Int) + c
  omega
theorem cnt_shift {hs : List Int} {a t k : Int} : (cnt hs (a + (hs.length : Int) * k) (t + (hs.length : Int) * k)).length = (cnt hs a t).length := by
  unfold cnt
  rw [show (t + (hs.length : Int) * k - (a + (hs.length : Int) * k)).toNat = (t - a).toNat by omega, iv_shift, List.filter_map, List.length_map]
  congr 1
  refine List.filter_congr fun p _ => ?_
  show decide (t + (hs.length : Int) * k ≤ land hs (p + (hs.length : Int) * k)) = decide (t ≤ land hs p)
  unfold land
  rw [hAt_cycle]
  exact decide_eq_decide.mpr (by omega)
theorem hold_shift {n : Nat} {S : List Int} {a t k : Int} : hold n S (a + (n : Int) * k) (t + (n : Int) * k) = hold n S a t := by
  unfold hold
  rw [show (t + (n : Int) * k - (a + (n : Int) * k)).toNat = (t - a).toNat by omega, iv_shift, List.any_map]
  have : ((fun p => decide (p % (n : Int) ∈ S)) ∘ fun x => x + (n : Int) * k) = fun p => decide (p % (n : Int) ∈ S) := funext fun p => by
    show decide ((p + (n : Int) * k) % (n : Int) ∈ S) = _
    rw [Int.add_mul_emod_self_left]
  rw [this]
theorem Ent.counts {n : Nat} {S : List Int} (e : Ent n S) (n1 : 1 ≤ n) {a t : Int} (h1 : a ≤ t) (h2 : t < a + n + 2) : ((cnt (ent n S) a t).length : Int) = hold n S a t := by
  have p0 : 0 ≤ a % (n : Int) := Int.emod_nonneg _ (by omega)
  have p1 : a % (n : Int) < (n : Int) := Int.emod_lt_of_pos _ (by omega)
  have ea := Int.emod_add_mul_ediv a (n : Int)
  have q := e.cyc (a % (n : Int)).toNat (t - a).toNat (by omega) (by omega)
  rw [show (((a % (n : Int)).toNat : Nat) : Int) = a % (n : Int) by omega, show (((t - a).toNat : Nat) : Int) = t - a by omega] at q
  have s1 := cnt_shift (hs := ent n S) (a := a % (n : Int)) (t := a % (n : Int) + (t - a)) (k := a / (n : Int))
  have s2 := hold_shift (n := n) (S := S) (a := a % (n : Int)) (t := a % (n : Int) + (t - a)) (k := a / (n : Int))
  rw [e.len] at s1
  rw [show a % (n : Int) + (n : Int) * (a / (n : Int)) = a by omega, show a % (n : Int) + (t - a) + (n : Int) * (a / (n : Int)) = t by omega] at s1 s2
  rw [s1, s2]
  exact q
/-! which item is the first bad one -/
def bad (n : Int) (xs : List Int) (i : Nat) : Prop := ¬ (0 ≤ xs.getD i 0 ∧ xs.getD i 0 < n) ∨ (0 < i ∧ xs.getD i 0 ≤ xs.getD (i - 1) 0)
theorem least {P : Nat → Prop} : ∀ m : Nat, (∃ i, i < m ∧ P i ∧ ∀ j, j < i → ¬ P j) ∨ ∀ i, i < m → ¬ P i
  | 0 => .inr fun i h => by omega
  | m + 1 => by
    rcases least (P := P) m with ⟨i, h1, h2⟩ | h
    · exact .inl ⟨i, by omega, h2⟩
    · by_cases c : P m
      · exact .inl ⟨m, by omega, c, fun j hj => h j hj⟩
      · refine .inr fun i hi => ?_
        rcases Nat.lt_or_ge i m with q | q
        · exact h i q
        · rw [show i = m by omega]; exact c
theorem asc_of {n : Int} {xs : List Int} (h : ∀ i, i < xs.length → ¬ bad n xs i) : xs.Pairwise (· < ·) ∧ ∀ x ∈ xs, 0 ≤ x ∧ x < n := by
  have step : ∀ i, i + 1 < xs.length → xs.getD i 0 < xs.getD (i + 1) 0 := fun i hi => by
    have := h (i + 1) hi
    unfold bad at this
    simp only [not_or, not_and, Nat.add_sub_cancel] at this
    have := this.2 (by omega)
    omega
  have all : ∀ d i, i + d + 1 < xs.length → xs.getD i 0 < xs.getD (i + d + 1) 0 := fun d => by
    induction d with
    | zero => exact fun i hi => step i hi
    | succ d ih =>
      intro i hi
      have h1 := ih i (by omega)
      have h2 := step (i + d + 1) (by omega)
      rw [show i + (d + 1) + 1 = i + d + 1 + 1 by omega]
      omega
  refine ⟨List.pairwise_iff_getElem.mpr fun i j hi hj hij => ?_, fun x hx => ?_⟩
  · have := all (j - i - 1) i (by omega)
    rw [show i + (j - i - 1) + 1 = j by omega] at this
    rw [List.getD_eq_getElem?_getD, List.getD_eq_getElem?_getD, List.getElem?_eq_getElem hi, List.getElem?_eq_getElem hj] at this
    exact this
  · obtain ⟨i, hi, rfl⟩ := List.getElem_of_mem hx
    have := h i hi
    unfold bad at this
    rw [List.getD_eq_getElem?_getD, List.getElem?_eq_getElem hi] at this
    exact Classical.not_not.mp fun z => this (.inl z)
end MV
namespace MV
open PySem PySem.Spec PyProof.Rows L2 He
theorem e_seq {f g : SemS} {ρ ρ1 : En} (h : f ρ = .next ρ1) : sSeq f g ρ = g ρ1 := by unfold sSeq; rw [h]
theorem e_seqR {f g : SemS} {ρ ρ1 : En} {s : Sv} (h : f ρ = .ret s ρ1) : sSeq f g ρ = .ret s ρ1 := by unfold sSeq; rw [h]
theorem atI_nat {α : Type} {xs : List α} {k : Nat} (h : k < xs.length) : atI xs (k : Int) = xs[k]? := by
  unfold atI ixN
  rw [if_pos (Int.natCast_nonneg k), if_pos (Int.ofNat_lt.mpr h)]
  rfl
theorem e_while {c : SemB} {f : SemS} {ρ ρ' : En} {n : Nat} (h : loopW c f n ρ = .next ρ') (hn : n ≤ wMax) : sWhile c f ρ = .next ρ' := by
  unfold sWhile
  exact loopW_mono h hn
where
  loopW_mono {c : SemB} {f : SemS} : ∀ {n m : Nat} {ρ ρ' : En}, loopW c f n ρ = .next ρ' → n ≤ m → loopW c f m ρ = .next ρ'
    | 0, _, _, _, h, _ => by cases h
    | n + 1, 0, _, _, _, hm => by omega
    | n + 1, m + 1, ρ, ρ', h, hm => by
      have ih : ∀ {ρ : En}, loopW c f n ρ = .next ρ' → loopW c f m ρ = .next ρ' := fun h => loopW_mono h (by omega)
      unfold loopW at h ⊢
      cases e : c ρ with
      | ok b ρ1 =>
        rw [e] at h
        show (match b with
          | true => (match f ρ1 with
            | .next ρ2 => loopW c f m ρ2
            | .cont ρ2 => loopW c f m ρ2
            | .brk ρ2 => .next ρ2
            | r => r)
          | false => .next ρ1) = .next ρ'
        have h : (match b with
          | true => (match f ρ1 with
            | .next ρ2 => loopW c f n ρ2
            | .cont ρ2 => loopW c f n ρ2
            | .brk ρ2 => .next ρ2
            | r => r)
          | false => .next ρ1) = .next ρ' := h
        cases b with
        | false => exact h
        | true =>
          cases e2 : f ρ1 with
          | next ρ2 => rw [e2] at h; exact ih h
          | cont ρ2 => rw [e2] at h; exact ih h
          | brk ρ2 => rw [e2] at h; exact h
          | ret s ρ2 => rw [e2] at h; cases h
          | exc _ _ _ => rw [e2] at h; cases h
          | bad => rw [e2] at h; cases h
      | exc _ _ _ => rw [e] at h; cases h
      | bad => rw [e] at h; cases h
/-! ### evaluation, piece by piece -/
theorem e_frz_own {f : Sem1} {ρ ρ1 : En} {d : Vl} (h : f ρ = .ok ⟨.own, d⟩ ρ1) : fFrz f ρ = .ok ⟨.shr, d⟩ ρ1 := by unfold fFrz; rw [h]; rfl
theorem e_frz_shr {f : Sem1} {ρ ρ1 : En} {d : Vl} (h : f ρ = .ok ⟨.shr, d⟩ ρ1) : fFrz f ρ = .ok ⟨.shr, d⟩ ρ1 := by unfold fFrz; rw [h]; rfl
theorem e_aEx {f : Sem1} {fr : SemA} {ρ ρ1 ρ2 : En} {s : Sv} {as : List Ar} (h : f ρ = .ok s ρ1) (n : s.m.isT = false) (r : fr ρ1 = .ok as ρ2) : aEx f fr ρ = .ok (.ex s :: as) ρ2 := by
  unfold aEx; rw [h]
  show grd (!s.m.isT) (bnd (fr ρ1) _) = _
  rw [n, r]; rfl
theorem e_aSl {i : Nat} {fr : SemA} {ρ ρ2 : En} {as : List Ar} (h : asg ρ i = true) (r : fr ρ = .ok as ρ2) : aSl i fr ρ = .ok (.sl i :: as) ρ2 := by unfold aSl; rw [h, r]; rfl
theorem e_lst {f : SemA} {ρ ρ1 : En} {as : List Ar} {ds : List Vl} (h : f ρ = .ok as ρ1) (z : frzAll as = some ds) (l : ds.length ≤ 1000) : fLst f ρ = .ok ⟨.own, .lst ds⟩ ρ1 := by
  unfold fLst; rw [h]
  show kLst as ρ1 = _
  unfold kLst; rw [z]
  show grd (decide (ds.length ≤ 1000)) _ = _
  rw [decide_eq_true l]; rfl
theorem e_tup {f : SemA} {ρ ρ1 : En} {as : List Ar} {ds : List Vl} (h : f ρ = .ok as ρ1) (z : frzAll as = some ds) (l : ds.length ≤ 1000) : fTup f ρ = .ok ⟨.shr, .tup ds⟩ ρ1 := by
  unfold fTup; rw [h]
  show kTup as ρ1 = _
  unfold kTup; rw [z]
  show grd (decide (ds.length ≤ 1000)) _ = _
  rw [decide_eq_true l]; rfl
theorem e_ret {f : Sem1} {ρ ρ1 : En} {s : Sv} (h : f ρ = .ok s ρ1) : sRet f ρ = .ret s ρ1 := by unfold sRet; rw [h]; rfl
theorem e_asg {i : Nat} {f : Sem1} {ρ ρ1 : En} {s : Sv} (h : f ρ = .ok s ρ1) (n : noIo ρ1 i = true) (m : sto s.m = true) : sAsg i f ρ = .next (ρ1.set i (some s)) := by
  unfold sAsg; rw [h]
  show stS i s ρ1 = _
  unfold stS; rw [n, m]; rfl
theorem e_two {qb : Bool} {fa fb : Sem1} {k : K2} {ρ ρ1 ρ2 : En} {s t : Sv} {r : Rs Sv} (h1 : fa ρ = .ok s ρ1) (hh : held s.m qb = true) (h2 : fb ρ1 = .ok t ρ2) (hk : k s t ρ2 = r) : fTwo qb fa fb k ρ = r := by
  unfold fTwo; rw [h1]
  show grd (held s.m qb) (bnd (fb ρ1) _) = _
  rw [hh, h2]; exact hk
theorem e_one {fa : Sem1} {k : K1} {ρ ρ1 : En} {s : Sv} {r : Rs Sv} (h1 : fa ρ = .ok s ρ1) (hk : k s ρ1 = r) : fOne fa k ρ = r := by unfold fOne; rw [h1]; exact hk
theorem e_expr {f : Sem1} {ρ ρ1 : En} {s : Sv} (h : f ρ = .ok s ρ1) : sExpr f ρ = .next ρ1 := by unfold sExpr; rw [h]; rfl
theorem e_if_t {g : SemB} {a b : SemS} {ρ ρ1 : En} (h : g ρ = .ok true ρ1) : sIf g a b ρ = a ρ1 := by unfold sIf; rw [h]; rfl
theorem e_if_f {g : SemB} {a b : SemS} {ρ ρ1 : En} (h : g ρ = .ok false ρ1) : sIf g a b ρ = b ρ1 := by unfold sIf; rw [h]; rfl
theorem e_for {src : SemI} {tgt : SemG} {b : SemS} {ρ ρ1 : En} {its : List Sv} {r : Sr} (h : src ρ = .ok (true, its) ρ1) (l : loopL tgt b its ρ1 = r) : sFor src tgt b ρ = r := by unfold sFor; rw [h]; exact l
theorem e_lc {q : Bool} {own : List Nat} {src : SemI} {tgt : SemG} {cond : SemB} {elt : Sem1} {ρ ρ1 ρ2 : En} {n : Bool} {its : List Sv} {ds : List Vl} (h : src ρ = .ok (n, its) ρ1) (hq : (n || q) = true) (l : compL own tgt cond elt its (wipeE ρ1 own) [] = .ok ds ρ2) : fLc q own src tgt cond elt ρ = .ok ⟨.own, .lst ds⟩ ρ2 := by
  unfold fLc; rw [h]
  show grd (n || q) (bnd (compL own tgt cond elt its (wipeE ρ1 own) []) _) = _
  rw [hq, l]; rfl
theorem e_call {pm : List PM} {rm : Bool} {fn : Fn} {fa : SemA} {ρ ρ1 : En} {as : List Ar} {ds : List Vl} {r : Vl} {outs : List Vl} (h : fa ρ = .ok as ρ1) (c : (ndB (ioSl pm as) && chkA (ioSl pm as) pm as) = true) (v : argVs ρ1 pm as = some ds) (z : fn ds = .ret r outs) : fCall pm rm fn fa ρ = .ok (resM rm r) (setOuts (ioSl pm as) outs ρ1) := by
  unfold fCall; rw [h]
  show kCall pm rm fn as ρ1 = _
  unfold kCall; rw [c, v]
  show (match fn ds with | .ret r outs => Rs.ok (resM rm r) (setOuts (ioSl pm as) outs ρ1) | .exc c fs outs => .exc c fs (setOuts (ioSl pm as) outs ρ1) | .bad => .bad) = _
  rw [z]
theorem e_run {pm : List PM} {rm : Bool} {n : Nat} {body : SemS} {ds : List Vl} {s : Sv} {ρ : En} {outs : List Vl} (h : body (initE pm ds n) = .ret s ρ) (o : outsOf pm 0 ρ = some outs) (k : resOk rm s = true) : runB pm rm n body ds = .ret s.d outs := by
  unfold runB; rw [h]
  show fin pm rm s ρ = _
  unfold fin; rw [o, k]
/-! ### loops and comprehensions, evaluated -/
theorem compL_ok {own : List Nat} {tgt : SemG} {cond : SemB} {elt : Sem1} {ρ0 : En} {b : Sv → Bool} {g : Sv → Vl} : ∀ (items : List Sv), (∀ x ∈ items, ∃ ρ1 ρ2, tgt x ρ0 = some ρ1 ∧ cond ρ1 = .ok (b x) ρ2 ∧ (b x = true → ∃ ρ3, elt ρ2 = .ok ⟨.shr, g x⟩ ρ3 ∧ wipeE ρ3 own = ρ0) ∧ (b x = false → wipeE ρ2 own = ρ0)) →
    ∀ acc : List Vl, acc.length + items.length ≤ sizeLine → compL own tgt cond elt items ρ0 acc = .ok (acc ++ (items.filter b).map g) ρ0
  | [], _, acc, _ => by show Rs.ok acc ρ0 = _; simp
  | x :: items, h, acc, hl => by
    obtain ⟨ρ1, ρ2, h1, h2, h3, h4⟩ := h x List.mem_cons_self
    have ih := compL_ok items fun y hy => h y (List.mem_cons_of_mem _ hy)
    have hl' : acc.length + (items.length + 1) ≤ sizeLine := hl
    unfold compL
    rw [h1]
    show bndN (cond ρ1) _ = _
    rw [h2]
    cases hb : b x with
    | true =>
      obtain ⟨ρ3, e1, e2⟩ := h3 hb
      show bndN (elt ρ2) _ = _
      rw [e1]
      show grd (isShr .shr && decide (acc.length < sizeLine)) (compL own tgt cond elt items (wipeE ρ3 own) (acc ++ [g x])) = _
      rw [decide_eq_true (by omega), e2]
      show compL own tgt cond elt items ρ0 (acc ++ [g x]) = _
      rw [ih _ (by rw [List.length_append]; simp; omega), List.filter_cons_of_pos hb]
      simp
    | false =>
      show compL own tgt cond elt items (wipeE ρ2 own) acc = _
      rw [h4 hb, ih _ (by omega), List.filter_cons_of_neg (by simp [hb])]
/-- a for loop that goes through -/
theorem loopL_inv {tgt : SemG} {body : SemS} {I : Nat → En → Prop} : ∀ (items : List Sv) (k : Nat) (ρ : En), (∀ j x ρ, items[j]? = some x → I (k + j) ρ → ∃ ρ1 ρ2, tgt x ρ = some ρ1 ∧ (body ρ1 = .next ρ2 ∨ body ρ1 = .cont ρ2) ∧ I (k + j + 1) ρ2) → I k ρ →
    ∃ ρ', loopL tgt body items ρ = .next ρ' ∧ I (k + items.length) ρ'
  | [], k, ρ, _, h => ⟨ρ, rfl, h⟩
  | x :: items, k, ρ, hs, h => by
    obtain ⟨ρ1, ρ2, h1, h2, h3⟩ := hs 0 x ρ rfl h
    obtain ⟨ρ', e1, e2⟩ := loopL_inv (tgt := tgt) (body := body) (I := I) items (k + 1) ρ2 (fun j y ρ hj hi => by
      have := hs (j + 1) y ρ (by simpa using hj) (by rw [show k + (j + 1) = k + 1 + j by omega]; exact hi)
      rw [show k + (j + 1) + 1 = k + 1 + j + 1 by omega] at this
      exact this) h3
    refine ⟨ρ', ?_, by rw [List.length_cons, show k + (items.length + 1) = k + 1 + items.length by omega]; exact e2⟩
    unfold loopL
    rw [h1]
    show (match body ρ1 with | .next ρ2 => loopL tgt body items ρ2 | .cont ρ2 => loopL tgt body items ρ2 | .brk ρ2 => .next ρ2 | r => r) = _
    rcases h2 with h2 | h2 <;> (rw [h2]; exact e1)
theorem cut_front {α : Type} {xs : List α} {n : Nat} (h : xs.length ≤ n) : cutD xs none (some (n : Int)) = xs := by
  have e : HT.sIx xs.length xs.length (some (n : Int)) = xs.length := by rw [HT.sIx_nat]; omega
  unfold cutD
  rw [e, HT.sIx_none, List.drop_zero, Nat.sub_zero, List.take_length]
end MV
namespace MV
open PySem PySem.Spec PyProof.Rows L2 He
abbrev isv (x : Int) : Sv := ⟨.shr, .int x⟩
abbrev dI (hs : List Int) : Vl := .lst (hs.map Vl.int)
theorem it_ints {m : Md} {hs : List Int} : (hs.map Vl.int).map (mk m) = hs.map isv := by rw [List.map_map]; rfl
theorem rng_iv {lo : Int} {n : Nat} : rngI lo 1 n = (iv lo n).map isv := by
  unfold rngI iv
  rw [List.map_map]
  refine List.map_congr_left fun k _ => ?_
  show (⟨.shr, .int (lo + (k : Int) * 1)⟩ : Sv) = ⟨.shr, .int (lo + (k : Int))⟩
  rw [Int.mul_one]
theorem atI_d {hs : List Int} {i : Nat} (h : i < hs.length) : atI (hs.map Vl.int) (i : Int) = some (.int (hs.getD i 0)) := by
  rw [atI_nat (by rw [List.length_map]; exact h), List.getElem?_map, List.getD_eq_getElem?_getD, List.getElem?_eq_getElem h]; rfl
theorem atI_at {hs : List Int} {p : Int} (h : 1 ≤ hs.length) : atI (hs.map Vl.int) (p % (hs.length : Int)) = some (.int (hAt hs p)) := by
  have := modlt h p
  rw [← this.2, atI_d this.1]; rfl
theorem sc_ints {hs : List Int} : (hs.map Vl.int).all isSc = true := by
  rw [List.all_map]
  exact List.all_eq_true.mpr fun _ _ => rfl
theorem lft_ints {m : Md} {hs : List Int} : lft m (hs.map Vl.int) = true := by
  unfold lft
  rw [sc_ints, Bool.or_true]
def NIo (p : Option Sv) : Prop := p = none ∨ ∃ d, p = some ⟨.shr, d⟩
theorem NIo.non : NIo none := .inl rfl
theorem NIo.some {d : Vl} : NIo (some ⟨.shr, d⟩) := .inr ⟨d, rfl⟩
theorem noIo_of {ρ : En} {i : Nat} {p : Option Sv} (q : NIo p) (h : ρ[i]? = some p) : noIo ρ i = true := by
  unfold noIo
  rw [h]
  rcases q with rfl | ⟨d, rfl⟩ <;> rfl
/-! ranges -/
theorem e_r1 {fa : Sem1} {ρ ρ1 : En} {m : Md} {j : Int} (h : fa ρ = .ok ⟨m, .int j⟩ ρ1) (c : c62 j = true) : iR1 fa ρ = .ok (true, (iv 0 j.toNat).map isv) ρ1 := by
  unfold iR1; rw [h]
  show grd (c62 j) (Rs.ok (true, rngI 0 1 j.toNat) ρ1) = _
  rw [c, rng_iv]; rfl
theorem e_r2 {fa fb : Sem1} {ρ ρ1 ρ2 : En} {m m' : Md} {i j : Int} (h : fa ρ = .ok ⟨m, .int i⟩ ρ1) (h' : fb ρ1 = .ok ⟨m', .int j⟩ ρ2) (c : (c62 i && c62 j) = true) : iR2 fa fb ρ = .ok (true, (iv i (j - i).toNat).map isv) ρ2 := by
  unfold iR2; rw [h]
  show bnd (fb ρ1) (kII fun j ρ2 => grd (c62 i && c62 j) (Rs.ok (true, rngI i 1 (j - i).toNat) ρ2)) = _
  rw [h']
  show grd (c62 i && c62 j) (Rs.ok (true, rngI i 1 (j - i).toNat) ρ2) = _
  rw [c, rng_iv]; rfl
theorem c62_of {i : Int} (h1 : -4000000000000000000 ≤ i) (h2 : i ≤ 4000000000000000000) : c62 i = true := by
  unfold c62
  rw [decide_eq_true (show -(2 ^ 62) ≤ i by omega), decide_eq_true (show i < 2 ^ 62 by omega)]; rfl
theorem e_itL {fa : Sem1} {ρ ρ1 : En} {m : Md} {hs : List Int} (h : fa ρ = .ok ⟨m, dI hs⟩ ρ1) : iSrc fa kItL ρ = .ok (!m.isT, hs.map isv) ρ1 := by
  unfold iSrc; rw [h]
  show Rs.ok (!m.isT, (hs.map Vl.int).map (mk m.kid)) ρ1 = _
  rw [it_ints]
/-- a comprehension over whole numbers -/
theorem lc_int {nn q : Bool} {k : Nat} {src : SemI} {cond : SemB} {elt : Sem1} {ρ : En} {xs : List Int} {b : Int → Bool} {g : Int → Vl} (hs : src ρ = .ok (nn, xs.map isv) ρ) (hq : (nn || q) = true) (hk : ρ[k]? = some none) (hl : xs.length ≤ sizeLine)
    (hc : ∀ x ∈ xs, cond (ρ.set k (some (isv x))) = .ok (b x) (ρ.set k (some (isv x)))) (he : ∀ x ∈ xs, b x = true → elt (ρ.set k (some (isv x))) = .ok ⟨.shr, g x⟩ (ρ.set k (some (isv x)))) :
    fLc q [k] src (gNm k) cond elt ρ = .ok ⟨.own, .lst ((xs.filter b).map g)⟩ ρ := by
  have hw : wipeE ρ [k] = ρ := by
    show ρ.set k none = ρ
    apply List.ext_getElem?
    intro i
    rw [List.getElem?_set]
    split
    · rename_i e
      subst e
      rw [hk]
      split
      · rfl
      · rename_i h
        rw [List.getElem?_eq_none (by omega)] at hk
        cases hk
    · rfl
  have hw2 : ∀ s, wipeE (ρ.set k s) [k] = ρ := fun s => by
    show (ρ.set k s).set k none = ρ
    rw [List.set_set]
    exact hw
  refine e_lc hs hq ?_
  rw [hw]
  have := compL_ok (own := [k]) (tgt := gNm k) (cond := cond) (elt := elt) (ρ0 := ρ) (b := fun s => match s.d with | .int x => b x | _ => false) (g := fun s => match s.d with | .int x => g x | _ => .non) (xs.map isv) (fun y hy => by
    obtain ⟨x, hx, rfl⟩ := List.mem_map.mp hy
    refine ⟨ρ.set k (some (isv x)), ρ.set k (some (isv x)), ?_, hc x hx, fun hb => ⟨_, he x hx hb, hw2 _⟩, fun _ => hw2 _⟩
    show (match noIo ρ k && sto (isv x).m with | true => some (ρ.set k (some (isv x))) | false => none) = _
    rw [noIo_of NIo.non hk]; rfl) [] (by rw [List.length_map]; show 0 + _ ≤ _; omega)
  rw [this, List.nil_append, List.filter_map, List.map_map]
  rfl
/-- a for loop over whole numbers -/
theorem for_int {k : Nat} {src : SemI} {body : SemS} {ρ ρ1 : En} {xs : List Int} (I : Nat → En → Prop) (hs : src ρ = .ok (true, xs.map isv) ρ1) (h0 : I 0 ρ1)
    (st : ∀ j x ρ, xs[j]? = some x → I j ρ → noIo ρ k = true ∧ ∃ ρ2, (body (ρ.set k (some (isv x))) = .next ρ2 ∨ body (ρ.set k (some (isv x))) = .cont ρ2) ∧ I (j + 1) ρ2) :
    ∃ ρ', sFor src (gNm k) body ρ = .next ρ' ∧ I xs.length ρ' := by
  obtain ⟨ρ', e1, e2⟩ := loopL_inv (tgt := gNm k) (body := body) (I := I) (xs.map isv) 0 ρ1 (fun j y ρ hj hi => by
    rw [Nat.zero_add] at hi ⊢
    rw [List.getElem?_map] at hj
    obtain ⟨x, hx, rfl⟩ := Option.map_eq_some_iff.mp hj
    obtain ⟨h1, ρ2, h2, h3⟩ := st j x ρ hx hi
    refine ⟨ρ.set k (some (isv x)), ρ2, ?_, h2, h3⟩
    show (match noIo ρ k && sto (isv x).m with | true => some (ρ.set k (some (isv x))) | false => none) = _
    rw [h1]; rfl) h0
  refine ⟨ρ', ?_, by rw [List.length_map, Nat.zero_add] at e2; exact e2⟩
  exact e_for hs e1
theorem iv0_get {n j : Nat} {x : Int} (h : (iv 0 n)[j]? = some x) : j < n ∧ x = (j : Int) := by
  by_cases c : j < n
  · rw [iv_get c] at h
    exact ⟨c, by have := Option.some.inj h; omega⟩
  · rw [List.getElem?_eq_none (by rw [iv_length]; omega)] at h; cases h
/-! operators -/
theorem e_ixI {qb : Bool} {fa fb : Sem1} {ρ ρ1 ρ2 : En} {m m' : Md} {hs : List Int} {k v : Int} (h1 : fa ρ = .ok ⟨m, dI hs⟩ ρ1) (hh : held m qb = true) (h2 : fb ρ1 = .ok ⟨m', .int k⟩ ρ2) (hi : atI (hs.map Vl.int) k = some (.int v)) : fTwo qb fa fb kIx ρ = .ok ⟨.shr, .int v⟩ ρ2 :=
  e_two h1 hh h2 (by
    show (match atI (hs.map Vl.int) k with | some d => Rs.ok (mk m.kid d) ρ2 | none => .bad) = _
    rw [hi]; rfl)
theorem e_mod {qb : Bool} {fa fb : Sem1} {ρ ρ1 ρ2 : En} {m m' : Md} {p n : Int} (h1 : fa ρ = .ok ⟨m, .int p⟩ ρ1) (hh : held m qb = true) (h2 : fb ρ1 = .ok ⟨m', .int n⟩ ρ2) (hn : 0 < n) : fTwo qb fa fb (kS (gIc cMod Int.fmod)) ρ = .ok ⟨.shr, .int (p % n)⟩ ρ2 :=
  e_two h1 hh h2 (by
    show (match (if cMod p n then some (Vl.int (p.fmod n)) else none) with | some d => if isSc d then Rs.ok (Sv.mk .shr d) ρ2 else .bad | none => .bad) = _
    rw [if_pos (by unfold cMod; exact decide_eq_true (by omega)), Int.fmod_eq_emod_of_nonneg _ (by omega)]; rfl)
theorem e_fdiv {qb : Bool} {fa fb : Sem1} {ρ ρ1 ρ2 : En} {m m' : Md} {p n : Int} (h1 : fa ρ = .ok ⟨m, .int p⟩ ρ1) (hh : held m qb = true) (h2 : fb ρ1 = .ok ⟨m', .int n⟩ ρ2) (hn : 0 < n) (hn2 : n < 1000000000) : fTwo qb fa fb (kS (gIc cDiv Int.fdiv)) ρ = .ok ⟨.shr, .int (p / n)⟩ ρ2 :=
  e_two h1 hh h2 (by
    show (match (if cDiv p n then some (Vl.int (p.fdiv n)) else none) with | some d => if isSc d then Rs.ok (Sv.mk .shr d) ρ2 else .bad | none => .bad) = _
    have : cDiv p n = true := by
      unfold cDiv
      rw [decide_eq_true (show n ≠ 0 by omega), decide_eq_true (show n.natAbs < 1073741824 by omega)]; rfl
    rw [if_pos this, Int.fdiv_eq_ediv_of_nonneg _ (by omega)]; rfl)
theorem e_mul {qb : Bool} {fa fb : Sem1} {ρ ρ1 ρ2 : En} {m m' : Md} {p n : Int} (h1 : fa ρ = .ok ⟨m, .int p⟩ ρ1) (hh : held m qb = true) (h2 : fb ρ1 = .ok ⟨m', .int n⟩ ρ2) (hn : -1000000000 ≤ p) (hn2 : p < 1000000000) : fTwo qb fa fb kMul ρ = .ok ⟨.shr, .int (p * n)⟩ ρ2 :=
  e_two h1 hh h2 (by
    show grd (cMul p n) (Rs.ok (Sv.mk .shr (.int (p * n))) ρ2) = _
    have : cMul p n = true := by
      unfold cMul
      rw [decide_eq_true (show -(2 ^ 64) < p by omega), decide_eq_true (show p < 2 ^ 64 by omega)]; rfl
    rw [this]; rfl)
theorem e_lenI {fa : Sem1} {ρ ρ1 : En} {m : Md} {hs : List Int} (h : fa ρ = .ok ⟨m, dI hs⟩ ρ1) : fOne fa (kS1 gLen) ρ = .ok ⟨.shr, .int (hs.length : Int)⟩ ρ1 :=
  e_one h (by
    show Rs.ok (Sv.mk .shr (.int ((hs.map Vl.int).length : Nat))) ρ1 = _
    rw [List.length_map])
theorem e_sumI {fa : Sem1} {ρ ρ1 : En} {m : Md} {hs : List Int} (h : fa ρ = .ok ⟨m, dI hs⟩ ρ1) : fOne fa (kS1 gSum) ρ = .ok ⟨.shr, .int hs.sum⟩ ρ1 :=
  e_one h (by
    show (match (iL (hs.map Vl.int)).map (fun ns => Vl.int ns.sum) with | some d => if isSc d then Rs.ok (Sv.mk .shr d) ρ1 else .bad | none => .bad) = _
    rw [iL_map]; rfl)
theorem e_maxI {fa : Sem1} {ρ ρ1 : En} {m : Md} {hs : List Int} (h : fa ρ = .ok ⟨m, dI hs⟩ ρ1) (n : 1 ≤ hs.length) : fOne fa (kS1 gMax) ρ = .ok ⟨.shr, .int (maxL hs)⟩ ρ1 :=
  e_one h (by
    show (match (iL (hs.map Vl.int)).bind (fun ns => if ns.isEmpty then none else some (Vl.int (maxL ns))) with | some d => if isSc d then Rs.ok (Sv.mk .shr d) ρ1 else .bad | none => .bad) = _
    rw [iL_map]
    cases hs with
    | nil => simp at n
    | cons a l => rfl)
theorem e_srt {fa : Sem1} {ρ ρ1 : En} {m : Md} {hs : List Int} (h : fa ρ = .ok ⟨m, dI hs⟩ ρ1) : fOne fa kSrt ρ = .ok ⟨.own, dI (srt hs)⟩ ρ1 :=
  e_one h (by
    show (match iL (hs.map Vl.int) with | some ns => Rs.ok (Sv.mk .own (.lst ((srt ns).map Vl.int))) ρ1 | none => .bad) = _
    rw [iL_map])
theorem e_listI {fa : Sem1} {ρ ρ1 : En} {m : Md} {hs : List Int} (h : fa ρ = .ok ⟨m, dI hs⟩ ρ1) : fOne fa kListOf ρ = .ok ⟨.own, dI hs⟩ ρ1 :=
  e_one h (by
    show grd (lft m (hs.map Vl.int)) (Rs.ok (Sv.mk .own (dI hs)) ρ1) = _
    rw [lft_ints]; rfl)
theorem e_listT {fa : Sem1} {ρ ρ1 : En} {m : Md} {hs : List Int} (h : fa ρ = .ok ⟨m, .tup (hs.map Vl.int)⟩ ρ1) : fOne fa kListOf ρ = .ok ⟨.own, dI hs⟩ ρ1 :=
  e_one h (by
    show grd (lft m (hs.map Vl.int)) (Rs.ok (Sv.mk .own (dI hs)) ρ1) = _
    rw [lft_ints]; rfl)
theorem e_tupI {fa : Sem1} {ρ ρ1 : En} {m : Md} {hs : List Int} (h : fa ρ = .ok ⟨m, dI hs⟩ ρ1) : fOne fa kTupOf ρ = .ok ⟨.shr, .tup (hs.map Vl.int)⟩ ρ1 :=
  e_one h (by
    show grd (lft m (hs.map Vl.int)) (Rs.ok (Sv.mk .shr (.tup (hs.map Vl.int))) ρ1) = _
    rw [lft_ints]; rfl)
theorem e_addI {qb : Bool} {fa fb : Sem1} {ρ ρ1 ρ2 : En} {m m' : Md} {xs ys : List Int} (h1 : fa ρ = .ok ⟨m, dI xs⟩ ρ1) (hh : held m qb = true) (h2 : fb ρ1 = .ok ⟨m', dI ys⟩ ρ2) (l : xs.length + ys.length ≤ 10000) : fTwo qb fa fb kAdd ρ = .ok ⟨.own, dI (xs ++ ys)⟩ ρ2 :=
  e_two h1 hh h2 (by
    show grd (lft m (xs.map Vl.int) && lft m' (ys.map Vl.int) && decide ((xs.map Vl.int).length + (ys.map Vl.int).length ≤ sizeLine)) (Rs.ok (Sv.mk .own (.lst (xs.map Vl.int ++ ys.map Vl.int))) ρ2) = _
    rw [lft_ints, lft_ints, List.length_map, List.length_map, decide_eq_true (Nat.le_trans l (by decide)), ← List.map_append]; rfl)
theorem rep_one {x : Int} : ∀ k : Nat, (List.replicate k ([x].map Vl.int)).flatten = (List.replicate k x).map Vl.int
  | 0 => rfl
  | k + 1 => by rw [List.replicate_succ, List.flatten_cons, rep_one k]; rfl
theorem e_repI {qb : Bool} {fa fb : Sem1} {ρ ρ1 ρ2 : En} {m m' : Md} {x : Int} {k : Nat} (h1 : fa ρ = .ok ⟨m, dI [x]⟩ ρ1) (hh : held m qb = true) (h2 : fb ρ1 = .ok ⟨m', .int (k : Int)⟩ ρ2) (l : k ≤ 10000) : fTwo qb fa fb kMul ρ = .ok ⟨.own, dI (List.replicate k x)⟩ ρ2 :=
  e_two h1 hh h2 (by
    show grd (lft m ([x].map Vl.int) && cRep 1 (k : Int)) (Rs.ok (Sv.mk .own (.lst (List.replicate (k : Int).toNat ([x].map Vl.int)).flatten)) ρ2) = _
    have hc : cRep 1 (k : Int) = true := by
      unfold cRep
      rw [decide_eq_true (show -(2 ^ 63) ≤ (k : Int) by omega), decide_eq_true (show (k : Int) < 2 ^ 63 by omega), decide_eq_true (show 1 * (k : Int).toNat ≤ sizeLine from Nat.le_trans (by omega : 1 * (k : Int).toNat ≤ 10000) (by decide))]; rfl
    rw [lft_ints, hc, Int.toNat_natCast]
    rw [rep_one]; rfl)
theorem e_set {i k : Nat} {fk fv : Sem1} {ρ ρ1 ρ2 : En} {m m2 : Md} {xs : List Int} {x : Int} (hv : fv ρ = .ok ⟨.shr, .int x⟩ ρ1) (hl : isL ρ1 i = true) (hk : fk ρ1 = .ok ⟨m2, .int (k : Int)⟩ ρ2) (h2 : ρ2[i]? = some (some ⟨m, dI xs⟩)) (hm : mutb m = true) (hi : k < xs.length) : sSet i fk fv ρ = .next (ρ2.set i (some ⟨m, dI (xs.set k x)⟩)) := by
  unfold sSet
  rw [hv]
  show grdS (isL ρ1 i) (bndS (fk ρ1) (kIS fun k ρ2 => match onL i (kSet k (.int x)) ρ2 with
  | .ok _ ρ3 => .next ρ3
  | _ => .bad)) = _
  rw [hl, hk]
  show (match onL i (kSet (k : Int) (.int x)) ρ2 with
  | .ok _ ρ3 => Sr.next ρ3
  | _ => .bad) = _
  have : kSet (k : Int) (.int x) (xs.map Vl.int) = some (.non, (xs.set k x).map Vl.int) := by
    unfold kSet ixN
    rw [if_pos (Int.natCast_nonneg k), if_pos (by rw [List.length_map]; omega)]
    show some (Vl.non, (xs.map Vl.int).set (k : Int).toNat (.int x)) = _
    rw [Int.toNat_natCast, List.map_set]
  unfold onL
  rw [h2]
  show (match grd (mutb m) (match kSet (k : Int) (.int x) (xs.map Vl.int) with
    | some (d, ys) => .ok (mk .shr d) (ρ2.set i (some ⟨m, .lst ys⟩))
    | none => .bad) with
  | .ok _ ρ3 => Sr.next ρ3
  | _ => .bad) = _
  rw [hm, this]; rfl
theorem e_as {i : Nat} {f : Sem1} {ρ ρ1 ρ2 : En} {s : Sv} (h : f ρ = .ok s ρ1) (n : noIo ρ1 i = true) (m : sto s.m = true) (r : ρ1.set i (some s) = ρ2) : sAsg i f ρ = .next ρ2 := by rw [← r]; exact e_asg h n m
theorem e_st {i k : Nat} {fk fv : Sem1} {ρ ρ1 ρ2 ρ3 : En} {m m2 : Md} {xs : List Int} {x : Int} (hv : fv ρ = .ok ⟨.shr, .int x⟩ ρ1) (hl : isL ρ1 i = true) (hk : fk ρ1 = .ok ⟨m2, .int (k : Int)⟩ ρ2) (h2 : ρ2[i]? = some (some ⟨m, dI xs⟩)) (hm : mutb m = true) (hi : k < xs.length) (r : ρ2.set i (some ⟨m, dI (xs.set k x)⟩) = ρ3) : sSet i fk fv ρ = .next ρ3 := by rw [← r]; exact e_set hv hl hk h2 hm hi
theorem e_cl {pm : List PM} {rm : Bool} {fn : Fn} {fa : SemA} {ρ ρ1 ρ2 : En} {as : List Ar} {ds : List Vl} {r : Vl} {outs : List Vl} {s : Sv} (h : fa ρ = .ok as ρ1) (c : (ndB (ioSl pm as) && chkA (ioSl pm as) pm as) = true) (v : argVs ρ1 pm as = some ds) (z : fn ds = .ret r outs) (hr : resM rm r = s) (ho : setOuts (ioSl pm as) outs ρ1 = ρ2) : fCall pm rm fn fa ρ = .ok s ρ2 := by rw [← hr, ← ho]; exact e_call h c v z
theorem e_mt {c m : Str} {pm : List PM} {rm : Bool} {fn : Fn} {fo : SemR} {fa : SemA} {ρ ρ0 ρ1 ρ2 : En} {a : Ar} {as : List Ar} {ds : List Vl} {r : Vl} {outs : List Vl} {s : Sv} (h0 : fo ρ = .ok a ρ0) (hc : clsOk c m ρ0 a = true) (h : fa ρ0 = .ok as ρ1) (cc : (ndB (ioSl pm (a :: as)) && chkA (ioSl pm (a :: as)) pm (a :: as)) = true) (v : argVs ρ1 pm (a :: as) = some ds) (z : fn ds = .ret r outs) (hr : resM rm r = s) (ho : setOuts (ioSl pm (a :: as)) outs ρ1 = ρ2) : fMeth c m pm rm fn fo fa ρ = .ok s ρ2 := by
  unfold fMeth
  rw [h0]
  show grd (clsOk _ m ρ0 a) (bnd (fa ρ0) fun as ρ2 => kCall pm rm fn (a :: as) ρ2) = _
  rw [hc, h]
  have := e_call (rm := rm) (fa := fun ρ => .ok (a :: as) ρ) (ρ := ρ1) rfl cc v z
  rw [hr, ho] at this
  exact this
theorem e_pr {c f : Str} {rm : Bool} {fn : Fn} {fo : SemR} {ρ ρ0 : En} {a : Ar} {d r : Vl} {s : Sv} (h0 : fo ρ = .ok a ρ0) (hc : clsOk c f ρ0 a = true) (cc : (ndB (ioSl [.bor] [a]) && chkA (ioSl [.bor] [a]) [.bor] [a]) = true) (v : argVs ρ0 [.bor] [a] = some [d]) (z : fn [d] = .ret r []) (hr : resM rm r = s) : fProp c f rm fn fo ρ = .ok s ρ0 := by
  unfold fProp
  rw [h0]
  show grd (clsOk _ f ρ0 a) (noX (kCall [.bor] rm fn [a] ρ0)) = _
  rw [hc]
  have := e_call (rm := rm) (fa := fun ρ => .ok [a] ρ) (ρ := ρ0) rfl cc v z
  have e : setOuts (ioSl [.bor] [a]) [] ρ0 = ρ0 := by cases a <;> rfl
  rw [hr, e] at this
  show noX (kCall [.bor] rm fn [a] ρ0) = _
  rw [show kCall [.bor] rm fn [a] ρ0 = .ok s ρ0 from this]; rfl
theorem e_mk {c : Str} {pm : List PM} {fn : Fn} {fa : SemA} {ρ ρ1 : En} {as : List Ar} {ds : List Vl} {d : Vl} (h : fa ρ = .ok as ρ1) (hc : ((ioSl pm as).isEmpty && chkA [] pm as) = true) (v : argVs ρ1 pm as = some ds) (z : fn (.ins c [] :: ds) = .ret .non [d]) : fMake c pm fn fa ρ = .ok ⟨.own, d⟩ ρ1 := by
  unfold fMake
  rw [h]
  show kMake c pm fn as ρ1 = _
  unfold kMake
  rw [hc, v]
  show (match fn (.ins c [] :: ds) with
      | .ret .non [d] => Rs.ok (Sv.mk .own d) ρ1
      | .exc c fs [_] => .exc c fs ρ1
      | _ => .bad) = _
  rw [z]
theorem e_app {i : Nat} {fa : Sem1} {ρ ρ1 ρ2 : En} {m : Md} {xs : List Int} {x : Int} (hl : isL ρ i = true) (h : fa ρ = .ok ⟨.shr, .int x⟩ ρ1) (h2 : ρ1[i]? = some (some ⟨m, dI xs⟩)) (hm : mutb m = true) (l : xs.length < 10000) (r : ρ1.set i (some ⟨m, dI (xs ++ [x])⟩) = ρ2) : fApp i fa ρ = .ok ⟨.shr, .non⟩ ρ2 := by
  unfold fApp
  rw [hl, h]
  show onL i (kApp (.int x)) ρ1 = _
  unfold onL
  rw [h2]
  show grd (mutb m) (match kApp (.int x) (xs.map Vl.int) with
    | some (d, ys) => .ok (mk .shr d) (ρ1.set i (some ⟨m, .lst ys⟩))
    | none => .bad) = _
  have : kApp (.int x) (xs.map Vl.int) = some (.non, (xs ++ [x]).map Vl.int) := by
    unfold kApp
    rw [if_pos (by rw [List.length_map]; exact Nat.lt_of_lt_of_le l (by decide)), List.map_append]; rfl
  rw [hm, this, ← r]; rfl
theorem t_chn {fa fb fc : Sem1} {ρ ρ1 ρ2 ρ3 : En} {m m' m'' : Md} {i j k : Int} (h1 : fa ρ = .ok ⟨m, .int i⟩ ρ1) (h2 : fb ρ1 = .ok ⟨m', .int j⟩ ρ2) (h3 : fc ρ2 = .ok ⟨m'', .int k⟩ ρ3) (p : i ≤ j) (q : j ≤ k) : fTst (fChain bLe bLe fa fb fc) ρ = .ok true ρ3 := by
  have : fChain bLe bLe fa fb fc ρ = .ok ⟨.shr, .bl true⟩ ρ3 := by
    unfold fChain
    rw [h1]
    show bnd (fb ρ1) (kI fun j ρ2 => match bLe i j with
      | true => bnd (fc ρ2) (kI fun k ρ3 => .ok ⟨.shr, .bl (bLe j k)⟩ ρ3)
      | false => .ok ⟨.shr, .bl false⟩ ρ2) = _
    rw [h2]
    show (match bLe i j with
      | true => bnd (fc ρ2) (kI fun k ρ3 => .ok ⟨.shr, .bl (bLe j k)⟩ ρ3)
      | false => .ok ⟨.shr, .bl false⟩ ρ2) = _
    rw [show bLe i j = true from decide_eq_true p]
    show bnd (fc ρ2) (kI fun k ρ3 => .ok ⟨.shr, .bl (bLe j k)⟩ ρ3) = _
    rw [h3]
    show Rs.ok (Sv.mk .shr (.bl (bLe j k))) ρ3 = _
    rw [show bLe j k = true from decide_eq_true q]
  unfold fTst
  rw [this]; rfl
theorem e_runN {pm : List PM} {rm : Bool} {n : Nat} {body : SemS} {ds : List Vl} {ρ : En} {outs : List Vl} (h : body (initE pm ds n) = .next ρ) (o : outsOf pm 0 ρ = some outs) : runB pm rm n body ds = .ret .non outs := by
  unfold runB; rw [h]
  show fin pm rm ⟨.shr, .non⟩ ρ = _
  unfold fin; rw [o]; rfl
theorem e_ltT {qb : Bool} {fa fb : Sem1} {ρ ρ1 ρ2 : En} {m m' : Md} {x y : Int} (h1 : fa ρ = .ok ⟨m, .int x⟩ ρ1) (hh : held m qb = true) (h2 : fb ρ1 = .ok ⟨m', .int y⟩ ρ2) {f : Int → Int → Bool} : fTst (fTwo qb fa fb (kS (gB f))) ρ = .ok (f x y) ρ2 :=
  t_ts (e_two h1 hh h2 rfl)
where t_ts {f : Sem1} {ρ ρ1 : En} {m : Md} {b : Bool} (h : f ρ = .ok ⟨m, .bl b⟩ ρ1) : fTst f ρ = .ok b ρ1 := by unfold fTst; rw [h]; rfl
theorem lc_id {nn q : Bool} {k : Nat} {src : SemI} {cond : SemB} {elt : Sem1} {ρ : En} {xs : List Int} {b : Int → Bool} (g : Int → Int) (hs : src ρ = .ok (nn, xs.map isv) ρ) (hq : (nn || q) = true) (hk : ρ[k]? = some none) (hl : xs.length ≤ 10000)
    (hc : ∀ x ∈ xs, cond (ρ.set k (some (isv x))) = .ok (b x) (ρ.set k (some (isv x)))) (he : ∀ x ∈ xs, b x = true → elt (ρ.set k (some (isv x))) = .ok (isv (g x)) (ρ.set k (some (isv x)))) :
    fLc q [k] src (gNm k) cond elt ρ = .ok ⟨.own, dI ((xs.filter b).map g)⟩ ρ := by
  rw [lc_int (g := fun x => .int (g x)) hs hq hk (Nat.le_trans hl (by decide)) hc he]
  show _ = Rs.ok (Sv.mk .own (.lst (((xs.filter b).map g).map Vl.int))) ρ
  rw [List.map_map]; rfl
theorem filt_all {α : Type} {xs : List α} : xs.filter (fun _ => true) = xs := List.filter_eq_self.mpr (fun _ _ => rfl)
theorem onL_eq {i : Nat} {k : List Vl → Option (Vl × List Vl)} {ρ : En} {m : Md} {xs ys : List Vl} {d : Vl} (h2 : ρ[i]? = some (some ⟨m, .lst xs⟩)) (hm : mutb m = true) (hk : k xs = some (d, ys)) : onL i k ρ = .ok (mk .shr d) (ρ.set i (some ⟨m, .lst ys⟩)) := by
  unfold onL
  rw [h2]
  show grd (mutb m) (match k xs with
    | some (d, ys) => .ok (mk .shr d) (ρ.set i (some ⟨m, .lst ys⟩))
    | none => .bad) = _
  rw [hm, hk]; rfl
theorem map_era : ∀ {xs : List Int} {k : Nat}, (xs.map Vl.int).eraseIdx k = (xs.eraseIdx k).map Vl.int
  | [], _ => rfl
  | x :: xs, 0 => rfl
  | x :: xs, k + 1 => by
    show Vl.int x :: (xs.map Vl.int).eraseIdx k = Vl.int x :: (xs.eraseIdx k).map Vl.int
    rw [map_era]
theorem kPopAt_eq {k : Nat} {xs : List Int} {x : Int} (l : xs.length < 10000) (hk : xs[k]? = some x) : kPopAt (k : Int) (xs.map Vl.int) = some (.int x, (xs.eraseIdx k).map Vl.int) := by
  have hkl : k < xs.length := (List.getElem?_eq_some_iff.mp hk).1
  unfold kPopAt
  rw [if_pos (by omega), List.length_map]
  have e : seqIndex? (k : Int) xs.length = some k := by
    unfold seqIndex?
    simp
    omega
  rw [e]
  show ((xs.map Vl.int)[k]?).map (fun d => (d, (xs.map Vl.int).eraseIdx k)) = _
  rw [List.getElem?_map, hk]
  show some (Vl.int x, (xs.map Vl.int).eraseIdx k) = _
  rw [map_era]
theorem e_popAt {i k : Nat} {fa : Sem1} {ρ ρ1 ρ2 : En} {m m2 : Md} {xs : List Int} {x : Int} (hl : isL ρ i = true) (h : fa ρ = .ok ⟨m2, .int (k : Int)⟩ ρ1) (h2 : ρ1[i]? = some (some ⟨m, dI xs⟩)) (hm : mutb m = true) (l : xs.length < 10000) (hk : xs[k]? = some x) (r : ρ1.set i (some ⟨m, dI (xs.eraseIdx k)⟩) = ρ2) : fPopAt i fa ρ = .ok (isv x) ρ2 := by
  have e1 := onL_eq (k := kPopAt (k : Int)) h2 hm (kPopAt_eq l hk)
  have e0 : fPopAt i fa ρ = onL i (kPopAt (k : Int)) ρ1 := by
    unfold fPopAt
    rw [hl, h]
    unfold bnd kI grd
    rfl
  rw [e0, e1]
  show Rs.ok (isv x) (ρ1.set i (some ⟨m, dI (xs.eraseIdx k)⟩)) = _
  rw [r]
theorem asg_of {ρ : En} {i : Nat} {s : Sv} (h : ρ[i]? = some (some s)) : asg ρ i = true := by unfold asg; rw [h]
theorem arg2_of {ρ : En} {i j : Nat} {d0 : Vl} {x : Int} (h0 : argVs ρ [.bor] [.sl j] = some [d0]) (h : ρ[i]? = some (some (isv x))) : argVs ρ [.bor, .bor] [.sl j, .sl i] = some [d0, .int x] := by
  have h1 : arV ρ (.sl i) = some (isv x) := by rw [arV_sl, h]
  have h2 : argVs ρ [.bor] [.sl i] = some [.int x] := by
    rw [argVs_cons, h1]; rfl
  rw [argVs_cons] at h0 ⊢
  cases e : arV ρ (.sl j) with
  | none => rw [e] at h0; cases h0
  | some t =>
    rw [e] at h0
    have h0' : (match arD .bor t with | some d => (some ([] : List Vl)).map (d :: ·) | none => none) = some [d0] := h0
    show (match arD .bor t with | some d => (argVs ρ [.bor] [.sl i]).map (d :: ·) | none => none) = _
    rw [h2]
    cases e2 : arD .bor t with
    | none => rw [e2] at h0'; cases h0'
    | some d =>
      rw [e2] at h0'
      have := Option.some.inj h0'
      have hd : d = d0 := by injection this
      rw [hd]; rfl
/-! comparison -/
theorem veq_int {a b : Int} : veq (.int a) (.int b) = decide (a = b) := by
  show PyData.eqv (.int a) (.int b) = _
  by_cases h : a = b
  · subst h; simp [PyData.eqv]
  · simp [PyData.eqv, h]
theorem eqvAll_ints : ∀ {xs ys : List Int}, PyData.eqvAll (toDs (xs.map Vl.int)) (toDs (ys.map Vl.int)) = decide (xs = ys)
  | [], [] => by simp [toDs, PyData.eqvAll]
  | [], y :: ys => by simp [toDs, PyData.eqvAll]
  | x :: xs, [] => by simp [toDs, PyData.eqvAll]
  | x :: xs, y :: ys => by
    have ih := @eqvAll_ints xs ys
    show (PyData.eqv (.int x) (.int y) && PyData.eqvAll (toDs (xs.map Vl.int)) (toDs (ys.map Vl.int))) = _
    rw [ih]
    have := @veq_int x y
    rw [show PyData.eqv (.int x) (.int y) = decide (x = y) from this]
    by_cases h : x = y
    · subst h; simp
    · simp [h]
theorem canLay_ints : ∀ {xs : List Int}, PyData.canLayAll0 (toDs (xs.map Vl.int)) = true
  | [] => rfl
  | x :: xs => by
    show (true && PyData.canLayAll0 (toDs (xs.map Vl.int))) = true
    rw [canLay_ints]; rfl
theorem depth_ints : ∀ {xs : List Int}, PyData.depthAll (toDs (xs.map Vl.int)) ≤ 1
  | [] => by simp [toDs, PyData.depthAll]
  | x :: xs => by
    have := @depth_ints xs
    simp [toDs, PyData.depthAll, toD, PyData.depth]
    exact this
theorem cEq_ints {xs ys : List Int} : cEq (dI xs) (dI ys) = true := by
  have h : ∀ zs : List Int, SeqAt.shaped (toD (dI zs)) = true := fun zs => by
    show (PyData.canLayAll0 (toDs (zs.map Vl.int)) && decide (PyData.depth (.list (toDs (zs.map Vl.int))) ≤ 64)) = true
    rw [canLay_ints, decide_eq_true]
    · rfl
    · have := @depth_ints zs
      simp [PyData.depth]
      omega
  unfold cEq
  rw [h, h]; rfl
theorem gEq_ints {xs ys : List Int} : gEq (dI xs) (dI ys) = some (.bl (decide (xs = ys))) := by
  unfold gEq
  rw [cEq_ints]
  show some (Vl.bl (PyData.eqvAll (toDs (xs.map Vl.int)) (toDs (ys.map Vl.int)))) = _
  rw [eqvAll_ints]
theorem gNe_ints {xs ys : List Int} : gNe (dI xs) (dI ys) = some (.bl (!decide (xs = ys))) := by
  unfold gNe
  rw [cEq_ints]
  show some (Vl.bl (!PyData.eqvAll (toDs (xs.map Vl.int)) (toDs (ys.map Vl.int)))) = _
  rw [eqvAll_ints]
theorem gEq_int {a b : Int} : gEq (.int a) (.int b) = some (.bl (decide (a = b))) := by
  show some (Vl.bl (veq (.int a) (.int b))) = _
  rw [veq_int]
theorem gNe_int {a b : Int} : gNe (.int a) (.int b) = some (.bl (!decide (a = b))) := by
  show some (Vl.bl (!veq (.int a) (.int b))) = _
  rw [veq_int]
theorem gIn_int {a : Int} {xs : List Int} : gIn false (.int a) (dI xs) = some (.bl (decide (a ∈ xs))) := by
  show (if isSc (.int a) && (xs.map Vl.int).all isSc then some (Vl.bl (if false then !((xs.map Vl.int).any fun y => eqF y (.int a)) else (xs.map Vl.int).any fun y => eqF y (.int a))) else none) = _
  rw [sc_ints]
  show some (Vl.bl ((xs.map Vl.int).any fun y => eqF y (.int a))) = _
  have : ((xs.map Vl.int).any fun y => eqF y (.int a)) = decide (a ∈ xs) := by
    rw [List.any_map]
    induction xs with
    | nil => simp
    | cons x xs ih =>
      rw [List.any_cons, ih]
      show ((x == a) || decide (a ∈ xs)) = _
      by_cases h : a = x
      · subst h; simp
      · have : (x == a) = false := by simp; exact fun e => h e.symm
        rw [this]
        simp [h]
  rw [this]
theorem t_eqI {qb : Bool} {fa fb : Sem1} {ρ ρ1 ρ2 : En} {m m' : Md} {x y : Int} (h1 : fa ρ = .ok ⟨m, .int x⟩ ρ1) (hh : held m qb = true) (h2 : fb ρ1 = .ok ⟨m', .int y⟩ ρ2) : fTst (fTwo qb fa fb (kS gEq)) ρ = .ok (decide (x = y)) ρ2 := by
  unfold fTst
  rw [e_two h1 hh h2 (r := .ok ⟨.shr, .bl (decide (x = y))⟩ ρ2) (by
    show (match gEq (.int x) (.int y) with | some d => if isSc d then Rs.ok (Sv.mk .shr d) ρ2 else .bad | none => .bad) = _
    rw [gEq_int]; rfl)]; rfl
theorem t_neI {qb : Bool} {fa fb : Sem1} {ρ ρ1 ρ2 : En} {m m' : Md} {x y : Int} (h1 : fa ρ = .ok ⟨m, .int x⟩ ρ1) (hh : held m qb = true) (h2 : fb ρ1 = .ok ⟨m', .int y⟩ ρ2) : fTst (fTwo qb fa fb (kS gNe)) ρ = .ok (!decide (x = y)) ρ2 := by
  unfold fTst
  rw [e_two h1 hh h2 (r := .ok ⟨.shr, .bl (!decide (x = y))⟩ ρ2) (by
    show (match gNe (.int x) (.int y) with | some d => if isSc d then Rs.ok (Sv.mk .shr d) ρ2 else .bad | none => .bad) = _
    rw [gNe_int]; rfl)]; rfl
theorem t_neL {qb : Bool} {fa fb : Sem1} {ρ ρ1 ρ2 : En} {m m' : Md} {x y : List Int} (h1 : fa ρ = .ok ⟨m, dI x⟩ ρ1) (hh : held m qb = true) (h2 : fb ρ1 = .ok ⟨m', dI y⟩ ρ2) : fTst (fTwo qb fa fb (kS gNe)) ρ = .ok (!decide (x = y)) ρ2 := by
  unfold fTst
  rw [e_two h1 hh h2 (r := .ok ⟨.shr, .bl (!decide (x = y))⟩ ρ2) (by
    show (match gNe (dI x) (dI y) with | some d => if isSc d then Rs.ok (Sv.mk .shr d) ρ2 else .bad | none => .bad) = _
    rw [gNe_ints]; rfl)]; rfl
theorem e_eqL {qb : Bool} {fa fb : Sem1} {ρ ρ1 ρ2 : En} {m m' : Md} {x y : List Int} (h1 : fa ρ = .ok ⟨m, dI x⟩ ρ1) (hh : held m qb = true) (h2 : fb ρ1 = .ok ⟨m', dI y⟩ ρ2) : fTwo qb fa fb (kS gEq) ρ = .ok ⟨.shr, .bl (decide (x = y))⟩ ρ2 :=
  e_two h1 hh h2 (by
    show (match gEq (dI x) (dI y) with | some d => if isSc d then Rs.ok (Sv.mk .shr d) ρ2 else .bad | none => .bad) = _
    rw [gEq_ints]; rfl)
theorem t_inI {qb : Bool} {fa fb : Sem1} {ρ ρ1 ρ2 : En} {m m' : Md} {x : Int} {y : List Int} (h1 : fa ρ = .ok ⟨m, .int x⟩ ρ1) (hh : held m qb = true) (h2 : fb ρ1 = .ok ⟨m', dI y⟩ ρ2) : fTst (fTwo qb fa fb (kS (gIn false))) ρ = .ok (decide (x ∈ y)) ρ2 := by
  unfold fTst
  rw [e_two h1 hh h2 (r := .ok ⟨.shr, .bl (decide (x ∈ y))⟩ ρ2) (by
    show (match gIn false (.int x) (dI y) with | some d => if isSc d then Rs.ok (Sv.mk .shr d) ρ2 else .bad | none => .bad) = _
    rw [gIn_int]; rfl)]; rfl
theorem t_not {f : SemB} {ρ ρ1 : En} {b : Bool} (h : f ρ = .ok b ρ1) : fNot f ρ = .ok (!b) ρ1 := by unfold fNot; rw [h]; rfl
theorem t_tru {f : Sem1} {ρ ρ1 : En} {m : Md} {b : Bool} (h : f ρ = .ok ⟨m, .bl b⟩ ρ1) : fTru f ρ = .ok b ρ1 := by unfold fTru; rw [h]; rfl
theorem t_or_f {f g : SemB} {ρ ρ1 ρ2 : En} {b : Bool} (h : f ρ = .ok false ρ1) (h2 : g ρ1 = .ok b ρ2) : fOr f g ρ = .ok b ρ2 := by unfold fOr; rw [h]; exact h2
theorem t_and_t {f g : SemB} {ρ ρ1 ρ2 : En} {b : Bool} (h : f ρ = .ok true ρ1) (h2 : g ρ1 = .ok b ρ2) : fAnd f g ρ = .ok b ρ2 := by unfold fAnd; rw [h]; exact h2
theorem e_andT {f g : Sem1} {ρ ρ1 : En} {m : Md} {r : Rs Sv} (h : f ρ = .ok ⟨m, .bl true⟩ ρ1) (h2 : g ρ1 = r) : fAndV f g ρ = r := by unfold fAndV; rw [h]; exact h2
theorem t_tst {f : Sem1} {ρ ρ1 : En} {m : Md} {b : Bool} (h : f ρ = .ok ⟨m, .bl b⟩ ρ1) : fTst f ρ = .ok b ρ1 := by unfold fTst; rw [h]; rfl
end MV
namespace MV
open PySem PySem.Spec PyProof.Rows L2 He
/-! exceptions, evaluated -/
theorem e_runX {pm : List PM} {rm : Bool} {n : Nat} {body : SemS} {ds : List Vl} {c : Str} {fs : List (Str × Vl)} {ρ : En} {outs : List Vl} (h : body (initE pm ds n) = .exc c fs ρ) (o : outsOf pm 0 ρ = some outs) : runB pm rm n body ds = .exc c fs outs := by
  unfold runB; rw [h]
  show (match outsOf pm 0 ρ with | some outs => FRes.exc c fs outs | none => .bad) = _
  rw [o]
theorem e_seqX {f g : SemS} {ρ ρ1 : En} {c : Str} {fs : List (Str × Vl)} (h : f ρ = .exc c fs ρ1) : sSeq f g ρ = .exc c fs ρ1 := by unfold sSeq; rw [h]
theorem e_exprX {f : Sem1} {ρ ρ1 : En} {c : Str} {fs : List (Str × Vl)} (h : f ρ = .exc c fs ρ1) : sExpr f ρ = .exc c fs ρ1 := by unfold sExpr; rw [h]; rfl
theorem e_retX {f : Sem1} {ρ ρ1 : En} {c : Str} {fs : List (Str × Vl)} (h : f ρ = .exc c fs ρ1) : sRet f ρ = .exc c fs ρ1 := by unfold sRet; rw [h]; rfl
theorem e_frzX {f : Sem1} {ρ ρ1 : En} {c : Str} {fs : List (Str × Vl)} (h : f ρ = .exc c fs ρ1) : fFrz f ρ = .exc c fs ρ1 := by unfold fFrz; rw [h]; rfl
theorem e_asgX {i : Nat} {f : Sem1} {ρ ρ1 : En} {c : Str} {fs : List (Str × Vl)} (h : f ρ = .exc c fs ρ1) : sAsg i f ρ = .exc c fs ρ1 := by unfold sAsg; rw [h]; rfl
theorem e_clX {pm : List PM} {rm : Bool} {fn : Fn} {fa : SemA} {ρ ρ1 ρ2 : En} {as : List Ar} {ds : List Vl} {c : Str} {fs : List (Str × Vl)} {outs : List Vl} (h : fa ρ = .ok as ρ1) (cc : (ndB (ioSl pm as) && chkA (ioSl pm as) pm as) = true) (v : argVs ρ1 pm as = some ds) (z : fn ds = .exc c fs outs) (ho : setOuts (ioSl pm as) outs ρ1 = ρ2) : fCall pm rm fn fa ρ = .exc c fs ρ2 := by
  unfold fCall; rw [h]
  show kCall pm rm fn as ρ1 = _
  unfold kCall; rw [cc, v]
  show (match fn ds with | .ret r outs => Rs.ok (resM rm r) (setOuts (ioSl pm as) outs ρ1) | .exc c fs outs => .exc c fs (setOuts (ioSl pm as) outs ρ1) | .bad => .bad) = _
  rw [z, ← ho]
theorem e_mtX {c m : Str} {pm : List PM} {rm : Bool} {fn : Fn} {fo : SemR} {fa : SemA} {ρ ρ0 ρ1 ρ2 : En} {a : Ar} {as : List Ar} {ds : List Vl} {x : Str} {fs : List (Str × Vl)} {outs : List Vl} (h0 : fo ρ = .ok a ρ0) (hc : clsOk c m ρ0 a = true) (h : fa ρ0 = .ok as ρ1) (cc : (ndB (ioSl pm (a :: as)) && chkA (ioSl pm (a :: as)) pm (a :: as)) = true) (v : argVs ρ1 pm (a :: as) = some ds) (z : fn ds = .exc x fs outs) (ho : setOuts (ioSl pm (a :: as)) outs ρ1 = ρ2) : fMeth c m pm rm fn fo fa ρ = .exc x fs ρ2 := by
  unfold fMeth
  rw [h0]
  show grd (clsOk _ m ρ0 a) (bnd (fa ρ0) fun as ρ2 => kCall pm rm fn (a :: as) ρ2) = _
  rw [hc, h]
  have := e_clX (rm := rm) (fa := fun ρ => .ok (a :: as) ρ) (ρ := ρ1) rfl cc v z ho
  exact this
theorem e_try {f : SemS} {hs : List HSem} {ρ ρ1 : En} {c : Str} {fs : List (Str × Vl)} {r : Sr} (h : f ρ = .exc c fs ρ1) (k : hRun hs c fs ρ1 = r) : sTry f hs ρ = r := by unfold sTry; rw [h]; exact k
theorem e_tryN {f : SemS} {hs : List HSem} {ρ ρ1 : En} (h : f ρ = .next ρ1) : sTry f hs ρ = .next ρ1 := by unfold sTry; rw [h]
theorem e_hRun {h : HSem} {hs : List HSem} {c : Str} {fs : List (Str × Vl)} {ρ ρ1 : En} {r r' : Sr} (hm : h.mt c = some true) (ho : outS' ρ h.o = some ρ1) (k : h.su c fs ρ1 = r) (u : unR h.o r = r') : hRun (h :: hs) c fs ρ = r' := by
  show (match h.mt c with
    | some true => (match outS' ρ h.o with
      | some ρ1 => unR h.o (h.su c fs ρ1)
      | none => .bad)
    | some false => hRun hs c fs ρ
    | none => .bad) = _
  rw [hm]
  show (match outS' ρ h.o with
      | some ρ1 => unR h.o (h.su c fs ρ1)
      | none => .bad) = _
  rw [ho]
  show unR h.o (h.su c fs ρ1) = _
  rw [k, u]
theorem e_hSkip {h : HSem} {hs : List HSem} {c : Str} {fs : List (Str × Vl)} {ρ : En} {r : Sr} (hm : h.mt c = some false) (k : hRun hs c fs ρ = r) : hRun (h :: hs) c fs ρ = r := by
  show (match h.mt c with
    | some true => (match outS' ρ h.o with
      | some ρ1 => unR h.o (h.su c fs ρ1)
      | none => .bad)
    | some false => hRun hs c fs ρ
    | none => .bad) = _
  rw [hm]; exact k
theorem e_neL {qb : Bool} {fa fb : Sem1} {ρ ρ1 ρ2 : En} {m m' : Md} {x y : List Int} (h1 : fa ρ = .ok ⟨m, dI x⟩ ρ1) (hh : held m qb = true) (h2 : fb ρ1 = .ok ⟨m', dI y⟩ ρ2) : fTwo qb fa fb (kS gNe) ρ = .ok ⟨.shr, .bl (!decide (x = y))⟩ ρ2 :=
  e_two h1 hh h2 (by
    show (match gNe (dI x) (dI y) with | some d => if isSc d then Rs.ok (Sv.mk .shr d) ρ2 else .bad | none => .bad) = _
    rw [gNe_ints]; rfl)
theorem e_eqI {qb : Bool} {fa fb : Sem1} {ρ ρ1 ρ2 : En} {m m' : Md} {x y : Int} (h1 : fa ρ = .ok ⟨m, .int x⟩ ρ1) (hh : held m qb = true) (h2 : fb ρ1 = .ok ⟨m', .int y⟩ ρ2) : fTwo qb fa fb (kS gEq) ρ = .ok ⟨.shr, .bl (decide (x = y))⟩ ρ2 :=
  e_two h1 hh h2 (by
    show (match gEq (.int x) (.int y) with | some d => if isSc d then Rs.ok (Sv.mk .shr d) ρ2 else .bad | none => .bad) = _
    rw [gEq_int]; rfl)
theorem e_inI {qb : Bool} {fa fb : Sem1} {ρ ρ1 ρ2 : En} {m m' : Md} {x : Int} {y : List Int} (h1 : fa ρ = .ok ⟨m, .int x⟩ ρ1) (hh : held m qb = true) (h2 : fb ρ1 = .ok ⟨m', dI y⟩ ρ2) : fTwo qb fa fb (kS (gIn false)) ρ = .ok ⟨.shr, .bl (decide (x ∈ y))⟩ ρ2 :=
  e_two h1 hh h2 (by
    show (match gIn false (.int x) (dI y) with | some d => if isSc d then Rs.ok (Sv.mk .shr d) ρ2 else .bad | none => .bad) = _
    rw [gIn_int]; rfl)
end MV
namespace MV
open PySem PySem.Spec PyProof.Rows L2 He
/-- a way out of a loop -/
def Sr.out : Sr → Bool
  | .ret _ _ => true
  | .exc _ _ _ => true
  | _ => false
theorem for_exit {k : Nat} {src : SemI} {body : SemS} {ρ ρ1 : En} {xs : List Int} (I : Nat → En → Prop) (P : Sr → Prop) (hs : src ρ = .ok (true, xs.map isv) ρ1) (h0 : I 0 ρ1) {i : Nat} (hi : i < xs.length)
    (st : ∀ j x ρ, j < i → xs[j]? = some x → I j ρ → noIo ρ k = true ∧ ∃ ρ2, (body (ρ.set k (some (isv x))) = .next ρ2 ∨ body (ρ.set k (some (isv x))) = .cont ρ2) ∧ I (j + 1) ρ2)
    (ex : ∀ x ρ, xs[i]? = some x → I i ρ → noIo ρ k = true ∧ (body (ρ.set k (some (isv x)))).out = true ∧ P (body (ρ.set k (some (isv x))))) :
    P (sFor src (gNm k) body ρ) := by
  have nm : ∀ x ρ, noIo ρ k = true → gNm k (isv x) ρ = some (ρ.set k (some (isv x))) := fun x ρ h => by
    show (match noIo ρ k && sto (isv x).m with | true => some (ρ.set k (some (isv x))) | false => none) = _
    rw [h]; rfl
  have go : ∀ (ys : List Int) (j : Nat) (ρ : En), xs.drop j = ys → j ≤ i → I j ρ → P (loopL (gNm k) body (ys.map isv) ρ) := by
    intro ys
    induction ys with
    | nil =>
      intro j ρ e hj hI
      have := congrArg List.length e
      rw [List.length_drop, List.length_nil] at this
      omega
    | cons y ys ih =>
      intro j ρ e hj hI
      have hjl : j < xs.length := by
        have := congrArg List.length e
        rw [List.length_drop, List.length_cons] at this
        omega
      rw [List.drop_eq_getElem_cons hjl] at e
      have ey : xs[j]? = some y := by rw [List.getElem?_eq_getElem hjl]; exact congrArg some (List.cons.inj e).1
      have ed := (List.cons.inj e).2
      show P (match gNm k (isv y) ρ with
        | some ρ1 => (match body ρ1 with
          | .next ρ2 => loopL (gNm k) body (ys.map isv) ρ2
          | .cont ρ2 => loopL (gNm k) body (ys.map isv) ρ2
          | .brk ρ2 => .next ρ2
          | r => r)
        | none => .bad)
      rcases Nat.lt_or_ge j i with q | q
      · obtain ⟨h1, ρ2, h2, h3⟩ := st j y ρ q ey hI
        rw [nm y ρ h1]
        have := ih (j + 1) ρ2 ed q h3
        rcases h2 with h2 | h2
        · show P (match body (ρ.set k (some (isv y))) with
          | .next ρ2 => loopL (gNm k) body (ys.map isv) ρ2
          | .cont ρ2 => loopL (gNm k) body (ys.map isv) ρ2
          | .brk ρ2 => .next ρ2
          | r => r)
          rw [h2]; exact this
        · show P (match body (ρ.set k (some (isv y))) with
          | .next ρ2 => loopL (gNm k) body (ys.map isv) ρ2
          | .cont ρ2 => loopL (gNm k) body (ys.map isv) ρ2
          | .brk ρ2 => .next ρ2
          | r => r)
          rw [h2]; exact this
      · have eji : j = i := by omega
        subst eji
        obtain ⟨h1, h2, h3⟩ := ex y ρ ey hI
        rw [nm y ρ h1]
        show P (match body (ρ.set k (some (isv y))) with
          | .next ρ2 => loopL (gNm k) body (ys.map isv) ρ2
          | .cont ρ2 => loopL (gNm k) body (ys.map isv) ρ2
          | .brk ρ2 => .next ρ2
          | r => r)
        generalize body (ρ.set k (some (isv y))) = r at h2 h3
        cases r with
        | ret s ρ => exact h3
        | exc c fs ρ => exact h3
        | _ => cases h2
  have : sFor src (gNm k) body ρ = loopL (gNm k) body (xs.map isv) ρ1 := e_for hs rfl
  rw [this]
  exact go xs 0 ρ1 (by simp) (Nat.zero_le _) h0
theorem t_ch {p p' : Int → Int → Bool} {fa fb fc : Sem1} {ρ : En} {m m' m'' : Md} {i j k : Int} (h1 : fa ρ = .ok ⟨m, .int i⟩ ρ) (h2 : fb ρ = .ok ⟨m', .int j⟩ ρ) (h3 : fc ρ = .ok ⟨m'', .int k⟩ ρ) : fTst (fChain p p' fa fb fc) ρ = .ok (p i j && p' j k) ρ := by
  have : fChain p p' fa fb fc ρ = .ok ⟨.shr, .bl (p i j && p' j k)⟩ ρ := by
    unfold fChain
    rw [h1]
    show bnd (fb ρ) (kI fun j ρ2 => match p i j with
      | true => bnd (fc ρ2) (kI fun k ρ3 => .ok ⟨.shr, .bl (p' j k)⟩ ρ3)
      | false => .ok ⟨.shr, .bl false⟩ ρ2) = _
    rw [h2]
    show (match p i j with
      | true => bnd (fc ρ) (kI fun k ρ3 => .ok ⟨.shr, .bl (p' j k)⟩ ρ3)
      | false => .ok ⟨.shr, .bl false⟩ ρ) = _
    cases p i j with
    | true =>
      show bnd (fc ρ) (kI fun k ρ3 => .ok ⟨.shr, .bl (p' j k)⟩ ρ3) = _
      rw [h3]; rfl
    | false => rfl
  unfold fTst
  rw [this]; rfl
theorem t_or {f g : SemB} {ρ : En} {a b : Bool} (h : f ρ = .ok a ρ) (h2 : g ρ = .ok b ρ) : fOr f g ρ = .ok (a || b) ρ := by
  unfold fOr; rw [h]
  cases a with
  | true => rfl
  | false => exact h2
theorem t_and {f g : SemB} {ρ : En} {a b : Bool} (h : f ρ = .ok a ρ) (h2 : a = true → g ρ = .ok b ρ) : fAnd f g ρ = .ok (a && b) ρ := by
  unfold fAnd; rw [h]
  cases a with
  | true => exact h2 rfl
  | false => rfl
theorem cut_map {xs : List Int} {l h : Option Int} : cutD (xs.map Vl.int) l h = (cutD xs l h).map Vl.int := by
  unfold cutD
  rw [List.length_map, List.map_take, List.map_drop]
theorem cut_len {α : Type} {xs : List α} {l h : Option Int} : (cutD xs l h).length ≤ xs.length := by
  unfold cutD
  rw [List.length_take, List.length_drop]
  omega
theorem e_sl {ql qh : Bool} {fa : Sem1} {fl fh : SemO} {ρ : En} {m : Md} {xs : List Int} {l h : Option Int} (h1 : fa ρ = .ok ⟨m, dI xs⟩ ρ) (hh : held m (ql && qh) = true) (h2 : fl ρ = .ok l ρ) (h3 : fh ρ = .ok h ρ) : fSl ql qh fa fl fh ρ = .ok ⟨.own, dI (cutD xs l h)⟩ ρ := by
  unfold fSl
  rw [h1]
  show grd (held m (ql && qh)) (bnd (fl ρ) fun l ρ2 => bnd (fh ρ2) fun h ρ3 => kSl ⟨m, dI xs⟩ l h ρ3) = _
  rw [hh, h2]
  show bnd (fh ρ) (fun h ρ3 => kSl ⟨m, dI xs⟩ l h ρ3) = _
  rw [h3]
  show grd (lft m (xs.map Vl.int)) (Rs.ok (Sv.mk .own (.lst (cutD (xs.map Vl.int) l h))) ρ) = _
  rw [lft_ints, cut_map]; rfl
end MV
namespace MV
open PySem PySem.Spec PyProof.Rows L2 He
def top (i : Nat) : Stmt := PySem.Challenge.pw_datelessrolls_k03_one_entry.main.body.getD i (.Pass ⟨0, 0, 0, 0⟩)
def d_x_BadNumber : DfM := ⟨fun K => (ma K (ga K "BadNumber") "__init__"), "__init__", "BadNumber.__init__", defArgs (inClass (top 10) 0), defBody (inClass (top 10) 0), defScope (inClass (top 10) 0), []⟩
abbrev ix_x_BadNumber : Nat := 0
def d_x_TooManyBalls : DfM := ⟨fun K => (ma K (ga K "TooManyBalls") "__init__"), "__init__", "TooManyBalls.__init__", defArgs (inClass (top 6) 0), defBody (inClass (top 6) 0), defScope (inClass (top 6) 0), []⟩
abbrev ix_x_TooManyBalls : Nat := 1
def d_x_Collision : DfM := ⟨fun K => (ma K (ga K "Collision") "__init__"), "__init__", "Collision.__init__", defArgs (inClass (top 5) 0), defBody (inClass (top 5) 0), defScope (inClass (top 5) 0), []⟩
abbrev ix_x_Collision : Nat := 2
def d_x_BadHeight : DfM := ⟨fun K => (ma K (ga K "BadHeight") "__init__"), "__init__", "BadHeight.__init__", defArgs (inClass (top 4) 0), defBody (inClass (top 4) 0), defScope (inClass (top 4) 0), []⟩
abbrev ix_x_BadHeight : Nat := 3
def d_x_BadStands : DfM := ⟨fun K => (ma K (ga K "BadStands") "__init__"), "__init__", "BadStands.__init__", defArgs (inClass (top 8) 0), defBody (inClass (top 8) 0), defScope (inClass (top 8) 0), []⟩
abbrev ix_x_BadStands : Nat := 4
def d_x_BadSize : DfM := ⟨fun K => (ma K (ga K "BadSize") "__init__"), "__init__", "BadSize.__init__", defArgs (inClass (top 3) 0), defBody (inClass (top 3) 0), defScope (inClass (top 3) 0), []⟩
abbrev ix_x_BadSize : Nat := 5
def d_x_BadStretch : DfM := ⟨fun K => (ma K (ga K "BadStretch") "__init__"), "__init__", "BadStretch.__init__", defArgs (inClass (top 7) 0), defBody (inClass (top 7) 0), defScope (inClass (top 7) 0), []⟩
abbrev ix_x_BadStretch : Nat := 6
def d_l_begin : DfM := ⟨fun K => (ga K "_law_begin"), "_law_begin", "_law_begin", defArgs (top 61), defBody (top 61), defScope (top 61), []⟩
abbrev ix_l_begin : Nat := 7
def d_l_draw : DfM := ⟨fun K => (ga K "_law_draw"), "_law_draw", "_law_draw", defArgs (top 62), defBody (top 62), defScope (top 62), []⟩
abbrev ix_l_draw : Nat := 8
def d_l_wild : DfM := ⟨fun K => (ga K "_law_wild"), "_law_wild", "_law_wild", defArgs (top 66), defBody (top 66), defScope (top 66), []⟩
abbrev ix_l_wild : Nat := 9
def d_l_spoilt : DfM := ⟨fun K => (ga K "_law_spoilt"), "_law_spoilt", "_law_spoilt", defArgs (top 67), defBody (top 67), defScope (top 67), []⟩
abbrev ix_l_spoilt : Nat := 10
def d_l_reason : DfM := ⟨fun K => (ga K "_law_reason"), "_law_reason", "_law_reason", defArgs (top 68), defBody (top 68), defScope (top 68), []⟩
abbrev ix_l_reason : Nat := 11
def d_l_whole : DfM := ⟨fun K => (ga K "_law_whole"), "_law_whole", "_law_whole", defArgs (top 64), defBody (top 64), defScope (top 64), []⟩
abbrev ix_l_whole : Nat := 12
def d_l_is_list : DfM := ⟨fun K => (ga K "_law_is_list"), "_law_is_list", "_law_is_list", defArgs (top 65), defBody (top 65), defScope (top 65), []⟩
abbrev ix_l_is_list : Nat := 13
def d_l_holds : DfM := ⟨fun K => (ga K "_law_holds"), "_law_holds", "_law_holds", defArgs (top 73), defBody (top 73), defScope (top 73), []⟩
abbrev ix_l_holds : Nat := 14
def d_check_stretch : DfM := ⟨fun K => (ga K "check_stretch"), "check_stretch", "check_stretch", defArgs (top 23), defBody (top 23), defScope (top 23), []⟩
abbrev ix_check_stretch : Nat := 15
def d_landing : DfM := ⟨fun K => (ga K "landing"), "landing", "landing", defArgs (top 28), defBody (top 28), defScope (top 28), []⟩
abbrev ix_landing : Nat := 16
def d_count_between : DfM := ⟨fun K => (ga K "count_between"), "count_between", "count_between", defArgs (top 33), defBody (top 33), defScope (top 33), []⟩
abbrev ix_count_between : Nat := 17
def d_Cast_heights : DfM := ⟨fun K => (recAt "property" K "Cast" "heights"), "heights", "Cast.heights", defArgs (inClass (top 57) 11), defBody (inClass (top 57) 11), defScope (inClass (top 57) 11), []⟩
abbrev ix_Cast_heights : Nat := 18
def d_Cast_count : DfM := ⟨fun K => (ma K (ga K "Cast") "count"), "count", "Cast.count", defArgs (inClass (top 57) 16), defBody (inClass (top 57) 16), defScope (inClass (top 57) 16), []⟩
abbrev ix_Cast_count : Nat := 19
def d_l_counts : DfM := ⟨fun K => (ga K "_law_counts"), "_law_counts", "_law_counts", defArgs (top 74), defBody (top 74), defScope (top 74), []⟩
abbrev ix_l_counts : Nat := 20
def d_l_one_cast : DfM := ⟨fun K => (ga K "_law_one_cast"), "_law_one_cast", "_law_one_cast", defArgs (top 72), defBody (top 72), defScope (top 72), []⟩
abbrev ix_l_one_cast : Nat := 21
def d_check_places : DfM := ⟨fun K => (ga K "check_places"), "check_places", "check_places", defArgs (top 21), defBody (top 21), defScope (top 21), []⟩
abbrev ix_check_places : Nat := 22
def d_check_stands : DfM := ⟨fun K => (ga K "check_stands"), "check_stands", "check_stands", defArgs (top 24), defBody (top 24), defScope (top 24), []⟩
abbrev ix_check_stands : Nat := 23
def d_one_entry : DfM := ⟨fun K => (ga K "one_entry"), "one_entry", "one_entry", defArgs (top 35), defBody (top 35), defScope (top 35), []⟩
abbrev ix_one_entry : Nat := 24
def d_Cast___init__ : DfM := ⟨fun K => (ma K (ga K "Cast") "__init__"), "__init__", "Cast.__init__", defArgs (inClass (top 57) 2), defBody (inClass (top 57) 2), defScope (inClass (top 57) 2), []⟩
abbrev ix_Cast___init__ : Nat := 25
def d_Cast_entry : DfM := ⟨fun K => (recAt "staticmethod" K "Cast" "entry"), "entry", "Cast.entry", defArgs (inClass (top 57) 6), defBody (inClass (top 57) 6), defScope (inClass (top 57) 6), []⟩
abbrev ix_Cast_entry : Nat := 26
def d_Cast_used : DfM := ⟨fun K => (recAt "property" K "Cast" "used"), "used", "Cast.used", defArgs (inClass (top 57) 12), defBody (inClass (top 57) 12), defScope (inClass (top 57) 12), []⟩
abbrev ix_Cast_used : Nat := 27
def d_Cast_balls : DfM := ⟨fun K => (recAt "property" K "Cast" "balls"), "balls", "Cast.balls", defArgs (inClass (top 57) 10), defBody (inClass (top 57) 10), defScope (inClass (top 57) 10), []⟩
abbrev ix_Cast_balls : Nat := 28
def d_Cast_places : DfM := ⟨fun K => (recAt "property" K "Cast" "places"), "places", "Cast.places", defArgs (inClass (top 57) 9), defBody (inClass (top 57) 9), defScope (inClass (top 57) 9), []⟩
abbrev ix_Cast_places : Nat := 29
def d_l_good : DfM := ⟨fun K => (ga K "_law_good"), "_law_good", "_law_good", defArgs (top 75), defBody (top 75), defScope (top 75), []⟩
abbrev ix_l_good : Nat := 30
def d_l_base : DfM := ⟨fun K => (ga K "_law_base"), "_law_base", "_law_base", defArgs (top 71), defBody (top 71), defScope (top 71), []⟩
abbrev ix_l_base : Nat := 31
def d_l_sets : DfM := ⟨fun K => (ga K "_law_sets"), "_law_sets", "_law_sets", defArgs (top 63), defBody (top 63), defScope (top 63), []⟩
abbrev ix_l_sets : Nat := 32
def d_l_row : DfM := ⟨fun K => (ga K "_law_row"), "_law_row", "_law_row", defArgs (top 69), defBody (top 69), defScope (top 69), []⟩
abbrev ix_l_row : Nat := 33
def d_l_outcome : DfM := ⟨fun K => (ga K "_law_outcome"), "_law_outcome", "_law_outcome", defArgs (top 70), defBody (top 70), defScope (top 70), []⟩
abbrev ix_l_outcome : Nat := 34
def d_check_balls : DfM := ⟨fun K => (ga K "check_balls"), "check_balls", "check_balls", defArgs (top 22), defBody (top 22), defScope (top 22), []⟩
abbrev ix_check_balls : Nat := 35
def d_Cast_single : DfM := ⟨fun K => (recAt "staticmethod" K "Cast" "single"), "single", "Cast.single", defArgs (inClass (top 57) 5), defBody (inClass (top 57) 5), defScope (inClass (top 57) 5), []⟩
abbrev ix_Cast_single : Nat := 36
def d_law : DfM := ⟨fun K => (ga K "law"), "law", "law", defArgs (top 76), defBody (top 76), defScope (top 76), []⟩
abbrev ix_law : Nat := 37
def fn : List DfM := [d_x_BadNumber, d_x_TooManyBalls, d_x_Collision, d_x_BadHeight, d_x_BadStands, d_x_BadSize, d_x_BadStretch, d_l_begin, d_l_draw, d_l_wild, d_l_spoilt, d_l_reason, d_l_whole, d_l_is_list, d_l_holds, d_check_stretch, d_landing, d_count_between, d_Cast_heights, d_Cast_count, d_l_counts, d_l_one_cast, d_check_places, d_check_stands, d_one_entry, d_Cast___init__, d_Cast_entry, d_Cast_used, d_Cast_balls, d_Cast_places, d_l_good, d_l_base, d_l_sets, d_l_row, d_l_outcome, d_check_balls, d_Cast_single, d_law]
def fa : List Fm := [.std (.free "int"),
  .std (.free "len"),
  .std (.free "abs"),
  .std (.glo "_law_draw"),
  .std (.free "range"),
  .std (.glo "_law_wild"),
  .std (.free "list"),
  .std (.free "isinstance"),
  .std (.free "bool"),
  .std (.glo "_law_whole"),
  .std (.glo "_law_holds"),
  .xc "BadStretch" ["begin", "end"],
  .std (.glo "BadStretch"),
  .std (.glo "check_stretch"),
  .std (.free "max"),
  .std (.glo "landing"),
  .std (.cls "Cast"),
  .std (.noat "Cast" "_heights"),
  .prop "Cast" "heights",
  .std (.glo "count_between"),
  .std (.meth "Cast" "count"),
  .std (.glo "_law_is_list"),
  .std (.int "MOST_PLACES" 6),
  .xc "BadSize" ["size"],
  .std (.glo "BadSize"),
  .xc "BadStands" ["index"],
  .std (.glo "BadStands"),
  .std (.glo "check_places"),
  .std (.glo "check_stands"),
  .std (.glo "_law_one_cast"),
  .std (.glo "one_entry"),
  .cval "Cast" "MOST_PLACES" 6,
  .std (.glo "Cast"),
  .std (.int "MOST_HEIGHT" 96),
  .xc "BadHeight" ["place"],
  .std (.glo "BadHeight"),
  .xc "Collision" ["first", "second"],
  .std (.glo "Collision"),
  .std (.free "sum"),
  .cval "Cast" "MOST_BALLS" 16,
  .xc "TooManyBalls" ["amount"],
  .std (.glo "TooManyBalls"),
  .std (.free "tuple"),
  .std (.mkr "Cast"),
  .stat "Cast" "entry",
  .prop "Cast" "used",
  .prop "Cast" "balls",
  .prop "Cast" "places",
  .std (.glo "_law_counts"),
  .std (.glo "RollError"),
  .std (.exm "TooManyBalls" "RollError" true),
  .std (.exm "Collision" "RollError" true),
  .std (.exm "BadHeight" "RollError" true),
  .std (.exm "BadStands" "RollError" true),
  .std (.exm "BadSize" "RollError" true),
  .std (.exm "BadStretch" "RollError" true),
  .std (.free "ValueError"),
  .kiT "BadStretch" "ValueError" true,
  .xr "BadStretch",
  .kiT "BadSize" "ValueError" true,
  .xr "BadSize",
  .kiT "BadStands" "ValueError" true,
  .xr "BadStands",
  .kiT "BadHeight" "ValueError" true,
  .xr "BadHeight",
  .kiT "Collision" "ValueError" true,
  .xr "Collision",
  .kiT "TooManyBalls" "ValueError" true,
  .xr "TooManyBalls",
  .std (.exm "BadSize" "BadSize" true),
  .std (.exm "TooManyBalls" "BadSize" false),
  .std (.exm "Collision" "BadSize" false),
  .std (.exm "BadHeight" "BadSize" false),
  .std (.exm "BadStands" "BadSize" false),
  .std (.exm "BadStretch" "BadSize" false),
  .kit "BadSize" "BadHeight" false,
  .std (.glo "BadNumber"),
  .kit "BadSize" "BadNumber" false,
  .kit "BadSize" "BadStands" false,
  .std (.glo "Full"),
  .kit "BadSize" "Full" false,
  .kit "BadSize" "TooManyBalls" false,
  .std (.glo "_law_row"),
  .std (.exm "BadStands" "BadStands" true),
  .std (.exm "TooManyBalls" "BadStands" false),
  .std (.exm "Collision" "BadStands" false),
  .std (.exm "BadHeight" "BadStands" false),
  .std (.exm "BadSize" "BadStands" false),
  .std (.exm "BadStretch" "BadStands" false),
  .kit "BadStands" "BadHeight" false,
  .std (.glo "BadJoins"),
  .kit "BadStands" "BadJoins" false,
  .kit "BadStands" "BadNumber" false,
  .std (.glo "BadPage"),
  .kit "BadStands" "BadPage" false,
  .std (.glo "BadSigns"),
  .kit "BadStands" "BadSigns" false,
  .kit "BadStands" "BadSize" false,
  .std (.glo "_law_begin"),
  .std (.glo "_law_sets"),
  .std (.glo "_law_spoilt"),
  .std (.int "MOST_BALLS" 16),
  .xc "BadNumber" ["number"],
  .std (.glo "check_balls"),
  .stat "Cast" "single",
  .std (.glo "_law_reason"),
  .std (.glo "_law_outcome"),
  .std (.glo "_law_good"),
  .std (.glo "_law_base"),
  .std (.glo "law")]
section
variable {P : Program} {w : World} {K : PySem.W.Frag} {mg : Str → Option Value} {base : Heap}
theorem scx_BadNumber : FnScope ["self", "number"] ["self", "number"] (defScope (inClass (top 10) 0)) := ⟨rfl, rfl, rfl, by decide +kernel, rfl, by decide +kernel, by decide +kernel⟩
theorem okx_BadNumber (Z : Fz fa fn K mg) : FnC P w K mg base 1 (ma K (ga K "BadNumber") "__init__") (spX ["number"] K) := by
  obtain ⟨fd, F⟩ := Z.c.def_ ix_x_BadNumber (d := d_x_BadNumber) rfl
  exact ⟨⟨fd, ["self", "number"], fn_ex1 F scx_BadNumber (.inl rfl) (.inl rfl), F.bindsN fun _ _ _ _ _ _ us hl => match us, hl with | [_, _], _ => rfl⟩, F.kp⟩
theorem scx_TooManyBalls : FnScope ["self", "amount"] ["self", "amount"] (defScope (inClass (top 6) 0)) := ⟨rfl, rfl, rfl, by decide +kernel, rfl, by decide +kernel, by decide +kernel⟩
theorem okx_TooManyBalls (Z : Fz fa fn K mg) : FnC P w K mg base 1 (ma K (ga K "TooManyBalls") "__init__") (spX ["amount"] K) := by
  obtain ⟨fd, F⟩ := Z.c.def_ ix_x_TooManyBalls (d := d_x_TooManyBalls) rfl
  exact ⟨⟨fd, ["self", "amount"], fn_ex1 F scx_TooManyBalls (.inl rfl) (.inl rfl), F.bindsN fun _ _ _ _ _ _ us hl => match us, hl with | [_, _], _ => rfl⟩, F.kp⟩
theorem scx_Collision : FnScope ["self", "first", "second"] ["self", "first", "second"] (defScope (inClass (top 5) 0)) := ⟨rfl, rfl, rfl, by decide +kernel, rfl, by decide +kernel, by decide +kernel⟩
theorem okx_Collision (Z : Fz fa fn K mg) : FnC P w K mg base 1 (ma K (ga K "Collision") "__init__") (spX ["first", "second"] K) := by
  obtain ⟨fd, F⟩ := Z.c.def_ ix_x_Collision (d := d_x_Collision) rfl
  exact ⟨⟨fd, ["self", "first", "second"], fn_ex2 F scx_Collision (.inl rfl) (.inl rfl) (.inl rfl), F.bindsN fun _ _ _ _ _ _ us hl => match us, hl with | [_, _, _], _ => rfl⟩, F.kp⟩
theorem scx_BadHeight : FnScope ["self", "place"] ["self", "place"] (defScope (inClass (top 4) 0)) := ⟨rfl, rfl, rfl, by decide +kernel, rfl, by decide +kernel, by decide +kernel⟩
theorem okx_BadHeight (Z : Fz fa fn K mg) : FnC P w K mg base 1 (ma K (ga K "BadHeight") "__init__") (spX ["place"] K) := by
  obtain ⟨fd, F⟩ := Z.c.def_ ix_x_BadHeight (d := d_x_BadHeight) rfl
  exact ⟨⟨fd, ["self", "place"], fn_ex1 F scx_BadHeight (.inl rfl) (.inl rfl), F.bindsN fun _ _ _ _ _ _ us hl => match us, hl with | [_, _], _ => rfl⟩, F.kp⟩
theorem scx_BadStands : FnScope ["self", "index"] ["self", "index"] (defScope (inClass (top 8) 0)) := ⟨rfl, rfl, rfl, by decide +kernel, rfl, by decide +kernel, by decide +kernel⟩
theorem okx_BadStands (Z : Fz fa fn K mg) : FnC P w K mg base 1 (ma K (ga K "BadStands") "__init__") (spX ["index"] K) := by
  obtain ⟨fd, F⟩ := Z.c.def_ ix_x_BadStands (d := d_x_BadStands) rfl
  exact ⟨⟨fd, ["self", "index"], fn_ex1 F scx_BadStands (.inl rfl) (.inl rfl), F.bindsN fun _ _ _ _ _ _ us hl => match us, hl with | [_, _], _ => rfl⟩, F.kp⟩
theorem scx_BadSize : FnScope ["self", "size"] ["self", "size"] (defScope (inClass (top 3) 0)) := ⟨rfl, rfl, rfl, by decide +kernel, rfl, by decide +kernel, by decide +kernel⟩
theorem okx_BadSize (Z : Fz fa fn K mg) : FnC P w K mg base 1 (ma K (ga K "BadSize") "__init__") (spX ["size"] K) := by
  obtain ⟨fd, F⟩ := Z.c.def_ ix_x_BadSize (d := d_x_BadSize) rfl
  exact ⟨⟨fd, ["self", "size"], fn_ex1 F scx_BadSize (.inl rfl) (.inl rfl), F.bindsN fun _ _ _ _ _ _ us hl => match us, hl with | [_, _], _ => rfl⟩, F.kp⟩
theorem scx_BadStretch : FnScope ["self", "begin", "end"] ["self", "begin", "end"] (defScope (inClass (top 7) 0)) := ⟨rfl, rfl, rfl, by decide +kernel, rfl, by decide +kernel, by decide +kernel⟩
theorem okx_BadStretch (Z : Fz fa fn K mg) : FnC P w K mg base 1 (ma K (ga K "BadStretch") "__init__") (spX ["begin", "end"] K) := by
  obtain ⟨fd, F⟩ := Z.c.def_ ix_x_BadStretch (d := d_x_BadStretch) rfl
  exact ⟨⟨fd, ["self", "begin", "end"], fn_ex2 F scx_BadStretch (.inl rfl) (.inl rfl) (.inl rfl), F.bindsN fun _ _ _ _ _ _ us hl => match us, hl with | [_, _, _], _ => rfl⟩, F.kp⟩
/-! _law_begin(_law_script) -/
def s_l_begin : SemS := (sRet (fLst (aEx (fC (.int 0)) (aEx (fC (.int 0)) (aEx (fFrz (fLc true [1] (iSrc (fSl true true (fVar 0) fNoP (fPart (fC (.int 63)))) kItL) (gNm 1) bYes (fFrz (fOne (fVar 1) (kS1 gInt))))) aNil)))))
def fn_l_begin : Fn := runB [.bor] true 2 s_l_begin
theorem sc_l_begin : FnScope ["_law_script", "_law_cell"] ["_law_script"] (defScope (top 61)) := ⟨rfl, rfl, rfl, by decide +kernel, rfl, by decide +kernel, by decide +kernel⟩
theorem okf_l_begin (Z : Fz fa fn K mg) {fd : FuncData} (F : FunD K d_l_begin.name d_l_begin.qual d_l_begin.params d_l_begin.body d_l_begin.scope (d_l_begin.dvs K) [] (d_l_begin.ad K) fd) : FnOk P w K mg base (L2N.CX P w) 1 (ga K "_law_begin") fd ["_law_script"] (spF K [.bor] true fn_l_begin) := by
  have nd := sc_l_begin.nd
  refine fn_mv F sc_l_begin rfl fun cdv A outer s H E J hK hfx hr => ?_
  have tk := @tk_cx P w K mg base ["_law_script", "_law_cell"] "_law_begin" (defScope (top 61)) (ga K "_law_begin") cdv A outer s H E
  have po := @po_cx P w K mg base ["_law_script", "_law_cell"] "_law_begin" (defScope (top 61)) (ga K "_law_begin") cdv A outer s H E
  show XB _ J _ (defBody (top 61)) s_l_begin
  exact (xb_one (xs_ret (xe_lst (xa_ex xe_int (xa_ex xe_int (xa_ex (xe_frz (w_lc nd (own := [("_law_cell", 1)]) (ok := (⟨rfl, by decide +kernel, by decide +kernel, by decide +kernel, by decide +kernel⟩ : BlkOk ["_law_script", "_law_cell"] (defScope (top 61)) _ [("_law_cell", 1)])) (xi_list (xe_sl hK w_v xo_none (xo_some xe_int))) (fun _ _ _ _ _ => w_gn) (fun _ _ _ _ _ => xps_nil) (fun _ _ _ _ _ => (xe_frz (w_int (Z.f "int" (Z.c.fact 0 (f := .std (.free "int")) rfl)) w_v))))) xa_nil))))))
theorem ok_l_begin (Z : Fz fa fn K mg) : FnC P w K mg base 1 (ga K "_law_begin") (spF K [.bor] true fn_l_begin) := by
  obtain ⟨fd, F⟩ := Z.c.def_ ix_l_begin (d := d_l_begin) rfl
  exact ⟨⟨fd, ["_law_script"], okf_l_begin Z F, F.bindsN fun _ _ _ _ _ _ us hl => match us, hl with | [_], _ => rfl⟩, F.kp⟩
/-! _law_draw(_law_state, _law_limit) -/
def s_l_draw : SemS := (sSeq (sAsg 2 (fTwo true (fVar 0) (fC (.int 2)) kIx))
    (sSeq (sWhile (fAnd (fTst (fTwo true (fTwo true (fVar 0) (fC (.int 0)) kIx) (fC (.int 0)) (kS gEq))) (fTst (fTwo true (fTwo true (fVar 0) (fC (.int 1)) kIx) (fOne (fVar 2) (kS1 gLen)) (kS (gB bLt))))) (sSeq (sSet 0 (fC (.int 0)) (fFrz (fOne (fOne (fTwo true (fVar 2) (fTwo true (fVar 0) (fC (.int 1)) kIx) kIx) (kS1 gInt)) (kS1 gAbs))))
    (sSet 0 (fC (.int 1)) (fFrz (fTwo true (fTwo true (fVar 0) (fC (.int 1)) kIx) (fC (.int 1)) kAdd)))))
    (sSeq (sAsg 3 (fFrz (fTwo true (fOne (fTwo true (fVar 0) (fC (.int 0)) kIx) (kS1 gInt)) (fVar 1) (kS (gIc cMod Int.fmod)))))
    (sSeq (sSet 0 (fC (.int 0)) (fFrz (fTwo true (fOne (fTwo true (fVar 0) (fC (.int 0)) kIx) (kS1 gInt)) (fVar 1) (kS (gIc cDiv Int.fdiv)))))
    (sRet (fVar 3))))))
def fn_l_draw : Fn := runB [.io, .bor] false 4 s_l_draw
theorem sc_l_draw : FnScope ["_law_state", "_law_limit", "_law_cells", "_law_value"] ["_law_state", "_law_limit"] (defScope (top 62)) := ⟨rfl, rfl, rfl, by decide +kernel, rfl, by decide +kernel, by decide +kernel⟩
theorem okf_l_draw (Z : Fz fa fn K mg) {fd : FuncData} (F : FunD K d_l_draw.name d_l_draw.qual d_l_draw.params d_l_draw.body d_l_draw.scope (d_l_draw.dvs K) [] (d_l_draw.ad K) fd) : FnOk P w K mg base (L2N.CX P w) 1 (ga K "_law_draw") fd ["_law_state", "_law_limit"] (spF K [.io, .bor] false fn_l_draw) := by
  have nd := sc_l_draw.nd
  refine fn_mv F sc_l_draw rfl fun cdv A outer s H E J hK hfx hr => ?_
  have tk := @tk_cx P w K mg base ["_law_state", "_law_limit", "_law_cells", "_law_value"] "_law_draw" (defScope (top 62)) (ga K "_law_draw") cdv A outer s H E
  have po := @po_cx P w K mg base ["_law_state", "_law_limit", "_law_cells", "_law_value"] "_law_draw" (defScope (top 62)) (ga K "_law_draw") cdv A outer s H E
  show XB _ J _ (defBody (top 62)) s_l_draw
  exact (xb_cons (w_asg nd (xe_idx w_v xe_int))
    (xb_cons (xs_while po (xw_and (t_eq hK (un64 hr) (xe_idx w_v xe_int) xe_int) (xw_and1 (t_lt (xe_idx w_v xe_int) (w_len (Z.f "len" (Z.c.fact 1 (f := .std (.free "len")) rfl)) w_v)))).xt (xb_cons (w_set xe_int (xe_frz (w_abs (Z.f "abs" (Z.c.fact 2 (f := .std (.free "abs")) rfl)) (w_int (Z.f "int" (Z.c.fact 0 (f := .std (.free "int")) rfl)) (xe_idx w_v (xe_idx w_v xe_int))))))
    (xb_one (w_set xe_int (xe_frz (xe_add (xe_idx w_v xe_int) xe_int))))))
    (xb_cons (w_asg nd (xe_frz (xe_mod (w_int (Z.f "int" (Z.c.fact 0 (f := .std (.free "int")) rfl)) (xe_idx w_v xe_int)) w_v)))
    (xb_cons (w_set xe_int (xe_frz (xe_fdiv (w_int (Z.f "int" (Z.c.fact 0 (f := .std (.free "int")) rfl)) (xe_idx w_v xe_int)) w_v)))
    (xb_one (xs_ret w_v))))))
theorem ok_l_draw (Z : Fz fa fn K mg) : FnC P w K mg base 1 (ga K "_law_draw") (spF K [.io, .bor] false fn_l_draw) := by
  obtain ⟨fd, F⟩ := Z.c.def_ ix_l_draw (d := d_l_draw) rfl
  exact ⟨⟨fd, ["_law_state", "_law_limit"], okf_l_draw Z F, F.bindsN fun _ _ _ _ _ _ us hl => match us, hl with | [_, _], _ => rfl⟩, F.kp⟩
/-! _law_wild(_law_state, _law_places) -/
def s_l_wild : SemS := (sSeq (sAsg 2 (fLst aNil))
    (sSeq (sFor (iR1 (fCall [.io, .bor] false fn_l_draw (aSl 0 (aEx (fC (.int 9)) aNil)))) (gNm 3) (sSeq (sAsg 4 (fFrz (fTwo true (fCall [.io, .bor] false fn_l_draw (aSl 0 (aEx (fTwo true (fVar 1) (fC (.int 4)) kAdd) aNil))) (fC (.int 1)) (kS (gI fun i j => i - j)))))
    (sSeq (sIf (fTst (fTwo true (fVar 4) (fTwo true (fVar 1) (fC (.int 2)) kAdd) (kS gEq))) (sAsg 4 (fFrz (fTwo true (fCall [.io, .bor] false fn_l_draw (aSl 0 (aEx (fC (.int 2001)) aNil))) (fC (.int 1000)) (kS (gI fun i j => i - j))))) sNil)
    (sExpr (fApp 2 (fVar 4))))))
    (sRet (fMv 2))))
def fn_l_wild : Fn := runB [.io, .bor] true 5 s_l_wild
theorem sc_l_wild : FnScope ["_law_state", "_law_places", "_law_stands", "_law_number", "_law_item"] ["_law_state", "_law_places"] (defScope (top 66)) := ⟨rfl, rfl, rfl, by decide +kernel, rfl, by decide +kernel, by decide +kernel⟩
theorem okf_l_wild (Z : Fz fa fn K mg) {fd : FuncData} (F : FunD K d_l_wild.name d_l_wild.qual d_l_wild.params d_l_wild.body d_l_wild.scope (d_l_wild.dvs K) [] (d_l_wild.ad K) fd) : FnOk P w K mg base (L2N.CX P w) 2 (ga K "_law_wild") fd ["_law_state", "_law_places"] (spF K [.io, .bor] true fn_l_wild) := by
  have nd := sc_l_wild.nd
  refine fn_mv F sc_l_wild rfl fun cdv A outer s H E J hK hfx hr => ?_
  have tk := @tk_cx P w K mg base ["_law_state", "_law_places", "_law_stands", "_law_number", "_law_item"] "_law_wild" (defScope (top 66)) (ga K "_law_wild") cdv A outer s H E
  have po := @po_cx P w K mg base ["_law_state", "_law_places", "_law_stands", "_law_number", "_law_item"] "_law_wild" (defScope (top 66)) (ga K "_law_wild") cdv A outer s H E
  show XB _ J _ (defBody (top 66)) s_l_wild
  exact (xb_cons (w_asg nd (xe_lst xa_nil))
    (xb_cons (w_for po (w_r1 (Z.f "range" (Z.c.fact 4 (f := .std (.free "range")) rfl)) (w_call (ok_l_draw Z) (Z.g "_law_draw" (Z.c.fact 3 (f := .std (.glo "_law_draw")) rfl)) hr tk hK (w_sl (xa_ex xe_int xa_nil)))) w_gn (xb_cons (w_asg nd (xe_frz (xe_sub (w_call (ok_l_draw Z) (Z.g "_law_draw" (Z.c.fact 3 (f := .std (.glo "_law_draw")) rfl)) hr tk hK (w_sl (xa_ex (xe_add w_v xe_int) xa_nil))) xe_int)))
    (xb_cons (xs_if (t_eq hK (un64 hr) w_v (xe_add w_v xe_int)) (xb_one (w_asg nd (xe_frz (xe_sub (w_call (ok_l_draw Z) (Z.g "_law_draw" (Z.c.fact 3 (f := .std (.glo "_law_draw")) rfl)) hr tk hK (w_sl (xa_ex xe_int xa_nil))) xe_int)))) xb_nil)
    (xb_one (xs_expr (w_app w_v))))))
    (xb_one (xs_ret w_mv))))
theorem ok_l_wild (Z : Fz fa fn K mg) : FnC P w K mg base 2 (ga K "_law_wild") (spF K [.io, .bor] true fn_l_wild) := by
  obtain ⟨fd, F⟩ := Z.c.def_ ix_l_wild (d := d_l_wild) rfl
  exact ⟨⟨fd, ["_law_state", "_law_places"], okf_l_wild Z F, F.bindsN fun _ _ _ _ _ _ us hl => match us, hl with | [_, _], _ => rfl⟩, F.kp⟩
/-! _law_spoilt(_law_state, _law_places, _law_stands) -/
def s_l_spoilt : SemS := (sSeq (sAsg 3 (fFrz (fCall [.io, .bor] false fn_l_draw (aSl 0 (aEx (fC (.int 16)) aNil)))))
    (sSeq (sAsg 4 (fFrz (fCall [.io, .bor] false fn_l_draw (aSl 0 (aEx (fOne (fVar 2) (kS1 gLen)) aNil)))))
    (sSeq (sAsg 5 (fTwo false (fLst (aEx (fVar 1) (aEx (fOne (fC (.int 1)) (kS1 gNeg)) (aEx (fC (.int 0)) (aEx (fFrz (fTwo true (fVar 1) (fC (.int 1)) (kS (gI fun i j => i - j)))) (aEx (fFrz (fTwo true (fVar 1) (fC (.int 1)) kAdd)) (aEx (fOne (fC (.int 1000)) (kS1 gNeg)) (aEx (fC (.int 1000)) (aEx (fC (.int 1)) aNil))))))))) (fCall [.io, .bor] false fn_l_draw (aSl 0 (aEx (fC (.int 8)) aNil))) kIx))
    (sSeq (sIf (fTst (fTwo true (fVar 3) (fC (.int 1)) (kS gEq))) (sRet (fTwo true (fTwo true (fSl true true (fVar 2) fNoP (fPart (fVar 4))) (fLst (aEx (fVar 5) aNil)) kAdd) (fSl true true (fVar 2) (fPart (fVar 4)) fNoP) kAdd)) sNil)
    (sSeq (sIf (fTst (fTwo true (fVar 3) (fC (.int 2)) (kS gEq))) (sRet (fTwo true (fTwo true (fSl true true (fVar 2) fNoP (fPart (fVar 4))) (fLst (aEx (fVar 5) aNil)) kAdd) (fSl true true (fVar 2) (fPart (fTwo true (fVar 4) (fC (.int 1)) kAdd)) fNoP) kAdd)) sNil)
    (sSeq (sIf (fTst (fTwo true (fVar 3) (fC (.int 3)) (kS gEq))) (sRet (fTwo true (fVar 2) (fLst (aEx (fVar 5) aNil)) kAdd)) sNil)
    (sSeq (sIf (fTst (fTwo true (fVar 3) (fC (.int 4)) (kS gEq))) (sRet (fTwo true (fSl true true (fVar 2) fNoP (fPart (fVar 4))) (fSl true true (fVar 2) (fPart (fTwo true (fVar 4) (fC (.int 1)) kAdd)) fNoP) kAdd)) sNil)
    (sSeq (sIf (fTst (fTwo true (fVar 3) (fC (.int 5)) (kS gEq))) (sRet (fTwo true (fTwo true (fSl true true (fVar 2) fNoP (fPart (fVar 4))) (fLst (aEx (fTwo true (fVar 2) (fVar 4) kIx) aNil)) kAdd) (fSl true true (fVar 2) (fPart (fVar 4)) fNoP) kAdd)) sNil)
    (sSeq (sIf (fTst (fTwo true (fVar 3) (fC (.int 6)) (kS gEq))) (sRet (fLc true [6] (iR1 (fOne (fVar 2) (kS1 gLen))) (gNm 6) bYes (fTwo true (fVar 2) (fTwo true (fTwo true (fOne (fVar 2) (kS1 gLen)) (fC (.int 1)) (kS (gI fun i j => i - j))) (fVar 6) (kS (gI fun i j => i - j))) kIx))) sNil)
    (sSeq (sIf (fTst (fTwo true (fVar 3) (fC (.int 7)) (kS gEq))) (sRet (fLst aNil)) sNil)
    (sSeq (sIf (fTst (fTwo true (fVar 3) (fC (.int 8)) (kS gEq))) (sRet (fCall [.io, .bor] true fn_l_wild (aSl 0 (aSl 1 aNil)))) sNil)
    (sRet (fOne (fVar 2) kListOf)))))))))))))
def fn_l_spoilt : Fn := runB [.io, .shr, .bor] true 7 s_l_spoilt
theorem sc_l_spoilt : FnScope ["_law_state", "_law_places", "_law_stands", "_law_kind", "_law_spot", "_law_item", "_law_index"] ["_law_state", "_law_places", "_law_stands"] (defScope (top 67)) := ⟨rfl, rfl, rfl, by decide +kernel, rfl, by decide +kernel, by decide +kernel⟩
theorem okf_l_spoilt (Z : Fz fa fn K mg) {fd : FuncData} (F : FunD K d_l_spoilt.name d_l_spoilt.qual d_l_spoilt.params d_l_spoilt.body d_l_spoilt.scope (d_l_spoilt.dvs K) [] (d_l_spoilt.ad K) fd) : FnOk P w K mg base (L2N.CX P w) 3 (ga K "_law_spoilt") fd ["_law_state", "_law_places", "_law_stands"] (spF K [.io, .shr, .bor] true fn_l_spoilt) := by
  have nd := sc_l_spoilt.nd
  refine fn_mv F sc_l_spoilt rfl fun cdv A outer s H E J hK hfx hr => ?_
  have tk := @tk_cx P w K mg base ["_law_state", "_law_places", "_law_stands", "_law_kind", "_law_spot", "_law_item", "_law_index"] "_law_spoilt" (defScope (top 67)) (ga K "_law_spoilt") cdv A outer s H E
  have po := @po_cx P w K mg base ["_law_state", "_law_places", "_law_stands", "_law_kind", "_law_spot", "_law_item", "_law_index"] "_law_spoilt" (defScope (top 67)) (ga K "_law_spoilt") cdv A outer s H E
  show XB _ J _ (defBody (top 67)) s_l_spoilt
  exact (xb_cons (w_asg nd (xe_frz (w_call (ok_l_draw Z) (Z.g "_law_draw" (Z.c.fact 3 (f := .std (.glo "_law_draw")) rfl)) hr tk hK (w_sl (xa_ex xe_int xa_nil)))))
    (xb_cons (w_asg nd (xe_frz (w_call (ok_l_draw Z) (Z.g "_law_draw" (Z.c.fact 3 (f := .std (.glo "_law_draw")) rfl)) hr tk hK (w_sl (xa_ex (w_len (Z.f "len" (Z.c.fact 1 (f := .std (.free "len")) rfl)) w_v) xa_nil)))))
    (xb_cons (w_asg nd (xe_idx (xe_lst (xa_ex w_v (xa_ex (w_neg xe_int) (xa_ex xe_int (xa_ex (xe_frz (xe_sub w_v xe_int)) (xa_ex (xe_frz (xe_add w_v xe_int)) (xa_ex (w_neg xe_int) (xa_ex xe_int (xa_ex xe_int xa_nil))))))))) (w_call (ok_l_draw Z) (Z.g "_law_draw" (Z.c.fact 3 (f := .std (.glo "_law_draw")) rfl)) hr tk hK (w_sl (xa_ex xe_int xa_nil)))))
    (xb_cons (xs_if (t_eq hK (un64 hr) w_v xe_int) (xb_one (xs_ret (xe_add (xe_add (xe_sl hK w_v xo_none (xo_some w_v)) (xe_lst (xa_ex w_v xa_nil))) (xe_sl hK w_v (xo_some w_v) xo_none)))) xb_nil)
    (xb_cons (xs_if (t_eq hK (un64 hr) w_v xe_int) (xb_one (xs_ret (xe_add (xe_add (xe_sl hK w_v xo_none (xo_some w_v)) (xe_lst (xa_ex w_v xa_nil))) (xe_sl hK w_v (xo_some (xe_add w_v xe_int)) xo_none)))) xb_nil)
    (xb_cons (xs_if (t_eq hK (un64 hr) w_v xe_int) (xb_one (xs_ret (xe_add w_v (xe_lst (xa_ex w_v xa_nil))))) xb_nil)
    (xb_cons (xs_if (t_eq hK (un64 hr) w_v xe_int) (xb_one (xs_ret (xe_add (xe_sl hK w_v xo_none (xo_some w_v)) (xe_sl hK w_v (xo_some (xe_add w_v xe_int)) xo_none)))) xb_nil)
    (xb_cons (xs_if (t_eq hK (un64 hr) w_v xe_int) (xb_one (xs_ret (xe_add (xe_add (xe_sl hK w_v xo_none (xo_some w_v)) (xe_lst (xa_ex (xe_idx w_v w_v) xa_nil))) (xe_sl hK w_v (xo_some w_v) xo_none)))) xb_nil)
    (xb_cons (xs_if (t_eq hK (un64 hr) w_v xe_int) (xb_one (xs_ret (w_lc nd (own := [("_law_index", 6)]) (ok := (⟨rfl, by decide +kernel, by decide +kernel, by decide +kernel, by decide +kernel⟩ : BlkOk ["_law_state", "_law_places", "_law_stands", "_law_kind", "_law_spot", "_law_item", "_law_index"] (defScope (top 67)) _ [("_law_index", 6)])) (w_r1 (Z.f "range" (Z.c.fact 4 (f := .std (.free "range")) rfl)) (w_len (Z.f "len" (Z.c.fact 1 (f := .std (.free "len")) rfl)) w_v)) (fun _ _ _ _ _ => w_gn) (fun _ _ _ _ _ => xps_nil) (fun _ _ _ _ _ => (xe_idx w_v (xe_sub (xe_sub (w_len (Z.f "len" (Z.c.fact 1 (f := .std (.free "len")) rfl)) w_v) xe_int) w_v)))))) xb_nil)
    (xb_cons (xs_if (t_eq hK (un64 hr) w_v xe_int) (xb_one (xs_ret (xe_lst xa_nil))) xb_nil)
    (xb_cons (xs_if (t_eq hK (un64 hr) w_v xe_int) (xb_one (xs_ret (w_call (ok_l_wild Z) (Z.g "_law_wild" (Z.c.fact 5 (f := .std (.glo "_law_wild")) rfl)) hr tk hK (w_sl (w_sl xa_nil))))) xb_nil)
    (xb_one (xs_ret (w_list (Z.f "list" (Z.c.fact 6 (f := .std (.free "list")) rfl)) w_v))))))))))))))
theorem ok_l_spoilt (Z : Fz fa fn K mg) : FnC P w K mg base 3 (ga K "_law_spoilt") (spF K [.io, .shr, .bor] true fn_l_spoilt) := by
  obtain ⟨fd, F⟩ := Z.c.def_ ix_l_spoilt (d := d_l_spoilt) rfl
  exact ⟨⟨fd, ["_law_state", "_law_places", "_law_stands"], okf_l_spoilt Z F, F.bindsN fun _ _ _ _ _ _ us hl => match us, hl with | [_, _, _], _ => rfl⟩, F.kp⟩
/-! _law_reason(_law_places, _law_stands) -/
def s_l_reason : SemS := (sSeq (sIf (fOr (fTst (fTwo true (fVar 0) (fC (.int 1)) (kS (gB bLt)))) (fTst (fTwo true (fVar 0) (fC (.int 6)) (kS (gB bGt))))) (sRet (fLst (aEx (fC (.str "size")) (aEx (fVar 0) aNil)))) sNil)
    (sSeq (sIf (fTst (fTwo true (fVar 1) (fLst aNil) (kS gEq))) (sRet (fLst (aEx (fC (.str "stands")) (aEx (fC (.int 0)) aNil)))) sNil)
    (sSeq (sFor (iR1 (fOne (fVar 1) (kS1 gLen))) (gNm 2) (sSeq (sIf (fOr (fTst (fTwo true (fTwo true (fVar 1) (fVar 2) kIx) (fC (.int 0)) (kS (gB bLt)))) (fTst (fTwo true (fTwo true (fVar 1) (fVar 2) kIx) (fVar 0) (kS (gB bGe))))) (sRet (fLst (aEx (fC (.str "stands")) (aEx (fVar 2) aNil)))) sNil)
    (sIf (fAnd (fTst (fTwo true (fVar 2) (fC (.int 0)) (kS (gB bGt)))) (fTst (fTwo true (fTwo true (fVar 1) (fVar 2) kIx) (fTwo true (fVar 1) (fTwo true (fVar 2) (fC (.int 1)) (kS (gI fun i j => i - j))) kIx) (kS (gB bLe))))) (sRet (fLst (aEx (fC (.str "stands")) (aEx (fVar 2) aNil)))) sNil)))
    (sRet (fLst aNil)))))
def fn_l_reason : Fn := runB [.shr, .bor] true 3 s_l_reason
theorem sc_l_reason : FnScope ["_law_places", "_law_stands", "_law_index"] ["_law_places", "_law_stands"] (defScope (top 68)) := ⟨rfl, rfl, rfl, by decide +kernel, rfl, by decide +kernel, by decide +kernel⟩
theorem okf_l_reason (Z : Fz fa fn K mg) {fd : FuncData} (F : FunD K d_l_reason.name d_l_reason.qual d_l_reason.params d_l_reason.body d_l_reason.scope (d_l_reason.dvs K) [] (d_l_reason.ad K) fd) : FnOk P w K mg base (L2N.CX P w) 1 (ga K "_law_reason") fd ["_law_places", "_law_stands"] (spF K [.shr, .bor] true fn_l_reason) := by
  have nd := sc_l_reason.nd
  refine fn_mv F sc_l_reason rfl fun cdv A outer s H E J hK hfx hr => ?_
  have tk := @tk_cx P w K mg base ["_law_places", "_law_stands", "_law_index"] "_law_reason" (defScope (top 68)) (ga K "_law_reason") cdv A outer s H E
  have po := @po_cx P w K mg base ["_law_places", "_law_stands", "_law_index"] "_law_reason" (defScope (top 68)) (ga K "_law_reason") cdv A outer s H E
  show XB _ J _ (defBody (top 68)) s_l_reason
  exact (xb_cons (xs_if (xw_or (t_lt w_v xe_int) (xw_or1 (t_gt w_v xe_int))).xt (xb_one (xs_ret (xe_lst (xa_ex xe_str (xa_ex w_v xa_nil))))) xb_nil)
    (xb_cons (xs_if (t_eq hK (un64 hr) w_v (xe_lst xa_nil)) (xb_one (xs_ret (xe_lst (xa_ex xe_str (xa_ex xe_int xa_nil))))) xb_nil)
    (xb_cons (w_for po (w_r1 (Z.f "range" (Z.c.fact 4 (f := .std (.free "range")) rfl)) (w_len (Z.f "len" (Z.c.fact 1 (f := .std (.free "len")) rfl)) w_v)) w_gn (xb_cons (xs_if (xw_or (t_lt (xe_idx w_v w_v) xe_int) (xw_or1 (t_ge (xe_idx w_v w_v) w_v))).xt (xb_one (xs_ret (xe_lst (xa_ex xe_str (xa_ex w_v xa_nil))))) xb_nil)
    (xb_one (xs_if (xw_and (t_gt w_v xe_int) (xw_and1 (t_le (xe_idx w_v w_v) (xe_idx w_v (xe_sub w_v xe_int))))).xt (xb_one (xs_ret (xe_lst (xa_ex xe_str (xa_ex w_v xa_nil))))) xb_nil))))
    (xb_one (xs_ret (xe_lst xa_nil))))))
theorem ok_l_reason (Z : Fz fa fn K mg) : FnC P w K mg base 1 (ga K "_law_reason") (spF K [.shr, .bor] true fn_l_reason) := by
  obtain ⟨fd, F⟩ := Z.c.def_ ix_l_reason (d := d_l_reason) rfl
  exact ⟨⟨fd, ["_law_places", "_law_stands"], okf_l_reason Z F, F.bindsN fun _ _ _ _ _ _ us hl => match us, hl with | [_, _], _ => rfl⟩, F.kp⟩
/-! _law_whole(_law_value) -/
def s_l_whole : SemS := (sRet (fAndV (fOne (fVar 0) (kIsi isInt)) (fNotV (fOne (fVar 0) (kIsi isBl)))))
def fn_l_whole : Fn := runB [.bor] true 1 s_l_whole
theorem sc_l_whole : FnScope ["_law_value"] ["_law_value"] (defScope (top 64)) := ⟨rfl, rfl, rfl, by decide +kernel, rfl, by decide +kernel, by decide +kernel⟩
theorem okf_l_whole (Z : Fz fa fn K mg) {fd : FuncData} (F : FunD K d_l_whole.name d_l_whole.qual d_l_whole.params d_l_whole.body d_l_whole.scope (d_l_whole.dvs K) [] (d_l_whole.ad K) fd) : FnOk P w K mg base (L2N.CX P w) 1 (ga K "_law_whole") fd ["_law_value"] (spF K [.bor] true fn_l_whole) := by
  have nd := sc_l_whole.nd
  refine fn_mv F sc_l_whole rfl fun cdv A outer s H E J hK hfx hr => ?_
  have tk := @tk_cx P w K mg base ["_law_value"] "_law_whole" (defScope (top 64)) (ga K "_law_whole") cdv A outer s H E
  have po := @po_cx P w K mg base ["_law_value"] "_law_whole" (defScope (top 64)) (ga K "_law_whole") cdv A outer s H E
  show XB _ J _ (defBody (top 64)) s_l_whole
  exact (xb_one (xs_ret (xe_and (w_isi hK isOk_int (Z.f "isinstance" (Z.c.fact 7 (f := .std (.free "isinstance")) rfl)) (w_ty (Z.f "int" (Z.c.fact 0 (f := .std (.free "int")) rfl))) w_v) (xe_one1 (xe_not (w_isi hK isOk_bl (Z.f "isinstance" (Z.c.fact 7 (f := .std (.free "isinstance")) rfl)) (w_ty (Z.f "bool" (Z.c.fact 8 (f := .std (.free "bool")) rfl))) w_v))))))
theorem ok_l_whole (Z : Fz fa fn K mg) : FnC P w K mg base 1 (ga K "_law_whole") (spF K [.bor] true fn_l_whole) := by
  obtain ⟨fd, F⟩ := Z.c.def_ ix_l_whole (d := d_l_whole) rfl
  exact ⟨⟨fd, ["_law_value"], okf_l_whole Z F, F.bindsN fun _ _ _ _ _ _ us hl => match us, hl with | [_], _ => rfl⟩, F.kp⟩
theorem okfh_l_whole (Z : Fz fa fn K mg) {fd : FuncData} (F : FunD K d_l_whole.name d_l_whole.qual d_l_whole.params d_l_whole.body d_l_whole.scope (d_l_whole.dvs K) [] (d_l_whole.ad K) fd) : L2H.FnH P w K mg base (L2N.CX P w) 1 (ga K "_law_whole") fd ["_law_value"] (spF K [.bor] true fn_l_whole) := by
  have nd := sc_l_whole.nd
  refine fn_mvH F sc_l_whole rfl fun cdv A outer s H E p J hK hfx hr hot => ?_
  have tk := @tk_cxH P w K mg base ["_law_value"] "_law_whole" (defScope (top 64)) (ga K "_law_whole") cdv A outer s H E p
  show XB _ J _ (defBody (top 64)) s_l_whole
  exact (xb_one (xs_ret (xe_and (w_isi hK isOk_int (Z.f "isinstance" (Z.c.fact 7 (f := .std (.free "isinstance")) rfl)) (w_ty (Z.f "int" (Z.c.fact 0 (f := .std (.free "int")) rfl))) w_v) (xe_one1 (xe_not (w_isi hK isOk_bl (Z.f "isinstance" (Z.c.fact 7 (f := .std (.free "isinstance")) rfl)) (w_ty (Z.f "bool" (Z.c.fact 8 (f := .std (.free "bool")) rfl))) w_v))))))
theorem okh_l_whole (Z : Fz fa fn K mg) : FnCH P w K mg base 1 (ga K "_law_whole") (spF K [.bor] true fn_l_whole) := by
  obtain ⟨fd, F⟩ := Z.c.def_ ix_l_whole (d := d_l_whole) rfl
  exact ⟨⟨fd, ["_law_value"], okfh_l_whole Z F, F.bindsN fun _ _ _ _ _ _ us hl => match us, hl with | [_], _ => rfl⟩, F.kp⟩
/-! _law_is_list(_law_actual, _law_due) -/
def s_l_is_list : SemS := (sSeq (sIf (fOr (fNot (fTru (fOne (fVar 0) (kIsi isLst)))) (fTst (fTwo true (fOne (fVar 0) (kS1 gLen)) (fOne (fVar 1) (kS1 gLen)) (kS gNe)))) (sRet (fC (.bl false))) sNil)
    (sSeq (sFor (iR1 (fOne (fVar 1) (kS1 gLen))) (gNm 2) (sIf (fOr (fNot (fTru (fCall [.bor] true fn_l_whole (aEx (fTwo true (fVar 0) (fVar 2) kIx) aNil)))) (fTst (fTwo true (fTwo true (fVar 0) (fVar 2) kIx) (fTwo true (fVar 1) (fVar 2) kIx) (kS gNe)))) (sRet (fC (.bl false))) sNil))
    (sRet (fC (.bl true)))))
def fn_l_is_list : Fn := runB [.bor, .bor] true 3 s_l_is_list
theorem sc_l_is_list : FnScope ["_law_actual", "_law_due", "_law_place"] ["_law_actual", "_law_due"] (defScope (top 65)) := ⟨rfl, rfl, rfl, by decide +kernel, rfl, by decide +kernel, by decide +kernel⟩
theorem okf_l_is_list (Z : Fz fa fn K mg) {fd : FuncData} (F : FunD K d_l_is_list.name d_l_is_list.qual d_l_is_list.params d_l_is_list.body d_l_is_list.scope (d_l_is_list.dvs K) [] (d_l_is_list.ad K) fd) : FnOk P w K mg base (L2N.CX P w) 2 (ga K "_law_is_list") fd ["_law_actual", "_law_due"] (spF K [.bor, .bor] true fn_l_is_list) := by
  have nd := sc_l_is_list.nd
  refine fn_mv F sc_l_is_list rfl fun cdv A outer s H E J hK hfx hr => ?_
  have tk := @tk_cx P w K mg base ["_law_actual", "_law_due", "_law_place"] "_law_is_list" (defScope (top 65)) (ga K "_law_is_list") cdv A outer s H E
  have po := @po_cx P w K mg base ["_law_actual", "_law_due", "_law_place"] "_law_is_list" (defScope (top 65)) (ga K "_law_is_list") cdv A outer s H E
  show XB _ J _ (defBody (top 65)) s_l_is_list
  exact (xb_cons (xs_if (xw_or (xt_not (xt_tru hK (w_isi hK isOk_lst (Z.f "isinstance" (Z.c.fact 7 (f := .std (.free "isinstance")) rfl)) (w_ty (Z.f "list" (Z.c.fact 6 (f := .std (.free "list")) rfl))) w_v))) (xw_or1 (t_ne hK (un64 hr) (w_len (Z.f "len" (Z.c.fact 1 (f := .std (.free "len")) rfl)) w_v) (w_len (Z.f "len" (Z.c.fact 1 (f := .std (.free "len")) rfl)) w_v)))).xt (xb_one (xs_ret xe_bl)) xb_nil)
    (xb_cons (w_for po (w_r1 (Z.f "range" (Z.c.fact 4 (f := .std (.free "range")) rfl)) (w_len (Z.f "len" (Z.c.fact 1 (f := .std (.free "len")) rfl)) w_v)) w_gn (xb_one (xs_if (xw_or (xt_not (xt_tru hK (w_call (ok_l_whole Z) (Z.g "_law_whole" (Z.c.fact 9 (f := .std (.glo "_law_whole")) rfl)) hr tk hK (xa_ex (xe_idx w_v w_v) xa_nil)))) (xw_or1 (t_ne hK (un64 hr) (xe_idx w_v w_v) (xe_idx w_v w_v)))).xt (xb_one (xs_ret xe_bl)) xb_nil)))
    (xb_one (xs_ret xe_bl))))
theorem ok_l_is_list (Z : Fz fa fn K mg) : FnC P w K mg base 2 (ga K "_law_is_list") (spF K [.bor, .bor] true fn_l_is_list) := by
  obtain ⟨fd, F⟩ := Z.c.def_ ix_l_is_list (d := d_l_is_list) rfl
  exact ⟨⟨fd, ["_law_actual", "_law_due"], okf_l_is_list Z F, F.bindsN fun _ _ _ _ _ _ us hl => match us, hl with | [_, _], _ => rfl⟩, F.kp⟩
/-! _law_holds(_law_places, _law_stands, _law_low, _law_high) -/
def s_l_holds : SemS := (sSeq (sFor (iR2 (fVar 2) (fVar 3)) (gNm 4) (sIf (fTst (fTwo true (fTwo true (fOne (fVar 4) (kS1 gInt)) (fVar 0) (kS (gIc cMod Int.fmod))) (fVar 1) (kS (gIn false)))) (sRet (fC (.int 1))) sNil))
    (sRet (fC (.int 0))))
def fn_l_holds : Fn := runB [.bor, .bor, .bor, .bor] true 5 s_l_holds
theorem sc_l_holds : FnScope ["_law_places", "_law_stands", "_law_low", "_law_high", "_law_place"] ["_law_places", "_law_stands", "_law_low", "_law_high"] (defScope (top 73)) := ⟨rfl, rfl, rfl, by decide +kernel, rfl, by decide +kernel, by decide +kernel⟩
theorem okf_l_holds (Z : Fz fa fn K mg) {fd : FuncData} (F : FunD K d_l_holds.name d_l_holds.qual d_l_holds.params d_l_holds.body d_l_holds.scope (d_l_holds.dvs K) [] (d_l_holds.ad K) fd) : FnOk P w K mg base (L2N.CX P w) 1 (ga K "_law_holds") fd ["_law_places", "_law_stands", "_law_low", "_law_high"] (spF K [.bor, .bor, .bor, .bor] true fn_l_holds) := by
  have nd := sc_l_holds.nd
  refine fn_mv F sc_l_holds rfl fun cdv A outer s H E J hK hfx hr => ?_
  have tk := @tk_cx P w K mg base ["_law_places", "_law_stands", "_law_low", "_law_high", "_law_place"] "_law_holds" (defScope (top 73)) (ga K "_law_holds") cdv A outer s H E
  have po := @po_cx P w K mg base ["_law_places", "_law_stands", "_law_low", "_law_high", "_law_place"] "_law_holds" (defScope (top 73)) (ga K "_law_holds") cdv A outer s H E
  show XB _ J _ (defBody (top 73)) s_l_holds
  exact (xb_cons (w_for po (w_r2 (Z.f "range" (Z.c.fact 4 (f := .std (.free "range")) rfl)) w_v w_v) w_gn (xb_one (xs_if (t_in hK (xe_mod (w_int (Z.f "int" (Z.c.fact 0 (f := .std (.free "int")) rfl)) w_v) w_v) w_v) (xb_one (xs_ret xe_int)) xb_nil)))
    (xb_one (xs_ret xe_int)))
theorem ok_l_holds (Z : Fz fa fn K mg) : FnC P w K mg base 1 (ga K "_law_holds") (spF K [.bor, .bor, .bor, .bor] true fn_l_holds) := by
  obtain ⟨fd, F⟩ := Z.c.def_ ix_l_holds (d := d_l_holds) rfl
  exact ⟨⟨fd, ["_law_places", "_law_stands", "_law_low", "_law_high"], okf_l_holds Z F, F.bindsN fun _ _ _ _ _ _ us hl => match us, hl with | [_, _, _, _], _ => rfl⟩, F.kp⟩
/-! check_stretch(begin, end) -/
def s_check_stretch : SemS := (sIf (fTst (fTwo true (fVar 1) (fVar 0) (kS (gB bLt)))) (sRaise "BadStretch" ["begin", "end"] (aSl 0 (aSl 1 aNil))) sNil)
def fn_check_stretch : Fn := runB [.shr, .shr] true 2 s_check_stretch
theorem sc_check_stretch : FnScope ["begin", "end"] ["begin", "end"] (defScope (top 23)) := ⟨rfl, rfl, rfl, by decide +kernel, rfl, by decide +kernel, by decide +kernel⟩
theorem okf_check_stretch (Z : Fz fa fn K mg) {fd : FuncData} (F : FunD K d_check_stretch.name d_check_stretch.qual d_check_stretch.params d_check_stretch.body d_check_stretch.scope (d_check_stretch.dvs K) [] (d_check_stretch.ad K) fd) : FnOk P w K mg base (L2N.CX P w) 3 (ga K "check_stretch") fd ["begin", "end"] (spF K [.shr, .shr] true fn_check_stretch) := by
  have nd := sc_check_stretch.nd
  refine fn_mv F sc_check_stretch rfl fun cdv A outer s H E J hK hfx hr => ?_
  have tk := @tk_cx P w K mg base ["begin", "end"] "check_stretch" (defScope (top 23)) (ga K "check_stretch") cdv A outer s H E
  have po := @po_cx P w K mg base ["begin", "end"] "check_stretch" (defScope (top 23)) (ga K "check_stretch") cdv A outer s H E
  show XB _ J _ (defBody (top 23)) s_check_stretch
  exact (xb_one (xs_if (t_lt w_v w_v) (xb_one (w_raise (xc_ok (Z.c.fact 11 (f := .xc "BadStretch" ["begin", "end"]) rfl)) (okx_BadStretch Z) (Z.g "BadStretch" (Z.c.fact 12 (f := .std (.glo "BadStretch")) rfl)) hr tk hK (w_sl (w_sl xa_nil)))) xb_nil))
theorem ok_check_stretch (Z : Fz fa fn K mg) : FnC P w K mg base 3 (ga K "check_stretch") (spF K [.shr, .shr] true fn_check_stretch) := by
  obtain ⟨fd, F⟩ := Z.c.def_ ix_check_stretch (d := d_check_stretch) rfl
  exact ⟨⟨fd, ["begin", "end"], okf_check_stretch Z F, F.bindsN fun _ _ _ _ _ _ us hl => match us, hl with | [_, _], _ => rfl⟩, F.kp⟩
/-! landing(heights, place) -/
def s_landing : SemS := (sRet (fTwo true (fVar 1) (fTwo true (fVar 0) (fTwo true (fVar 1) (fOne (fVar 0) (kS1 gLen)) (kS (gIc cMod Int.fmod))) kIx) kAdd))
def fn_landing : Fn := runB [.bor, .bor] true 2 s_landing
theorem sc_landing : FnScope ["heights", "place"] ["heights", "place"] (defScope (top 28)) := ⟨rfl, rfl, rfl, by decide +kernel, rfl, by decide +kernel, by decide +kernel⟩
theorem okf_landing (Z : Fz fa fn K mg) {fd : FuncData} (F : FunD K d_landing.name d_landing.qual d_landing.params d_landing.body d_landing.scope (d_landing.dvs K) [] (d_landing.ad K) fd) : FnOk P w K mg base (L2N.CX P w) 1 (ga K "landing") fd ["heights", "place"] (spF K [.bor, .bor] true fn_landing) := by
  have nd := sc_landing.nd
  refine fn_mv F sc_landing rfl fun cdv A outer s H E J hK hfx hr => ?_
  have tk := @tk_cx P w K mg base ["heights", "place"] "landing" (defScope (top 28)) (ga K "landing") cdv A outer s H E
  have po := @po_cx P w K mg base ["heights", "place"] "landing" (defScope (top 28)) (ga K "landing") cdv A outer s H E
  show XB _ J _ (defBody (top 28)) s_landing
  exact (xb_one (xs_ret (xe_add w_v (xe_idx w_v (xe_mod w_v (w_len (Z.f "len" (Z.c.fact 1 (f := .std (.free "len")) rfl)) w_v))))))
theorem ok_landing (Z : Fz fa fn K mg) : FnC P w K mg base 1 (ga K "landing") (spF K [.bor, .bor] true fn_landing) := by
  obtain ⟨fd, F⟩ := Z.c.def_ ix_landing (d := d_landing) rfl
  exact ⟨⟨fd, ["heights", "place"], okf_landing Z F, F.bindsN fun _ _ _ _ _ _ us hl => match us, hl with | [_, _], _ => rfl⟩, F.kp⟩
/-! count_between(heights, begin, end) -/
def s_count_between : SemS := (sSeq (sExpr (fCall [.shr, .shr] true fn_check_stretch (aSl 1 (aSl 2 aNil))))
    (sSeq (sAsg 3 (fFrz (fOne (fLc true [4] (iSrc (fVar 0) kItL) (gNm 4) bYes (fFrz (fOne (fVar 4) (kS1 gInt)))) (kS1 gMax))))
    (sSeq (sAsg 5 (fC (.int 0)))
    (sSeq (sFor (iR2 (fTwo true (fOne (fVar 1) (kS1 gInt)) (fTwo true (fOne (fVar 2) (kS1 gInt)) (fVar 3) (kS (gI fun i j => i - j))) (kS (gI iMax))) (fVar 2)) (gNm 6) (sIf (fTst (fTwo true (fCall [.bor, .bor] true fn_landing (aSl 0 (aSl 6 aNil))) (fVar 2) (kS (gB bGe)))) (sAug (fun i j => i + j) 5 (fC (.int 1))) sNil))
    (sRet (fVar 5))))))
def fn_count_between : Fn := runB [.bor, .shr, .shr] false 7 s_count_between
theorem sc_count_between : FnScope ["heights", "begin", "end", "highest", "height", "found", "place"] ["heights", "begin", "end"] (defScope (top 33)) := ⟨rfl, rfl, rfl, by decide +kernel, rfl, by decide +kernel, by decide +kernel⟩
theorem okf_count_between (Z : Fz fa fn K mg) {fd : FuncData} (F : FunD K d_count_between.name d_count_between.qual d_count_between.params d_count_between.body d_count_between.scope (d_count_between.dvs K) [] (d_count_between.ad K) fd) : FnOk P w K mg base (L2N.CX P w) 4 (ga K "count_between") fd ["heights", "begin", "end"] (spF K [.bor, .shr, .shr] false fn_count_between) := by
  have nd := sc_count_between.nd
  refine fn_mv F sc_count_between rfl fun cdv A outer s H E J hK hfx hr => ?_
  have tk := @tk_cx P w K mg base ["heights", "begin", "end", "highest", "height", "found", "place"] "count_between" (defScope (top 33)) (ga K "count_between") cdv A outer s H E
  have po := @po_cx P w K mg base ["heights", "begin", "end", "highest", "height", "found", "place"] "count_between" (defScope (top 33)) (ga K "count_between") cdv A outer s H E
  show XB _ J _ (defBody (top 33)) s_count_between
  exact (xb_cons (xs_expr (w_call (ok_check_stretch Z) (Z.g "check_stretch" (Z.c.fact 13 (f := .std (.glo "check_stretch")) rfl)) hr tk hK (w_sl (w_sl xa_nil))))
    (xb_cons (w_asg nd (xe_frz (w_max1 (Z.f "max" (Z.c.fact 14 (f := .std (.free "max")) rfl)) (w_lc nd (own := [("height", 4)]) (ok := (⟨rfl, by decide +kernel, by decide +kernel, by decide +kernel, by decide +kernel⟩ : BlkOk ["heights", "begin", "end", "highest", "height", "found", "place"] (defScope (top 33)) _ [("height", 4)])) (xi_list w_v) (fun _ _ _ _ _ => w_gn) (fun _ _ _ _ _ => xps_nil) (fun _ _ _ _ _ => (xe_frz (w_int (Z.f "int" (Z.c.fact 0 (f := .std (.free "int")) rfl)) w_v)))))))
    (xb_cons (w_asg nd xe_int)
    (xb_cons (w_for po (w_r2 (Z.f "range" (Z.c.fact 4 (f := .std (.free "range")) rfl)) (w_max2 (Z.f "max" (Z.c.fact 14 (f := .std (.free "max")) rfl)) (w_int (Z.f "int" (Z.c.fact 0 (f := .std (.free "int")) rfl)) w_v) (xe_sub (w_int (Z.f "int" (Z.c.fact 0 (f := .std (.free "int")) rfl)) w_v) w_v)) w_v) w_gn (xb_one (xs_if (t_ge (w_call (ok_landing Z) (Z.g "landing" (Z.c.fact 15 (f := .std (.glo "landing")) rfl)) hr tk hK (w_sl (w_sl xa_nil))) w_v) (xb_one (w_aug nd xe_int ip_add)) xb_nil)))
    (xb_one (xs_ret w_v))))))
theorem ok_count_between (Z : Fz fa fn K mg) : FnC P w K mg base 4 (ga K "count_between") (spF K [.bor, .shr, .shr] false fn_count_between) := by
  obtain ⟨fd, F⟩ := Z.c.def_ ix_count_between (d := d_count_between) rfl
  exact ⟨⟨fd, ["heights", "begin", "end"], okf_count_between Z F, F.bindsN fun _ _ _ _ _ _ us hl => match us, hl with | [_, _, _], _ => rfl⟩, F.kp⟩
/-! Cast.heights(self) -/
def s_Cast_heights : SemS := (sRet (fOne (fOne (fVar 0) (kFld "_heights" ["Cast"])) kListOf))
def fn_Cast_heights : Fn := runB [.bor] true 1 s_Cast_heights
theorem sc_Cast_heights : FnScope ["self"] ["self"] (defScope (inClass (top 57) 11)) := ⟨rfl, rfl, rfl, by decide +kernel, rfl, by decide +kernel, by decide +kernel⟩
theorem okf_Cast_heights (Z : Fz fa fn K mg) {fd : FuncData} (F : FunD K d_Cast_heights.name d_Cast_heights.qual d_Cast_heights.params d_Cast_heights.body d_Cast_heights.scope (d_Cast_heights.dvs K) [] (d_Cast_heights.ad K) fd) : FnOk P w K mg base (L2N.CX P w) 1 (recAt "property" K "Cast" "heights") fd ["self"] (spF K [.bor] true fn_Cast_heights) := by
  have nd := sc_Cast_heights.nd
  refine fn_mv F sc_Cast_heights rfl fun cdv A outer s H E J hK hfx hr => ?_
  have tk := @tk_cx P w K mg base ["self"] "Cast.heights" (defScope (inClass (top 57) 11)) (recAt "property" K "Cast" "heights") cdv A outer s H E
  have po := @po_cx P w K mg base ["self"] "Cast.heights" (defScope (inClass (top 57) 11)) (recAt "property" K "Cast" "heights") cdv A outer s H E
  show XB _ J _ (defBody (inClass (top 57) 11)) s_Cast_heights
  exact (xb_one (xs_ret (w_list (Z.f "list" (Z.c.fact 6 (f := .std (.free "list")) rfl)) (w_fld hK (fld_cons (z_cls (Z.c.fact 16 (f := .std (.cls "Cast")) rfl)) (z_noat (Z.c.fact 17 (f := .std (.noat "Cast" "_heights")) rfl)) fld_nil) w_v))))
theorem ok_Cast_heights (Z : Fz fa fn K mg) : FnC P w K mg base 1 (recAt "property" K "Cast" "heights") (spF K [.bor] true fn_Cast_heights) := by
  obtain ⟨fd, F⟩ := Z.c.def_ ix_Cast_heights (d := d_Cast_heights) rfl
  exact ⟨⟨fd, ["self"], okf_Cast_heights Z F, F.bindsN fun _ _ _ _ _ _ us hl => match us, hl with | [_], _ => rfl⟩, F.kp⟩
/-! Cast.count(self, begin, end) -/
def s_Cast_count : SemS := (sRet (fFrz (fCall [.bor, .shr, .shr] false fn_count_between (aEx (fProp "Cast" "heights" true fn_Cast_heights (rSl 0)) (aSl 1 (aSl 2 aNil))))))
def fn_Cast_count : Fn := runB [.bor, .shr, .shr] false 3 s_Cast_count
theorem sc_Cast_count : FnScope ["self", "begin", "end"] ["self", "begin", "end"] (defScope (inClass (top 57) 16)) := ⟨rfl, rfl, rfl, by decide +kernel, rfl, by decide +kernel, by decide +kernel⟩
theorem okf_Cast_count (Z : Fz fa fn K mg) {fd : FuncData} (F : FunD K d_Cast_count.name d_Cast_count.qual d_Cast_count.params d_Cast_count.body d_Cast_count.scope (d_Cast_count.dvs K) [] (d_Cast_count.ad K) fd) : FnOk P w K mg base (L2N.CX P w) 5 (ma K (ga K "Cast") "count") fd ["self", "begin", "end"] (spF K [.bor, .shr, .shr] false fn_Cast_count) := by
  have nd := sc_Cast_count.nd
  refine fn_mv F sc_Cast_count rfl fun cdv A outer s H E J hK hfx hr => ?_
  have tk := @tk_cx P w K mg base ["self", "begin", "end"] "Cast.count" (defScope (inClass (top 57) 16)) (ma K (ga K "Cast") "count") cdv A outer s H E
  have po := @po_cx P w K mg base ["self", "begin", "end"] "Cast.count" (defScope (inClass (top 57) 16)) (ma K (ga K "Cast") "count") cdv A outer s H E
  show XB _ J _ (defBody (inClass (top 57) 16)) s_Cast_count
  exact (xb_one (xs_ret (xe_frz (w_call (ok_count_between Z) (Z.g "count_between" (Z.c.fact 19 (f := .std (.glo "count_between")) rfl)) hr tk hK (xa_ex (w_prop hK (z_cls (Z.c.fact 16 (f := .std (.cls "Cast")) rfl)) (prop_ok (Z.c.fact 18 (f := .prop "Cast" "heights") rfl)) (ok_Cast_heights Z) hr w_rsl) (w_sl (w_sl xa_nil)))))))
theorem ok_Cast_count (Z : Fz fa fn K mg) : FnC P w K mg base 5 (ma K (ga K "Cast") "count") (spF K [.bor, .shr, .shr] false fn_Cast_count) := by
  obtain ⟨fd, F⟩ := Z.c.def_ ix_Cast_count (d := d_Cast_count) rfl
  exact ⟨⟨fd, ["self", "begin", "end"], okf_Cast_count Z F, F.bindsN fun _ _ _ _ _ _ us hl => match us, hl with | [_, _, _], _ => rfl⟩, F.kp⟩
/-! _law_counts(_law_cast, _law_places, _law_stands, _law_far) -/
def s_l_counts : SemS := (sSeq (sFor (iSrc (fTwo true (fLR1 (fVar 1)) (fLst (aEx (fVar 3) aNil)) kAdd) kItL) (gNm 4) (sFor (iR2 (fVar 4) (fTwo true (fTwo true (fVar 4) (fVar 1) kAdd) (fC (.int 2)) kAdd)) (gNm 5) (sSeq (sAsg 6 (fFrz (fCall [.bor, .bor, .bor, .bor] true fn_l_holds (aSl 1 (aSl 2 (aSl 4 (aSl 5 aNil)))))))
    (sIf (fNot (fTru (fCall [.bor, .bor] true fn_l_is_list (aEx (fLst (aEx (fFrz (fMeth "Cast" "count" [.bor, .shr, .shr] false fn_Cast_count (rSl 0) (aSl 4 (aSl 5 aNil)))) aNil)) (aEx (fLst (aEx (fVar 6) aNil)) aNil))))) (sRet (fC (.bl false))) sNil))))
    (sRet (fC (.bl true))))
def fn_l_counts : Fn := runB [.bor, .bor, .bor, .shr] true 7 s_l_counts
theorem sc_l_counts : FnScope ["_law_cast", "_law_places", "_law_stands", "_law_far", "_law_low", "_law_high", "_law_due"] ["_law_cast", "_law_places", "_law_stands", "_law_far"] (defScope (top 74)) := ⟨rfl, rfl, rfl, by decide +kernel, rfl, by decide +kernel, by decide +kernel⟩
theorem okf_l_counts (Z : Fz fa fn K mg) {fd : FuncData} (F : FunD K d_l_counts.name d_l_counts.qual d_l_counts.params d_l_counts.body d_l_counts.scope (d_l_counts.dvs K) [] (d_l_counts.ad K) fd) : FnOk P w K mg base (L2N.CX P w) 6 (ga K "_law_counts") fd ["_law_cast", "_law_places", "_law_stands", "_law_far"] (spF K [.bor, .bor, .bor, .shr] true fn_l_counts) := by
  have nd := sc_l_counts.nd
  refine fn_mv F sc_l_counts rfl fun cdv A outer s H E J hK hfx hr => ?_
  have tk := @tk_cx P w K mg base ["_law_cast", "_law_places", "_law_stands", "_law_far", "_law_low", "_law_high", "_law_due"] "_law_counts" (defScope (top 74)) (ga K "_law_counts") cdv A outer s H E
  have po := @po_cx P w K mg base ["_law_cast", "_law_places", "_law_stands", "_law_far", "_law_low", "_law_high", "_law_due"] "_law_counts" (defScope (top 74)) (ga K "_law_counts") cdv A outer s H E
  show XB _ J _ (defBody (top 74)) s_l_counts
  exact (xb_cons (w_for po (xi_list (xe_add (w_lr1 (Z.f "list" (Z.c.fact 6 (f := .std (.free "list")) rfl)) (Z.f "range" (Z.c.fact 4 (f := .std (.free "range")) rfl)) w_v) (xe_lst (xa_ex w_v xa_nil)))) w_gn (xb_one (w_for po (w_r2 (Z.f "range" (Z.c.fact 4 (f := .std (.free "range")) rfl)) w_v (xe_add (xe_add w_v w_v) xe_int)) w_gn (xb_cons (w_asg nd (xe_frz (w_call (ok_l_holds Z) (Z.g "_law_holds" (Z.c.fact 10 (f := .std (.glo "_law_holds")) rfl)) hr tk hK (w_sl (w_sl (w_sl (w_sl xa_nil)))))))
    (xb_one (xs_if (xt_not (xt_tru hK (w_call (ok_l_is_list Z) (Z.g "_law_is_list" (Z.c.fact 21 (f := .std (.glo "_law_is_list")) rfl)) hr tk hK (xa_ex (xe_lst (xa_ex (xe_frz (w_meth (ok_Cast_count Z) (z_cls (Z.c.fact 16 (f := .std (.cls "Cast")) rfl)) (z_meth (Z.c.fact 20 (f := .std (.meth "Cast" "count")) rfl)) hr tk hK w_rsl (w_sl (w_sl xa_nil)))) xa_nil)) (xa_ex (xe_lst (xa_ex w_v xa_nil)) xa_nil))))) (xb_one (xs_ret xe_bl)) xb_nil))))))
    (xb_one (xs_ret xe_bl)))
theorem ok_l_counts (Z : Fz fa fn K mg) : FnC P w K mg base 6 (ga K "_law_counts") (spF K [.bor, .bor, .bor, .shr] true fn_l_counts) := by
  obtain ⟨fd, F⟩ := Z.c.def_ ix_l_counts (d := d_l_counts) rfl
  exact ⟨⟨fd, ["_law_cast", "_law_places", "_law_stands", "_law_far"], okf_l_counts Z F, F.bindsN fun _ _ _ _ _ _ us hl => match us, hl with | [_, _, _, _], _ => rfl⟩, F.kp⟩
/-! _law_one_cast(_law_places, _law_stands) -/
def s_l_one_cast : SemS := (sSeq (sAsg 2 (fTwo true (fLst (aEx (fC (.int 0)) aNil)) (fVar 0) kMul))
    (sSeq (sFor (iSrc (fVar 1) kItL) (gNm 3) (sSeq (sAsg 4 (fC (.int 1)))
    (sSeq (sWhile (fAnd (fTst (fTwo true (fVar 4) (fVar 0) (kS (gB bLt)))) (fTst (fTwo true (fTwo true (fOne (fTwo true (fVar 3) (fVar 4) kAdd) (kS1 gInt)) (fVar 0) (kS (gIc cMod Int.fmod))) (fVar 1) (kS (gIn true))))) (sAsg 4 (fFrz (fTwo true (fVar 4) (fC (.int 1)) kAdd))))
    (sSet 2 (fVar 3) (fVar 4)))))
    (sRet (fMv 2))))
def fn_l_one_cast : Fn := runB [.bor, .bor] true 5 s_l_one_cast
theorem sc_l_one_cast : FnScope ["_law_places", "_law_stands", "_law_heights", "_law_place", "_law_height"] ["_law_places", "_law_stands"] (defScope (top 72)) := ⟨rfl, rfl, rfl, by decide +kernel, rfl, by decide +kernel, by decide +kernel⟩
theorem okf_l_one_cast (Z : Fz fa fn K mg) {fd : FuncData} (F : FunD K d_l_one_cast.name d_l_one_cast.qual d_l_one_cast.params d_l_one_cast.body d_l_one_cast.scope (d_l_one_cast.dvs K) [] (d_l_one_cast.ad K) fd) : FnOk P w K mg base (L2N.CX P w) 1 (ga K "_law_one_cast") fd ["_law_places", "_law_stands"] (spF K [.bor, .bor] true fn_l_one_cast) := by
  have nd := sc_l_one_cast.nd
  refine fn_mv F sc_l_one_cast rfl fun cdv A outer s H E J hK hfx hr => ?_
  have tk := @tk_cx P w K mg base ["_law_places", "_law_stands", "_law_heights", "_law_place", "_law_height"] "_law_one_cast" (defScope (top 72)) (ga K "_law_one_cast") cdv A outer s H E
  have po := @po_cx P w K mg base ["_law_places", "_law_stands", "_law_heights", "_law_place", "_law_height"] "_law_one_cast" (defScope (top 72)) (ga K "_law_one_cast") cdv A outer s H E
  show XB _ J _ (defBody (top 72)) s_l_one_cast
  exact (xb_cons (w_asg nd (xe_mul (xe_lst (xa_ex xe_int xa_nil)) w_v))
    (xb_cons (w_for po (xi_list w_v) w_gn (xb_cons (w_asg nd xe_int)
    (xb_cons (xs_while po (xw_and (t_lt w_v w_v) (xw_and1 (t_nin hK (xe_mod (w_int (Z.f "int" (Z.c.fact 0 (f := .std (.free "int")) rfl)) (xe_add w_v w_v)) w_v) w_v))).xt (xb_one (w_asg nd (xe_frz (xe_add w_v xe_int)))))
    (xb_one (w_set w_v w_v)))))
    (xb_one (xs_ret w_mv))))
theorem ok_l_one_cast (Z : Fz fa fn K mg) : FnC P w K mg base 1 (ga K "_law_one_cast") (spF K [.bor, .bor] true fn_l_one_cast) := by
  obtain ⟨fd, F⟩ := Z.c.def_ ix_l_one_cast (d := d_l_one_cast) rfl
  exact ⟨⟨fd, ["_law_places", "_law_stands"], okf_l_one_cast Z F, F.bindsN fun _ _ _ _ _ _ us hl => match us, hl with | [_, _], _ => rfl⟩, F.kp⟩
/-! check_places(places) -/
def s_check_places : SemS := (sIf (fNot (fTst (fChain bLe bLe (fC (.int 1)) (fVar 0) (fC (.int 6))))) (sRaise "BadSize" ["size"] (aSl 0 aNil)) sNil)
def fn_check_places : Fn := runB [.shr] true 1 s_check_places
theorem sc_check_places : FnScope ["places"] ["places"] (defScope (top 21)) := ⟨rfl, rfl, rfl, by decide +kernel, rfl, by decide +kernel, by decide +kernel⟩
theorem okf_check_places (Z : Fz fa fn K mg) {fd : FuncData} (F : FunD K d_check_places.name d_check_places.qual d_check_places.params d_check_places.body d_check_places.scope (d_check_places.dvs K) [] (d_check_places.ad K) fd) : FnOk P w K mg base (L2N.CX P w) 3 (ga K "check_places") fd ["places"] (spF K [.shr] true fn_check_places) := by
  have nd := sc_check_places.nd
  refine fn_mv F sc_check_places rfl fun cdv A outer s H E J hK hfx hr => ?_
  have tk := @tk_cx P w K mg base ["places"] "check_places" (defScope (top 21)) (ga K "check_places") cdv A outer s H E
  have po := @po_cx P w K mg base ["places"] "check_places" (defScope (top 21)) (ga K "check_places") cdv A outer s H E
  show XB _ J _ (defBody (top 21)) s_check_places
  exact (xb_one (xs_if (xt_not (xt_chain op_le op_le xe_int w_v (w_gi (Z.i "MOST_PLACES" 6 (Z.c.fact 22 (f := .std (.int "MOST_PLACES" 6)) rfl))))) (xb_one (w_raise (xc_ok (Z.c.fact 23 (f := .xc "BadSize" ["size"]) rfl)) (okx_BadSize Z) (Z.g "BadSize" (Z.c.fact 24 (f := .std (.glo "BadSize")) rfl)) hr tk hK (w_sl xa_nil))) xb_nil))
theorem ok_check_places (Z : Fz fa fn K mg) : FnC P w K mg base 3 (ga K "check_places") (spF K [.shr] true fn_check_places) := by
  obtain ⟨fd, F⟩ := Z.c.def_ ix_check_places (d := d_check_places) rfl
  exact ⟨⟨fd, ["places"], okf_check_places Z F, F.bindsN fun _ _ _ _ _ _ us hl => match us, hl with | [_], _ => rfl⟩, F.kp⟩
/-! check_stands(places, stands) -/
def s_check_stands : SemS := (sSeq (sIf (fTst (fTwo true (fOne (fVar 1) (kS1 gLen)) (fC (.int 0)) (kS gEq))) (sRaise "BadStands" ["index"] (aEx (fC (.int 0)) aNil)) sNil)
    (sFor (iR1 (fOne (fVar 1) (kS1 gLen))) (gNm 2) (sSeq (sIf (fNot (fTst (fChain bLe bLt (fC (.int 0)) (fTwo true (fVar 1) (fVar 2) kIx) (fVar 0)))) (sRaise "BadStands" ["index"] (aSl 2 aNil)) sNil)
    (sIf (fAnd (fTst (fTwo true (fVar 2) (fC (.int 0)) (kS (gB bGt)))) (fTst (fTwo true (fTwo true (fVar 1) (fVar 2) kIx) (fTwo true (fVar 1) (fTwo true (fVar 2) (fC (.int 1)) (kS (gI fun i j => i - j))) kIx) (kS (gB bLe))))) (sRaise "BadStands" ["index"] (aSl 2 aNil)) sNil))))
def fn_check_stands : Fn := runB [.bor, .bor] true 3 s_check_stands
theorem sc_check_stands : FnScope ["places", "stands", "index"] ["places", "stands"] (defScope (top 24)) := ⟨rfl, rfl, rfl, by decide +kernel, rfl, by decide +kernel, by decide +kernel⟩
theorem okf_check_stands (Z : Fz fa fn K mg) {fd : FuncData} (F : FunD K d_check_stands.name d_check_stands.qual d_check_stands.params d_check_stands.body d_check_stands.scope (d_check_stands.dvs K) [] (d_check_stands.ad K) fd) : FnOk P w K mg base (L2N.CX P w) 3 (ga K "check_stands") fd ["places", "stands"] (spF K [.bor, .bor] true fn_check_stands) := by
  have nd := sc_check_stands.nd
  refine fn_mv F sc_check_stands rfl fun cdv A outer s H E J hK hfx hr => ?_
  have tk := @tk_cx P w K mg base ["places", "stands", "index"] "check_stands" (defScope (top 24)) (ga K "check_stands") cdv A outer s H E
  have po := @po_cx P w K mg base ["places", "stands", "index"] "check_stands" (defScope (top 24)) (ga K "check_stands") cdv A outer s H E
  show XB _ J _ (defBody (top 24)) s_check_stands
  exact (xb_cons (xs_if (t_eq hK (un64 hr) (w_len (Z.f "len" (Z.c.fact 1 (f := .std (.free "len")) rfl)) w_v) xe_int) (xb_one (w_raise (xc_ok (Z.c.fact 25 (f := .xc "BadStands" ["index"]) rfl)) (okx_BadStands Z) (Z.g "BadStands" (Z.c.fact 26 (f := .std (.glo "BadStands")) rfl)) hr tk hK (xa_ex xe_int xa_nil))) xb_nil)
    (xb_one (w_for po (w_r1 (Z.f "range" (Z.c.fact 4 (f := .std (.free "range")) rfl)) (w_len (Z.f "len" (Z.c.fact 1 (f := .std (.free "len")) rfl)) w_v)) w_gn (xb_cons (xs_if (xt_not (xt_chain op_le op_lt xe_int (xe_idx w_v w_v) w_v)) (xb_one (w_raise (xc_ok (Z.c.fact 25 (f := .xc "BadStands" ["index"]) rfl)) (okx_BadStands Z) (Z.g "BadStands" (Z.c.fact 26 (f := .std (.glo "BadStands")) rfl)) hr tk hK (w_sl xa_nil))) xb_nil)
    (xb_one (xs_if (xw_and (t_gt w_v xe_int) (xw_and1 (t_le (xe_idx w_v w_v) (xe_idx w_v (xe_sub w_v xe_int))))).xt (xb_one (w_raise (xc_ok (Z.c.fact 25 (f := .xc "BadStands" ["index"]) rfl)) (okx_BadStands Z) (Z.g "BadStands" (Z.c.fact 26 (f := .std (.glo "BadStands")) rfl)) hr tk hK (w_sl xa_nil))) xb_nil))))))
theorem ok_check_stands (Z : Fz fa fn K mg) : FnC P w K mg base 3 (ga K "check_stands") (spF K [.bor, .bor] true fn_check_stands) := by
  obtain ⟨fd, F⟩ := Z.c.def_ ix_check_stands (d := d_check_stands) rfl
  exact ⟨⟨fd, ["places", "stands"], okf_check_stands Z F, F.bindsN fun _ _ _ _ _ _ us hl => match us, hl with | [_, _], _ => rfl⟩, F.kp⟩
/-! one_entry(places, stands) -/
def s_one_entry : SemS := (sSeq (sExpr (fCall [.shr] true fn_check_places (aSl 0 aNil)))
    (sSeq (sExpr (fCall [.bor, .bor] true fn_check_stands (aSl 0 (aSl 1 aNil))))
    (sSeq (sAsg 2 (fLc true [3] (iR1 (fVar 0)) (gNm 3) bYes (fC (.int 0))))
    (sSeq (sFor (iR1 (fTwo true (fOne (fVar 1) (kS1 gLen)) (fC (.int 1)) (kS (gI fun i j => i - j)))) (gNm 4) (sSet 2 (fTwo true (fVar 1) (fVar 4) kIx) (fFrz (fTwo true (fTwo true (fVar 1) (fTwo true (fVar 4) (fC (.int 1)) kAdd) kIx) (fTwo true (fVar 1) (fVar 4) kIx) (kS (gI fun i j => i - j))))))
    (sSeq (sSet 2 (fTwo true (fVar 1) (fOne (fC (.int 1)) (kS1 gNeg)) kIx) (fFrz (fTwo true (fTwo true (fTwo true (fVar 1) (fC (.int 0)) kIx) (fVar 0) kAdd) (fTwo true (fVar 1) (fOne (fC (.int 1)) (kS1 gNeg)) kIx) (kS (gI fun i j => i - j)))))
    (sRet (fMv 2)))))))
def fn_one_entry : Fn := runB [.shr, .bor] true 5 s_one_entry
theorem sc_one_entry : FnScope ["places", "stands", "heights", "_", "index"] ["places", "stands"] (defScope (top 35)) := ⟨rfl, rfl, rfl, by decide +kernel, rfl, by decide +kernel, by decide +kernel⟩
theorem okf_one_entry (Z : Fz fa fn K mg) {fd : FuncData} (F : FunD K d_one_entry.name d_one_entry.qual d_one_entry.params d_one_entry.body d_one_entry.scope (d_one_entry.dvs K) [] (d_one_entry.ad K) fd) : FnOk P w K mg base (L2N.CX P w) 4 (ga K "one_entry") fd ["places", "stands"] (spF K [.shr, .bor] true fn_one_entry) := by
  have nd := sc_one_entry.nd
  refine fn_mv F sc_one_entry rfl fun cdv A outer s H E J hK hfx hr => ?_
  have tk := @tk_cx P w K mg base ["places", "stands", "heights", "_", "index"] "one_entry" (defScope (top 35)) (ga K "one_entry") cdv A outer s H E
  have po := @po_cx P w K mg base ["places", "stands", "heights", "_", "index"] "one_entry" (defScope (top 35)) (ga K "one_entry") cdv A outer s H E
  show XB _ J _ (defBody (top 35)) s_one_entry
  exact (xb_cons (xs_expr (w_call (ok_check_places Z) (Z.g "check_places" (Z.c.fact 27 (f := .std (.glo "check_places")) rfl)) hr tk hK (w_sl xa_nil)))
    (xb_cons (xs_expr (w_call (ok_check_stands Z) (Z.g "check_stands" (Z.c.fact 28 (f := .std (.glo "check_stands")) rfl)) hr tk hK (w_sl (w_sl xa_nil))))
    (xb_cons (w_asgLc nd (own := [("_", 3)]) (ok := (⟨rfl, by decide +kernel, by decide +kernel, by decide +kernel, by decide +kernel⟩ : BlkOk ["places", "stands", "heights", "_", "index"] (defScope (top 35)) _ [("_", 3)])) (w_r1 (Z.f "range" (Z.c.fact 4 (f := .std (.free "range")) rfl)) w_v) (fun _ _ _ _ _ => w_gn) (fun _ _ _ _ _ => xps_nil) (fun _ _ _ _ _ => xe_int))
    (xb_cons (w_for po (w_r1 (Z.f "range" (Z.c.fact 4 (f := .std (.free "range")) rfl)) (xe_sub (w_len (Z.f "len" (Z.c.fact 1 (f := .std (.free "len")) rfl)) w_v) xe_int)) w_gn (xb_one (w_set (xe_idx w_v w_v) (xe_frz (xe_sub (xe_idx w_v (xe_add w_v xe_int)) (xe_idx w_v w_v))))))
    (xb_cons (w_set (xe_idx w_v (w_neg xe_int)) (xe_frz (xe_sub (xe_add (xe_idx w_v xe_int) w_v) (xe_idx w_v (w_neg xe_int)))))
    (xb_one (xs_ret w_mv)))))))
theorem ok_one_entry (Z : Fz fa fn K mg) : FnC P w K mg base 4 (ga K "one_entry") (spF K [.shr, .bor] true fn_one_entry) := by
  obtain ⟨fd, F⟩ := Z.c.def_ ix_one_entry (d := d_one_entry) rfl
  exact ⟨⟨fd, ["places", "stands"], okf_one_entry Z F, F.bindsN fun _ _ _ _ _ _ us hl => match us, hl with | [_, _], _ => rfl⟩, F.kp⟩
/-! Cast.__init__(self, heights) -/
def s_Cast___init__ : SemS := (sSeq (sAsg 2 (fFrz (fOne (fVar 1) (kS1 gLen))))
    (sSeq (sIf (fNot (fTst (fChain bLe bLe (fC (.int 1)) (fVar 2) (fC (.int 6))))) (sRaise "BadSize" ["size"] (aSl 2 aNil)) sNil)
    (sSeq (sFor (iR1 (fVar 2)) (gNm 3) (sIf (fNot (fTst (fChain bLe bLe (fC (.int 0)) (fTwo true (fVar 1) (fVar 3) kIx) (fC (.int 96))))) (sRaise "BadHeight" ["place"] (aSl 3 aNil)) sNil))
    (sSeq (sFor (iR1 (fVar 2)) (gNm 4) (sFor (iR1 (fVar 4)) (gNm 5) (sIf (fTst (fTwo true (fTwo true (fTwo true (fTwo true (fTwo true (fVar 4) (fTwo true (fVar 1) (fVar 4) kIx) kAdd) (fVar 5) (kS (gI fun i j => i - j))) (fTwo true (fVar 1) (fVar 5) kIx) (kS (gI fun i j => i - j))) (fVar 2) (kS (gIc cMod Int.fmod))) (fC (.int 0)) (kS gEq))) (sRaise "Collision" ["first", "second"] (aSl 5 (aSl 4 aNil))) sNil)))
    (sSeq (sAsg 6 (fFrz (fTwo true (fOne (fVar 1) (kS1 gSum)) (fVar 2) (kS (gIc cDiv Int.fdiv)))))
    (sSeq (sIf (fTst (fTwo true (fVar 6) (fC (.int 16)) (kS (gB bGt)))) (sRaise "TooManyBalls" ["amount"] (aSl 6 aNil)) sNil)
    (sFldS 0 "_heights" ["Cast"] (fFrz (fOne (fVar 1) kTupOf)))))))))
def fn_Cast___init__ : Fn := runB [.io, .bor] true 7 s_Cast___init__
theorem sc_Cast___init__ : FnScope ["self", "heights", "places", "place", "second", "first", "balls"] ["self", "heights"] (defScope (inClass (top 57) 2)) := ⟨rfl, rfl, rfl, by decide +kernel, rfl, by decide +kernel, by decide +kernel⟩
theorem okf_Cast___init__ (Z : Fz fa fn K mg) {fd : FuncData} (F : FunD K d_Cast___init__.name d_Cast___init__.qual d_Cast___init__.params d_Cast___init__.body d_Cast___init__.scope (d_Cast___init__.dvs K) [] (d_Cast___init__.ad K) fd) : FnOk P w K mg base (L2N.CX P w) 3 (ma K (ga K "Cast") "__init__") fd ["self", "heights"] (spF K [.io, .bor] true fn_Cast___init__) := by
  have nd := sc_Cast___init__.nd
  refine fn_mv F sc_Cast___init__ rfl fun cdv A outer s H E J hK hfx hr => ?_
  have tk := @tk_cx P w K mg base ["self", "heights", "places", "place", "second", "first", "balls"] "Cast.__init__" (defScope (inClass (top 57) 2)) (ma K (ga K "Cast") "__init__") cdv A outer s H E
  have po := @po_cx P w K mg base ["self", "heights", "places", "place", "second", "first", "balls"] "Cast.__init__" (defScope (inClass (top 57) 2)) (ma K (ga K "Cast") "__init__") cdv A outer s H E
  show XB _ J _ (defBody (inClass (top 57) 2)) s_Cast___init__
  exact (xb_cons (w_asg nd (xe_frz (w_len (Z.f "len" (Z.c.fact 1 (f := .std (.free "len")) rfl)) w_v)))
    (xb_cons (xs_if (xt_not (xt_chain op_le op_le xe_int w_v (w_cval (cval_ok (Z.c.fact 31 (f := .cval "Cast" "MOST_PLACES" 6) rfl)) (Z.g "Cast" (Z.c.fact 32 (f := .std (.glo "Cast")) rfl))))) (xb_one (w_raise (xc_ok (Z.c.fact 23 (f := .xc "BadSize" ["size"]) rfl)) (okx_BadSize Z) (Z.g "BadSize" (Z.c.fact 24 (f := .std (.glo "BadSize")) rfl)) hr tk hK (w_sl xa_nil))) xb_nil)
    (xb_cons (w_for po (w_r1 (Z.f "range" (Z.c.fact 4 (f := .std (.free "range")) rfl)) w_v) w_gn (xb_one (xs_if (xt_not (xt_chain op_le op_le xe_int (xe_idx w_v w_v) (w_gi (Z.i "MOST_HEIGHT" 96 (Z.c.fact 33 (f := .std (.int "MOST_HEIGHT" 96)) rfl))))) (xb_one (w_raise (xc_ok (Z.c.fact 34 (f := .xc "BadHeight" ["place"]) rfl)) (okx_BadHeight Z) (Z.g "BadHeight" (Z.c.fact 35 (f := .std (.glo "BadHeight")) rfl)) hr tk hK (w_sl xa_nil))) xb_nil)))
    (xb_cons (w_for po (w_r1 (Z.f "range" (Z.c.fact 4 (f := .std (.free "range")) rfl)) w_v) w_gn (xb_one (w_for po (w_r1 (Z.f "range" (Z.c.fact 4 (f := .std (.free "range")) rfl)) w_v) w_gn (xb_one (xs_if (t_eq hK (un64 hr) (xe_mod (xe_sub (xe_sub (xe_add w_v (xe_idx w_v w_v)) w_v) (xe_idx w_v w_v)) w_v) xe_int) (xb_one (w_raise (xc_ok (Z.c.fact 36 (f := .xc "Collision" ["first", "second"]) rfl)) (okx_Collision Z) (Z.g "Collision" (Z.c.fact 37 (f := .std (.glo "Collision")) rfl)) hr tk hK (w_sl (w_sl xa_nil)))) xb_nil)))))
    (xb_cons (w_asg nd (xe_frz (xe_fdiv (w_sum (Z.f "sum" (Z.c.fact 38 (f := .std (.free "sum")) rfl)) w_v) w_v)))
    (xb_cons (xs_if (t_gt w_v (w_cval (cval_ok (Z.c.fact 39 (f := .cval "Cast" "MOST_BALLS" 16) rfl)) (Z.g "Cast" (Z.c.fact 32 (f := .std (.glo "Cast")) rfl)))) (xb_one (w_raise (xc_ok (Z.c.fact 40 (f := .xc "TooManyBalls" ["amount"]) rfl)) (okx_TooManyBalls Z) (Z.g "TooManyBalls" (Z.c.fact 41 (f := .std (.glo "TooManyBalls")) rfl)) hr tk hK (w_sl xa_nil))) xb_nil)
    (xb_one (w_sfld hK (fld_cons (z_cls (Z.c.fact 16 (f := .std (.cls "Cast")) rfl)) (z_noat (Z.c.fact 17 (f := .std (.noat "Cast" "_heights")) rfl)) fld_nil) (xe_frz (w_tuple (Z.f "tuple" (Z.c.fact 42 (f := .std (.free "tuple")) rfl)) w_v))))))))))
theorem ok_Cast___init__ (Z : Fz fa fn K mg) : FnC P w K mg base 3 (ma K (ga K "Cast") "__init__") (spF K [.io, .bor] true fn_Cast___init__) := by
  obtain ⟨fd, F⟩ := Z.c.def_ ix_Cast___init__ (d := d_Cast___init__) rfl
  exact ⟨⟨fd, ["self", "heights"], okf_Cast___init__ Z F, F.bindsN fun _ _ _ _ _ _ us hl => match us, hl with | [_, _], _ => rfl⟩, F.kp⟩
/-! Cast.entry(places, stands) -/
def s_Cast_entry : SemS := (sRet (fMake "Cast" [.bor] fn_Cast___init__ (aEx (fCall [.shr, .bor] true fn_one_entry (aSl 0 (aSl 1 aNil))) aNil)))
def fn_Cast_entry : Fn := runB [.shr, .bor] true 2 s_Cast_entry
theorem sc_Cast_entry : FnScope ["places", "stands"] ["places", "stands"] (defScope (inClass (top 57) 6)) := ⟨rfl, rfl, rfl, by decide +kernel, rfl, by decide +kernel, by decide +kernel⟩
theorem okf_Cast_entry (Z : Fz fa fn K mg) {fd : FuncData} (F : FunD K d_Cast_entry.name d_Cast_entry.qual d_Cast_entry.params d_Cast_entry.body d_Cast_entry.scope (d_Cast_entry.dvs K) [] (d_Cast_entry.ad K) fd) : FnOk P w K mg base (L2N.CX P w) 5 (recAt "staticmethod" K "Cast" "entry") fd ["places", "stands"] (spF K [.shr, .bor] true fn_Cast_entry) := by
  have nd := sc_Cast_entry.nd
  refine fn_mv F sc_Cast_entry rfl fun cdv A outer s H E J hK hfx hr => ?_
  have tk := @tk_cx P w K mg base ["places", "stands"] "Cast.entry" (defScope (inClass (top 57) 6)) (recAt "staticmethod" K "Cast" "entry") cdv A outer s H E
  have po := @po_cx P w K mg base ["places", "stands"] "Cast.entry" (defScope (inClass (top 57) 6)) (recAt "staticmethod" K "Cast" "entry") cdv A outer s H E
  show XB _ J _ (defBody (inClass (top 57) 6)) s_Cast_entry
  exact (xb_one (xs_ret (w_make (ok_Cast___init__ Z) (z_mkr (Z.c.fact 43 (f := .std (.mkr "Cast")) rfl)) (Z.g "Cast" (Z.c.fact 32 (f := .std (.glo "Cast")) rfl)) hr tk hK (xa_ex (w_call (ok_one_entry Z) (Z.g "one_entry" (Z.c.fact 30 (f := .std (.glo "one_entry")) rfl)) hr tk hK (w_sl (w_sl xa_nil))) xa_nil))))
theorem ok_Cast_entry (Z : Fz fa fn K mg) : FnC P w K mg base 5 (recAt "staticmethod" K "Cast" "entry") (spF K [.shr, .bor] true fn_Cast_entry) := by
  obtain ⟨fd, F⟩ := Z.c.def_ ix_Cast_entry (d := d_Cast_entry) rfl
  exact ⟨⟨fd, ["places", "stands"], okf_Cast_entry Z F, F.bindsN fun _ _ _ _ _ _ us hl => match us, hl with | [_, _], _ => rfl⟩, F.kp⟩
/-! Cast.used(self) -/
def s_Cast_used : SemS := (sRet (fLc true [1] (iR1 (fOne (fOne (fVar 0) (kFld "_heights" ["Cast"])) (kS1 gLen))) (gNm 1) (fTst (fTwo true (fTwo true (fOne (fVar 0) (kFld "_heights" ["Cast"])) (fVar 1) kIx) (fC (.int 0)) (kS gNe))) (fVar 1)))
def fn_Cast_used : Fn := runB [.bor] true 2 s_Cast_used
theorem sc_Cast_used : FnScope ["self", "place"] ["self"] (defScope (inClass (top 57) 12)) := ⟨rfl, rfl, rfl, by decide +kernel, rfl, by decide +kernel, by decide +kernel⟩
theorem okf_Cast_used (Z : Fz fa fn K mg) {fd : FuncData} (F : FunD K d_Cast_used.name d_Cast_used.qual d_Cast_used.params d_Cast_used.body d_Cast_used.scope (d_Cast_used.dvs K) [] (d_Cast_used.ad K) fd) : FnOk P w K mg base (L2N.CX P w) 1 (recAt "property" K "Cast" "used") fd ["self"] (spF K [.bor] true fn_Cast_used) := by
  have nd := sc_Cast_used.nd
  refine fn_mv F sc_Cast_used rfl fun cdv A outer s H E J hK hfx hr => ?_
  have tk := @tk_cx P w K mg base ["self", "place"] "Cast.used" (defScope (inClass (top 57) 12)) (recAt "property" K "Cast" "used") cdv A outer s H E
  have po := @po_cx P w K mg base ["self", "place"] "Cast.used" (defScope (inClass (top 57) 12)) (recAt "property" K "Cast" "used") cdv A outer s H E
  show XB _ J _ (defBody (inClass (top 57) 12)) s_Cast_used
  exact (xb_one (xs_ret (w_lc nd (own := [("place", 1)]) (ok := (⟨rfl, by decide +kernel, by decide +kernel, by decide +kernel, by decide +kernel⟩ : BlkOk ["self", "place"] (defScope (inClass (top 57) 12)) _ [("place", 1)])) (w_r1 (Z.f "range" (Z.c.fact 4 (f := .std (.free "range")) rfl)) (w_len (Z.f "len" (Z.c.fact 1 (f := .std (.free "len")) rfl)) (w_fld hK (fld_cons (z_cls (Z.c.fact 16 (f := .std (.cls "Cast")) rfl)) (z_noat (Z.c.fact 17 (f := .std (.noat "Cast" "_heights")) rfl)) fld_nil) w_v))) (fun _ _ _ _ _ => w_gn) (fun _ _ _ _ _ => (xps_one (t_ne hK (un64 hr) (xe_idx (w_fld hK (fld_cons (z_cls (Z.c.fact 16 (f := .std (.cls "Cast")) rfl)) (z_noat (Z.c.fact 17 (f := .std (.noat "Cast" "_heights")) rfl)) fld_nil) w_v) w_v) xe_int))) (fun _ _ _ _ _ => w_v))))
theorem ok_Cast_used (Z : Fz fa fn K mg) : FnC P w K mg base 1 (recAt "property" K "Cast" "used") (spF K [.bor] true fn_Cast_used) := by
  obtain ⟨fd, F⟩ := Z.c.def_ ix_Cast_used (d := d_Cast_used) rfl
  exact ⟨⟨fd, ["self"], okf_Cast_used Z F, F.bindsN fun _ _ _ _ _ _ us hl => match us, hl with | [_], _ => rfl⟩, F.kp⟩
/-! Cast.balls(self) -/
def s_Cast_balls : SemS := (sRet (fTwo true (fOne (fOne (fVar 0) (kFld "_heights" ["Cast"])) (kS1 gSum)) (fOne (fOne (fVar 0) (kFld "_heights" ["Cast"])) (kS1 gLen)) (kS (gIc cDiv Int.fdiv))))
def fn_Cast_balls : Fn := runB [.bor] true 1 s_Cast_balls
theorem sc_Cast_balls : FnScope ["self"] ["self"] (defScope (inClass (top 57) 10)) := ⟨rfl, rfl, rfl, by decide +kernel, rfl, by decide +kernel, by decide +kernel⟩
theorem okf_Cast_balls (Z : Fz fa fn K mg) {fd : FuncData} (F : FunD K d_Cast_balls.name d_Cast_balls.qual d_Cast_balls.params d_Cast_balls.body d_Cast_balls.scope (d_Cast_balls.dvs K) [] (d_Cast_balls.ad K) fd) : FnOk P w K mg base (L2N.CX P w) 1 (recAt "property" K "Cast" "balls") fd ["self"] (spF K [.bor] true fn_Cast_balls) := by
  have nd := sc_Cast_balls.nd
  refine fn_mv F sc_Cast_balls rfl fun cdv A outer s H E J hK hfx hr => ?_
  have tk := @tk_cx P w K mg base ["self"] "Cast.balls" (defScope (inClass (top 57) 10)) (recAt "property" K "Cast" "balls") cdv A outer s H E
  have po := @po_cx P w K mg base ["self"] "Cast.balls" (defScope (inClass (top 57) 10)) (recAt "property" K "Cast" "balls") cdv A outer s H E
  show XB _ J _ (defBody (inClass (top 57) 10)) s_Cast_balls
  exact (xb_one (xs_ret (xe_fdiv (w_sum (Z.f "sum" (Z.c.fact 38 (f := .std (.free "sum")) rfl)) (w_fld hK (fld_cons (z_cls (Z.c.fact 16 (f := .std (.cls "Cast")) rfl)) (z_noat (Z.c.fact 17 (f := .std (.noat "Cast" "_heights")) rfl)) fld_nil) w_v)) (w_len (Z.f "len" (Z.c.fact 1 (f := .std (.free "len")) rfl)) (w_fld hK (fld_cons (z_cls (Z.c.fact 16 (f := .std (.cls "Cast")) rfl)) (z_noat (Z.c.fact 17 (f := .std (.noat "Cast" "_heights")) rfl)) fld_nil) w_v)))))
theorem ok_Cast_balls (Z : Fz fa fn K mg) : FnC P w K mg base 1 (recAt "property" K "Cast" "balls") (spF K [.bor] true fn_Cast_balls) := by
  obtain ⟨fd, F⟩ := Z.c.def_ ix_Cast_balls (d := d_Cast_balls) rfl
  exact ⟨⟨fd, ["self"], okf_Cast_balls Z F, F.bindsN fun _ _ _ _ _ _ us hl => match us, hl with | [_], _ => rfl⟩, F.kp⟩
/-! Cast.places(self) -/
def s_Cast_places : SemS := (sRet (fOne (fOne (fVar 0) (kFld "_heights" ["Cast"])) (kS1 gLen)))
def fn_Cast_places : Fn := runB [.bor] true 1 s_Cast_places
theorem sc_Cast_places : FnScope ["self"] ["self"] (defScope (inClass (top 57) 9)) := ⟨rfl, rfl, rfl, by decide +kernel, rfl, by decide +kernel, by decide +kernel⟩
theorem okf_Cast_places (Z : Fz fa fn K mg) {fd : FuncData} (F : FunD K d_Cast_places.name d_Cast_places.qual d_Cast_places.params d_Cast_places.body d_Cast_places.scope (d_Cast_places.dvs K) [] (d_Cast_places.ad K) fd) : FnOk P w K mg base (L2N.CX P w) 1 (recAt "property" K "Cast" "places") fd ["self"] (spF K [.bor] true fn_Cast_places) := by
  have nd := sc_Cast_places.nd
  refine fn_mv F sc_Cast_places rfl fun cdv A outer s H E J hK hfx hr => ?_
  have tk := @tk_cx P w K mg base ["self"] "Cast.places" (defScope (inClass (top 57) 9)) (recAt "property" K "Cast" "places") cdv A outer s H E
  have po := @po_cx P w K mg base ["self"] "Cast.places" (defScope (inClass (top 57) 9)) (recAt "property" K "Cast" "places") cdv A outer s H E
  show XB _ J _ (defBody (inClass (top 57) 9)) s_Cast_places
  exact (xb_one (xs_ret (w_len (Z.f "len" (Z.c.fact 1 (f := .std (.free "len")) rfl)) (w_fld hK (fld_cons (z_cls (Z.c.fact 16 (f := .std (.cls "Cast")) rfl)) (z_noat (Z.c.fact 17 (f := .std (.noat "Cast" "_heights")) rfl)) fld_nil) w_v))))
theorem ok_Cast_places (Z : Fz fa fn K mg) : FnC P w K mg base 1 (recAt "property" K "Cast" "places") (spF K [.bor] true fn_Cast_places) := by
  obtain ⟨fd, F⟩ := Z.c.def_ ix_Cast_places (d := d_Cast_places) rfl
  exact ⟨⟨fd, ["self"], okf_Cast_places Z F, F.bindsN fun _ _ _ _ _ _ us hl => match us, hl with | [_], _ => rfl⟩, F.kp⟩
/-! _law_good(_law_places, _law_stands, _law_far) -/
def s_l_good : SemS := (sSeq (sAsg 3 (fFrz (fCall [.bor, .bor] true fn_l_one_cast (aSl 0 (aSl 1 aNil)))))
    (sSeq (sAsg 4 (fOne (fVar 1) kListOf))
    (sSeq (sAsg 5 (fCall [.shr, .bor] true fn_one_entry (aSl 0 (aSl 4 aNil))))
    (sSeq (sAsg 6 (fFrz (fCall [.shr, .bor] true fn_Cast_entry (aSl 0 (aSl 4 aNil)))))
    (sSeq (sIf (fOr (fTst (fTwo true (fVar 4) (fVar 1) (kS gNe))) (fNot (fTru (fCall [.bor, .bor] true fn_l_is_list (aSl 5 (aSl 3 aNil)))))) (sRet (fC (.bl false))) sNil)
    (sSeq (sSet 4 (fC (.int 0)) (fVar 0))
    (sSeq (sExpr (fApp 4 (fC (.int 0))))
    (sSeq (sExpr (fOnL 5 kClear))
    (sSeq (sIf (fNot (fTru (fCall [.bor, .bor] true fn_l_is_list (aEx (fCall [.shr, .bor] true fn_one_entry (aSl 0 (aEx (fOne (fVar 1) kListOf) aNil))) (aSl 3 aNil))))) (sRet (fC (.bl false))) sNil)
    (sSeq (sIf (fOr (fNot (fTru (fCall [.bor, .bor] true fn_l_is_list (aEx (fProp "Cast" "heights" true fn_Cast_heights (rSl 6)) (aSl 3 aNil))))) (fNot (fTru (fCall [.bor, .bor] true fn_l_is_list (aEx (fProp "Cast" "used" true fn_Cast_used (rSl 6)) (aSl 1 aNil)))))) (sRet (fC (.bl false))) sNil)
    (sSeq (sIf (fNot (fTru (fCall [.bor, .bor] true fn_l_is_list (aEx (fLst (aEx (fProp "Cast" "places" true fn_Cast_places (rSl 6)) (aEx (fProp "Cast" "balls" true fn_Cast_balls (rSl 6)) aNil))) (aEx (fLst (aEx (fVar 0) (aEx (fC (.int 1)) aNil))) aNil))))) (sRet (fC (.bl false))) sNil)
    (sRet (fCall [.bor, .bor, .bor, .shr] true fn_l_counts (aSl 6 (aSl 0 (aSl 1 (aSl 2 aNil)))))))))))))))))
def fn_l_good : Fn := runB [.shr, .bor, .shr] true 7 s_l_good
theorem sc_l_good : FnScope ["_law_places", "_law_stands", "_law_far", "_law_due", "_law_given", "_law_heights", "_law_cast"] ["_law_places", "_law_stands", "_law_far"] (defScope (top 75)) := ⟨rfl, rfl, rfl, by decide +kernel, rfl, by decide +kernel, by decide +kernel⟩
theorem okf_l_good (Z : Fz fa fn K mg) {fd : FuncData} (F : FunD K d_l_good.name d_l_good.qual d_l_good.params d_l_good.body d_l_good.scope (d_l_good.dvs K) [] (d_l_good.ad K) fd) : FnOk P w K mg base (L2N.CX P w) 7 (ga K "_law_good") fd ["_law_places", "_law_stands", "_law_far"] (spF K [.shr, .bor, .shr] true fn_l_good) := by
  have nd := sc_l_good.nd
  refine fn_mv F sc_l_good rfl fun cdv A outer s H E J hK hfx hr => ?_
  have tk := @tk_cx P w K mg base ["_law_places", "_law_stands", "_law_far", "_law_due", "_law_given", "_law_heights", "_law_cast"] "_law_good" (defScope (top 75)) (ga K "_law_good") cdv A outer s H E
  have po := @po_cx P w K mg base ["_law_places", "_law_stands", "_law_far", "_law_due", "_law_given", "_law_heights", "_law_cast"] "_law_good" (defScope (top 75)) (ga K "_law_good") cdv A outer s H E
  show XB _ J _ (defBody (top 75)) s_l_good
  exact (xb_cons (w_asg nd (xe_frz (w_call (ok_l_one_cast Z) (Z.g "_law_one_cast" (Z.c.fact 29 (f := .std (.glo "_law_one_cast")) rfl)) hr tk hK (w_sl (w_sl xa_nil)))))
    (xb_cons (w_asg nd (w_list (Z.f "list" (Z.c.fact 6 (f := .std (.free "list")) rfl)) w_v))
    (xb_cons (w_asg nd (w_call (ok_one_entry Z) (Z.g "one_entry" (Z.c.fact 30 (f := .std (.glo "one_entry")) rfl)) hr tk hK (w_sl (w_sl xa_nil))))
    (xb_cons (w_asg nd (xe_frz (w_stat (ok_Cast_entry Z) (stat_ok (Z.c.fact 44 (f := .stat "Cast" "entry") rfl)) (Z.g "Cast" (Z.c.fact 32 (f := .std (.glo "Cast")) rfl)) hr tk hK (w_sl (w_sl xa_nil)))))
    (xb_cons (xs_if (xw_or (t_ne hK (un64 hr) w_v w_v) (xw_or1 (xt_not (xt_tru hK (w_call (ok_l_is_list Z) (Z.g "_law_is_list" (Z.c.fact 21 (f := .std (.glo "_law_is_list")) rfl)) hr tk hK (w_sl (w_sl xa_nil))))))).xt (xb_one (xs_ret xe_bl)) xb_nil)
    (xb_cons (w_set xe_int w_v)
    (xb_cons (xs_expr (w_app xe_int))
    (xb_cons (xs_expr w_clear)
    (xb_cons (xs_if (xt_not (xt_tru hK (w_call (ok_l_is_list Z) (Z.g "_law_is_list" (Z.c.fact 21 (f := .std (.glo "_law_is_list")) rfl)) hr tk hK (xa_ex (w_call (ok_one_entry Z) (Z.g "one_entry" (Z.c.fact 30 (f := .std (.glo "one_entry")) rfl)) hr tk hK (w_sl (xa_ex (w_list (Z.f "list" (Z.c.fact 6 (f := .std (.free "list")) rfl)) w_v) xa_nil))) (w_sl xa_nil))))) (xb_one (xs_ret xe_bl)) xb_nil)
    (xb_cons (xs_if (xw_or (xt_not (xt_tru hK (w_call (ok_l_is_list Z) (Z.g "_law_is_list" (Z.c.fact 21 (f := .std (.glo "_law_is_list")) rfl)) hr tk hK (xa_ex (w_prop hK (z_cls (Z.c.fact 16 (f := .std (.cls "Cast")) rfl)) (prop_ok (Z.c.fact 18 (f := .prop "Cast" "heights") rfl)) (ok_Cast_heights Z) hr w_rsl) (w_sl xa_nil))))) (xw_or1 (xt_not (xt_tru hK (w_call (ok_l_is_list Z) (Z.g "_law_is_list" (Z.c.fact 21 (f := .std (.glo "_law_is_list")) rfl)) hr tk hK (xa_ex (w_prop hK (z_cls (Z.c.fact 16 (f := .std (.cls "Cast")) rfl)) (prop_ok (Z.c.fact 45 (f := .prop "Cast" "used") rfl)) (ok_Cast_used Z) hr w_rsl) (w_sl xa_nil))))))).xt (xb_one (xs_ret xe_bl)) xb_nil)
    (xb_cons (xs_if (xt_not (xt_tru hK (w_call (ok_l_is_list Z) (Z.g "_law_is_list" (Z.c.fact 21 (f := .std (.glo "_law_is_list")) rfl)) hr tk hK (xa_ex (xe_lst (xa_ex (w_prop hK (z_cls (Z.c.fact 16 (f := .std (.cls "Cast")) rfl)) (prop_ok (Z.c.fact 47 (f := .prop "Cast" "places") rfl)) (ok_Cast_places Z) hr w_rsl) (xa_ex (w_prop hK (z_cls (Z.c.fact 16 (f := .std (.cls "Cast")) rfl)) (prop_ok (Z.c.fact 46 (f := .prop "Cast" "balls") rfl)) (ok_Cast_balls Z) hr w_rsl) xa_nil))) (xa_ex (xe_lst (xa_ex w_v (xa_ex xe_int xa_nil))) xa_nil))))) (xb_one (xs_ret xe_bl)) xb_nil)
    (xb_one (xs_ret (w_call (ok_l_counts Z) (Z.g "_law_counts" (Z.c.fact 48 (f := .std (.glo "_law_counts")) rfl)) hr tk hK (w_sl (w_sl (w_sl (w_sl xa_nil))))))))))))))))))
theorem ok_l_good (Z : Fz fa fn K mg) : FnC P w K mg base 7 (ga K "_law_good") (spF K [.shr, .bor, .shr] true fn_l_good) := by
  obtain ⟨fd, F⟩ := Z.c.def_ ix_l_good (d := d_l_good) rfl
  exact ⟨⟨fd, ["_law_places", "_law_stands", "_law_far"], okf_l_good Z F, F.bindsN fun _ _ _ _ _ _ us hl => match us, hl with | [_, _, _], _ => rfl⟩, F.kp⟩
/-! _law_base(_law_places, _law_stands) -/
def h_l_base_0 : HSem := ⟨some 2, tabX ["BadStretch", "BadSize", "BadStands", "BadHeight", "Collision", "TooManyBalls"] [], fun k fs => (sRet (fIsX (List.contains (["BadStretch", "BadSize", "BadStands", "BadHeight", "Collision", "TooManyBalls"] : List Str) k)))⟩
def s_l_base : SemS := (sSeq (sTry (sExpr (fCall [.shr, .bor] true fn_one_entry (aSl 0 (aSl 1 aNil)))) [h_l_base_0])
    (sRet (fC (.bl false))))
def fn_l_base : Fn := runB [.shr, .bor] true 3 s_l_base
theorem sc_l_base : FnScope ["_law_places", "_law_stands", "e"] ["_law_places", "_law_stands"] (defScope (top 71)) := ⟨rfl, rfl, rfl, by decide +kernel, rfl, by decide +kernel, by decide +kernel⟩
theorem okf_l_base (Z : Fz fa fn K mg) {fd : FuncData} (F : FunD K d_l_base.name d_l_base.qual d_l_base.params d_l_base.body d_l_base.scope (d_l_base.dvs K) [] (d_l_base.ad K) fd) : FnOk P w K mg base (L2N.CX P w) 5 (ga K "_law_base") fd ["_law_places", "_law_stands"] (spF K [.shr, .bor] true fn_l_base) := by
  have nd := sc_l_base.nd
  refine fn_mv0 F sc_l_base rfl fun cdv A outer s H E J hK hfx hr => ?_
  have tk := @tk_cx P w K mg base ["_law_places", "_law_stands", "e"] "_law_base" (defScope (top 71)) (ga K "_law_base") cdv A outer s H E
  have po := @po_cx P w K mg base ["_law_places", "_law_stands", "e"] "_law_base" (defScope (top 71)) (ga K "_law_base") cdv A outer s H E
  show XB0 _ J _ (defBody (top 71)) s_l_base
  exact (xb0_cons (xs0_try (l := [(h_l_base_0, .ref (ga K "RollError"))]) rfl rfl nd tk hfx hK (fun W tp xe tk po => (xb_one (xs_expr (w_call (ok_one_entry Z) (Z.g "one_entry" (Z.c.fact 30 (f := .std (.glo "one_entry")) rfl)) hr tk hK (w_sl (w_sl xa_nil)))))) (.as (h := h_l_base_0) (c := .ref (ga K "RollError")) (names_own (Z.g "RollError" (Z.c.fact 49 (f := .std (.glo "RollError")) rfl))) rfl rfl rfl (tabX_ok (all_cons (z_exm (Z.c.fact 55 (f := .std (.exm "BadStretch" "RollError" true)) rfl)) (all_cons (z_exm (Z.c.fact 54 (f := .std (.exm "BadSize" "RollError" true)) rfl)) (all_cons (z_exm (Z.c.fact 53 (f := .std (.exm "BadStands" "RollError" true)) rfl)) (all_cons (z_exm (Z.c.fact 52 (f := .std (.exm "BadHeight" "RollError" true)) rfl)) (all_cons (z_exm (Z.c.fact 51 (f := .std (.exm "Collision" "RollError" true)) rfl)) (all_cons (z_exm (Z.c.fact 50 (f := .std (.exm "TooManyBalls" "RollError" true)) rfl)) all_nil)))))) all_nil) (fun a oe d pn J k fs hK hx er hz hf hm => by
        have hk := tabX_yes hm
        rcases List.mem_cons.mp hk with rfl | hk
        · exact (xb_one (xs_ret (xe_isx (b := true) hx hK er hz hf (xr_ok (Z.c.fact 58 (f := .xr "BadStretch") rfl)).2 (.ty "ValueError") (kiT_ok (Z.c.fact 57 (f := .kiT "BadStretch" "ValueError" true) rfl)) rfl (Z.f "isinstance" (Z.c.fact 7 (f := .std (.free "isinstance")) rfl)) (by decide +kernel) rfl (.inl rfl) (w_ty (Z.f "ValueError" (Z.c.fact 56 (f := .std (.free "ValueError")) rfl))))))
        rcases List.mem_cons.mp hk with rfl | hk
        · exact (xb_one (xs_ret (xe_isx (b := true) hx hK er hz hf (xr_ok (Z.c.fact 60 (f := .xr "BadSize") rfl)).2 (.ty "ValueError") (kiT_ok (Z.c.fact 59 (f := .kiT "BadSize" "ValueError" true) rfl)) rfl (Z.f "isinstance" (Z.c.fact 7 (f := .std (.free "isinstance")) rfl)) (by decide +kernel) rfl (.inl rfl) (w_ty (Z.f "ValueError" (Z.c.fact 56 (f := .std (.free "ValueError")) rfl))))))
        rcases List.mem_cons.mp hk with rfl | hk
        · exact (xb_one (xs_ret (xe_isx (b := true) hx hK er hz hf (xr_ok (Z.c.fact 62 (f := .xr "BadStands") rfl)).2 (.ty "ValueError") (kiT_ok (Z.c.fact 61 (f := .kiT "BadStands" "ValueError" true) rfl)) rfl (Z.f "isinstance" (Z.c.fact 7 (f := .std (.free "isinstance")) rfl)) (by decide +kernel) rfl (.inl rfl) (w_ty (Z.f "ValueError" (Z.c.fact 56 (f := .std (.free "ValueError")) rfl))))))
        rcases List.mem_cons.mp hk with rfl | hk
        · exact (xb_one (xs_ret (xe_isx (b := true) hx hK er hz hf (xr_ok (Z.c.fact 64 (f := .xr "BadHeight") rfl)).2 (.ty "ValueError") (kiT_ok (Z.c.fact 63 (f := .kiT "BadHeight" "ValueError" true) rfl)) rfl (Z.f "isinstance" (Z.c.fact 7 (f := .std (.free "isinstance")) rfl)) (by decide +kernel) rfl (.inl rfl) (w_ty (Z.f "ValueError" (Z.c.fact 56 (f := .std (.free "ValueError")) rfl))))))
        rcases List.mem_cons.mp hk with rfl | hk
        · exact (xb_one (xs_ret (xe_isx (b := true) hx hK er hz hf (xr_ok (Z.c.fact 66 (f := .xr "Collision") rfl)).2 (.ty "ValueError") (kiT_ok (Z.c.fact 65 (f := .kiT "Collision" "ValueError" true) rfl)) rfl (Z.f "isinstance" (Z.c.fact 7 (f := .std (.free "isinstance")) rfl)) (by decide +kernel) rfl (.inl rfl) (w_ty (Z.f "ValueError" (Z.c.fact 56 (f := .std (.free "ValueError")) rfl))))))
        rcases List.mem_cons.mp hk with rfl | hk
        · exact (xb_one (xs_ret (xe_isx (b := true) hx hK er hz hf (xr_ok (Z.c.fact 68 (f := .xr "TooManyBalls") rfl)).2 (.ty "ValueError") (kiT_ok (Z.c.fact 67 (f := .kiT "TooManyBalls" "ValueError" true) rfl)) rfl (Z.f "isinstance" (Z.c.fact 7 (f := .std (.free "isinstance")) rfl)) (by decide +kernel) rfl (.inl rfl) (w_ty (Z.f "ValueError" (Z.c.fact 56 (f := .std (.free "ValueError")) rfl))))))
        cases hk) .nil))
    (xb0_one (XS.to0 (xs_ret xe_bl))))
theorem ok_l_base (Z : Fz fa fn K mg) : FnC P w K mg base 5 (ga K "_law_base") (spF K [.shr, .bor] true fn_l_base) := by
  obtain ⟨fd, F⟩ := Z.c.def_ ix_l_base (d := d_l_base) rfl
  exact ⟨⟨fd, ["_law_places", "_law_stands"], okf_l_base Z F, F.bindsN fun _ _ _ _ _ _ us hl => match us, hl with | [_, _], _ => rfl⟩, F.kp⟩
/-! _law_sets(_law_state, _law_places, _law_many) -/
def s_l_sets : SemS := (sSeq (sAsg 3 (fFrz (fLst (aEx (fC (.int 1)) (aEx (fC (.int 3)) (aEx (fC (.int 7)) (aEx (fC (.int 15)) (aEx (fC (.int 31)) (aEx (fC (.int 63)) aNil)))))))))
    (sSeq (sAsg 4 (fLst aNil))
    (sSeq (sFor (iR1 (fVar 2)) (gNm 5) (sSeq (sAsg 6 (fFrz (fTwo false (fC (.int 1)) (fCall [.io, .bor] false fn_l_draw (aSl 0 (aEx (fTwo true (fVar 3) (fTwo true (fVar 1) (fC (.int 1)) (kS (gI fun i j => i - j))) kIx) aNil))) kAdd)))
    (sSeq (sAsg 7 (fLst aNil))
    (sSeq (sFor (iR1 (fVar 1)) (gNm 8) (sSeq (sIf (fTst (fTwo true (fTwo true (fOne (fVar 6) (kS1 gInt)) (fC (.int 2)) (kS (gIc cMod Int.fmod))) (fC (.int 1)) (kS gEq))) (sExpr (fApp 7 (fVar 8))) sNil)
    (sAsg 6 (fFrz (fTwo true (fOne (fVar 6) (kS1 gInt)) (fC (.int 2)) (kS (gIc cDiv Int.fdiv)))))))
    (sFz 7 (sExpr (fApp 4 (fVar 7))))))))
    (sRet (fMv 4)))))
def fn_l_sets : Fn := runB [.io, .bor, .bor] true 9 s_l_sets
theorem sc_l_sets : FnScope ["_law_state", "_law_places", "_law_many", "_law_codes", "_law_sets_here", "_law_number", "_law_code", "_law_stands", "_law_place"] ["_law_state", "_law_places", "_law_many"] (defScope (top 63)) := ⟨rfl, rfl, rfl, by decide +kernel, rfl, by decide +kernel, by decide +kernel⟩
theorem okf_l_sets (Z : Fz fa fn K mg) {fd : FuncData} (F : FunD K d_l_sets.name d_l_sets.qual d_l_sets.params d_l_sets.body d_l_sets.scope (d_l_sets.dvs K) [] (d_l_sets.ad K) fd) : FnOk P w K mg base (L2N.CX P w) 2 (ga K "_law_sets") fd ["_law_state", "_law_places", "_law_many"] (spF K [.io, .bor, .bor] true fn_l_sets) := by
  have nd := sc_l_sets.nd
  refine fn_mv F sc_l_sets rfl fun cdv A outer s H E J hK hfx hr => ?_
  have tk := @tk_cx P w K mg base ["_law_state", "_law_places", "_law_many", "_law_codes", "_law_sets_here", "_law_number", "_law_code", "_law_stands", "_law_place"] "_law_sets" (defScope (top 63)) (ga K "_law_sets") cdv A outer s H E
  have po := @po_cx P w K mg base ["_law_state", "_law_places", "_law_many", "_law_codes", "_law_sets_here", "_law_number", "_law_code", "_law_stands", "_law_place"] "_law_sets" (defScope (top 63)) (ga K "_law_sets") cdv A outer s H E
  show XB _ J _ (defBody (top 63)) s_l_sets
  exact (xb_cons (w_asg nd (xe_frz (xe_lst (xa_ex xe_int (xa_ex xe_int (xa_ex xe_int (xa_ex xe_int (xa_ex xe_int (xa_ex xe_int xa_nil)))))))))
    (xb_cons (w_asg nd (xe_lst xa_nil))
    (xb_cons (w_for po (w_r1 (Z.f "range" (Z.c.fact 4 (f := .std (.free "range")) rfl)) w_v) w_gn (xb_cons (w_asg nd (xe_frz (xe_add xe_int (w_call (ok_l_draw Z) (Z.g "_law_draw" (Z.c.fact 3 (f := .std (.glo "_law_draw")) rfl)) hr tk hK (w_sl (xa_ex (xe_idx w_v (xe_sub w_v xe_int)) xa_nil))))))
    (xb_cons (w_asg nd (xe_lst xa_nil))
    (xb_cons (w_for po (w_r1 (Z.f "range" (Z.c.fact 4 (f := .std (.free "range")) rfl)) w_v) w_gn (xb_cons (xs_if (t_eq hK (un64 hr) (xe_mod (w_int (Z.f "int" (Z.c.fact 0 (f := .std (.free "int")) rfl)) w_v) xe_int) xe_int) (xb_one (xs_expr (w_app w_v))) xb_nil)
    (xb_one (w_asg nd (xe_frz (xe_fdiv (w_int (Z.f "int" (Z.c.fact 0 (f := .std (.free "int")) rfl)) w_v) xe_int))))))
    (xb_one (xs_fz (xs_expr (w_app w_v))))))))
    (xb_one (xs_ret w_mv)))))
theorem ok_l_sets (Z : Fz fa fn K mg) : FnC P w K mg base 2 (ga K "_law_sets") (spF K [.io, .bor, .bor] true fn_l_sets) := by
  obtain ⟨fd, F⟩ := Z.c.def_ ix_l_sets (d := d_l_sets) rfl
  exact ⟨⟨fd, ["_law_state", "_law_places", "_law_many"], okf_l_sets Z F, F.bindsN fun _ _ _ _ _ _ us hl => match us, hl with | [_, _, _], _ => rfl⟩, F.kp⟩
/-! _law_row(_law_word, _law_fields, _law_other) -/
def s_l_row : SemS := (sSeq (sIf (fOr (fTru (fVar 2)) (fTst (fTwo true (fLc false [3] (iSrc (fVar 1) kItL) (gNm 3) (fNot (fTru (fCall [.bor] true fn_l_whole (aSl 3 aNil)))) (fVar 3)) (fLst aNil) (kS gNe)))) (sRet (fLst (aEx (fC (.str "odd")) aNil))) sNil)
    (sRet (fTwo true (fLst (aEx (fVar 0) aNil)) (fVar 1) kAdd)))
def fn_l_row : Fn := runB [.shr, .bor, .bor] true 4 s_l_row
theorem sc_l_row : FnScope ["_law_word", "_law_fields", "_law_other", "_law_field"] ["_law_word", "_law_fields", "_law_other"] (defScope (top 69)) := ⟨rfl, rfl, rfl, by decide +kernel, rfl, by decide +kernel, by decide +kernel⟩
theorem okf_l_row (Z : Fz fa fn K mg) {fd : FuncData} (F : FunD K d_l_row.name d_l_row.qual d_l_row.params d_l_row.body d_l_row.scope (d_l_row.dvs K) [] (d_l_row.ad K) fd) : FnOk P w K mg base (L2N.CX P w) 2 (ga K "_law_row") fd ["_law_word", "_law_fields", "_law_other"] (spF K [.shr, .bor, .bor] true fn_l_row) := by
  have nd := sc_l_row.nd
  refine fn_mv F sc_l_row rfl fun cdv A outer s H E J hK hfx hr => ?_
  have tk := @tk_cx P w K mg base ["_law_word", "_law_fields", "_law_other", "_law_field"] "_law_row" (defScope (top 69)) (ga K "_law_row") cdv A outer s H E
  have po := @po_cx P w K mg base ["_law_word", "_law_fields", "_law_other", "_law_field"] "_law_row" (defScope (top 69)) (ga K "_law_row") cdv A outer s H E
  show XB _ J _ (defBody (top 69)) s_l_row
  exact (xb_cons (xs_if (xw_or (xt_tru hK w_v) (xw_or1 (t_ne hK (un64 hr) (w_lc nd (own := [("_law_field", 3)]) (ok := (⟨rfl, by decide +kernel, by decide +kernel, by decide +kernel, by decide +kernel⟩ : BlkOk ["_law_word", "_law_fields", "_law_other", "_law_field"] (defScope (top 69)) _ [("_law_field", 3)])) (xi_list w_v) (fun _ _ _ _ _ => w_gn) (fun _ _ _ _ _ => (xps_one (xt_not (xt_tru hK (w_call (ok_l_whole Z) (Z.g "_law_whole" (Z.c.fact 9 (f := .std (.glo "_law_whole")) rfl)) hr takes_none5 hK (w_sl xa_nil)))))) (fun _ _ _ _ _ => w_v)) (xe_lst xa_nil)))).xt (xb_one (xs_ret (xe_lst (xa_ex xe_str xa_nil)))) xb_nil)
    (xb_one (xs_ret (xe_add (xe_lst (xa_ex w_v xa_nil)) w_v))))
theorem ok_l_row (Z : Fz fa fn K mg) : FnC P w K mg base 2 (ga K "_law_row") (spF K [.shr, .bor, .bor] true fn_l_row) := by
  obtain ⟨fd, F⟩ := Z.c.def_ ix_l_row (d := d_l_row) rfl
  exact ⟨⟨fd, ["_law_word", "_law_fields", "_law_other"], okf_l_row Z F, F.bindsN fun _ _ _ _ _ _ us hl => match us, hl with | [_, _, _], _ => rfl⟩, F.kp⟩
theorem okfh_l_row (Z : Fz fa fn K mg) {fd : FuncData} (F : FunD K d_l_row.name d_l_row.qual d_l_row.params d_l_row.body d_l_row.scope (d_l_row.dvs K) [] (d_l_row.ad K) fd) : L2H.FnH P w K mg base (L2N.CX P w) 2 (ga K "_law_row") fd ["_law_word", "_law_fields", "_law_other"] (spF K [.shr, .bor, .bor] true fn_l_row) := by
  have nd := sc_l_row.nd
  refine fn_mvH F sc_l_row rfl fun cdv A outer s H E p J hK hfx hr hot => ?_
  have tk := @tk_cxH P w K mg base ["_law_word", "_law_fields", "_law_other", "_law_field"] "_law_row" (defScope (top 69)) (ga K "_law_row") cdv A outer s H E p
  show XB _ J _ (defBody (top 69)) s_l_row
  exact (xb_cons (xs_if (xw_or (xt_tru hK w_v) (xw_or1 (t_ne hK (un64H hr) (h_lc hot nd (own := [("_law_field", 3)]) (ok := (⟨rfl, by decide +kernel, by decide +kernel, by decide +kernel, by decide +kernel⟩ : BlkOk ["_law_word", "_law_fields", "_law_other", "_law_field"] (defScope (top 69)) _ [("_law_field", 3)])) (h_list w_v) (fun _ _ _ _ _ p hp => w_gn) (fun _ _ _ _ _ p hp => (xps_one (xt_not (xt_tru hK (h_call (okh_l_whole Z) (Z.g "_law_whole" (Z.c.fact 9 (f := .std (.glo "_law_whole")) rfl)) (blkH_hot hp) hr takes_none5 hK (w_sl xa_nil)))))) (fun _ _ _ _ _ p hp => w_v)) (xe_lst xa_nil)))).xt (xb_one (xs_ret (xe_lst (xa_ex xe_str xa_nil)))) xb_nil)
    (xb_one (xs_ret (xe_add (xe_lst (xa_ex w_v xa_nil)) w_v))))
theorem okh_l_row (Z : Fz fa fn K mg) : FnCH P w K mg base 2 (ga K "_law_row") (spF K [.shr, .bor, .bor] true fn_l_row) := by
  obtain ⟨fd, F⟩ := Z.c.def_ ix_l_row (d := d_l_row) rfl
  exact ⟨⟨fd, ["_law_word", "_law_fields", "_law_other"], okfh_l_row Z F, F.bindsN fun _ _ _ _ _ _ us hl => match us, hl with | [_, _, _], _ => rfl⟩, F.kp⟩
/-! _law_outcome(_law_places, _law_stands, _law_beside) -/
def h_l_outcome_0 : HSem := ⟨some 3, tabX ["BadSize"] ["BadStretch", "BadStands", "BadHeight", "Collision", "TooManyBalls"], fun k fs => (sSeq (sAsg 4 (fFrz (fIsX (List.contains ([] : List Str) k))))
    (sRet (fCall [.shr, .bor, .bor] true fn_l_row (aEx (fC (.str "size")) (aEx (fLst (aEx (fXf fs "size") aNil)) (aSl 4 aNil))))))⟩
def h_l_outcome_1 : HSem := ⟨some 3, tabX ["BadStands"] ["BadStretch", "BadSize", "BadHeight", "Collision", "TooManyBalls"], fun k fs => (sSeq (sAsg 4 (fFrz (fIsX (List.contains ([] : List Str) k))))
    (sRet (fCall [.shr, .bor, .bor] true fn_l_row (aEx (fC (.str "stands")) (aEx (fLst (aEx (fXf fs "index") aNil)) (aSl 4 aNil))))))⟩
def s_l_outcome : SemS := (sSeq (sTry (sIf (fTru (fVar 2)) (sExpr (fCall [.shr, .bor] true fn_Cast_entry (aSl 0 (aSl 1 aNil)))) (sExpr (fCall [.shr, .bor] true fn_one_entry (aSl 0 (aSl 1 aNil))))) [h_l_outcome_0, h_l_outcome_1])
    (sRet (fLst aNil)))
def fn_l_outcome : Fn := runB [.shr, .bor, .bor] true 5 s_l_outcome
theorem sc_l_outcome : FnScope ["_law_places", "_law_stands", "_law_beside", "e", "_law_other"] ["_law_places", "_law_stands", "_law_beside"] (defScope (top 70)) := ⟨rfl, rfl, rfl, by decide +kernel, rfl, by decide +kernel, by decide +kernel⟩
theorem okf_l_outcome (Z : Fz fa fn K mg) {fd : FuncData} (F : FunD K d_l_outcome.name d_l_outcome.qual d_l_outcome.params d_l_outcome.body d_l_outcome.scope (d_l_outcome.dvs K) [] (d_l_outcome.ad K) fd) : FnOk P w K mg base (L2N.CX P w) 6 (ga K "_law_outcome") fd ["_law_places", "_law_stands", "_law_beside"] (spF K [.shr, .bor, .bor] true fn_l_outcome) := by
  have nd := sc_l_outcome.nd
  refine fn_mv0 F sc_l_outcome rfl fun cdv A outer s H E J hK hfx hr => ?_
  have tk := @tk_cx P w K mg base ["_law_places", "_law_stands", "_law_beside", "e", "_law_other"] "_law_outcome" (defScope (top 70)) (ga K "_law_outcome") cdv A outer s H E
  have po := @po_cx P w K mg base ["_law_places", "_law_stands", "_law_beside", "e", "_law_other"] "_law_outcome" (defScope (top 70)) (ga K "_law_outcome") cdv A outer s H E
  show XB0 _ J _ (defBody (top 70)) s_l_outcome
  exact (xb0_cons (xs0_try (l := [(h_l_outcome_0, .ref (ga K "BadSize")), (h_l_outcome_1, .ref (ga K "BadStands"))]) rfl rfl nd tk hfx hK (fun W tp xe tk po => (xb_one (xs_if (xt_tru hK w_v) (xb_one (xs_expr (w_stat (ok_Cast_entry Z) (stat_ok (Z.c.fact 44 (f := .stat "Cast" "entry") rfl)) (Z.g "Cast" (Z.c.fact 32 (f := .std (.glo "Cast")) rfl)) hr tk hK (w_sl (w_sl xa_nil))))) (xb_one (xs_expr (w_call (ok_one_entry Z) (Z.g "one_entry" (Z.c.fact 30 (f := .std (.glo "one_entry")) rfl)) hr tk hK (w_sl (w_sl xa_nil)))))))) (.as (h := h_l_outcome_0) (c := .ref (ga K "BadSize")) (names_own (Z.g "BadSize" (Z.c.fact 24 (f := .std (.glo "BadSize")) rfl))) rfl rfl rfl (tabX_ok (all_cons (z_exm (Z.c.fact 69 (f := .std (.exm "BadSize" "BadSize" true)) rfl)) all_nil) (all_cons (z_exm (Z.c.fact 74 (f := .std (.exm "BadStretch" "BadSize" false)) rfl)) (all_cons (z_exm (Z.c.fact 73 (f := .std (.exm "BadStands" "BadSize" false)) rfl)) (all_cons (z_exm (Z.c.fact 72 (f := .std (.exm "BadHeight" "BadSize" false)) rfl)) (all_cons (z_exm (Z.c.fact 71 (f := .std (.exm "Collision" "BadSize" false)) rfl)) (all_cons (z_exm (Z.c.fact 70 (f := .std (.exm "TooManyBalls" "BadSize" false)) rfl)) all_nil)))))) (fun a oe d pn J k fs hK hx er hz hf hm => by
        have hk := tabX_yes hm
        rcases List.mem_cons.mp hk with rfl | hk
        · exact (xb_cons (w_asg nd (xe_frz (xe_isxT (b := false) (vs := [V.ref (ga K "BadHeight"), V.ref (ga K "BadNumber"), V.ref (ga K "BadStands"), V.ref (ga K "Full"), V.ref (ga K "TooManyBalls")]) (us := [.ref (ga K "BadHeight"), .ref (ga K "BadNumber"), .ref (ga K "BadStands"), .ref (ga K "Full"), .ref (ga K "TooManyBalls")]) hx hK er hz hf (xr_ok (Z.c.fact 60 (f := .xr "BadSize") rfl)).2 (Nat.le_of_ble_eq_true rfl) (kitAny_l (K := K) [(.ref (ga K "BadHeight"), false), (.ref (ga K "BadNumber"), false), (.ref (ga K "BadStands"), false), (.ref (ga K "Full"), false), (.ref (ga K "TooManyBalls"), false)] (kp_cons (kit_ok (Z.c.fact 75 (f := .kit "BadSize" "BadHeight" false) rfl)) (kp_cons (kit_ok (Z.c.fact 77 (f := .kit "BadSize" "BadNumber" false) rfl)) (kp_cons (kit_ok (Z.c.fact 78 (f := .kit "BadSize" "BadStands" false) rfl)) (kp_cons (kit_ok (Z.c.fact 80 (f := .kit "BadSize" "Full" false) rfl)) (kp_cons (kit_ok (Z.c.fact 81 (f := .kit "BadSize" "TooManyBalls" false) rfl)) kp_nil)))))) rfl (Z.f "isinstance" (Z.c.fact 7 (f := .std (.free "isinstance")) rfl)) (by decide +kernel) rfl (.inl rfl) (.cons (pe_glob rfl (Z.g "BadHeight" (Z.c.fact 35 (f := .std (.glo "BadHeight")) rfl)) (v := .ref (ga K "BadHeight")) rfl) (.own (ga K "BadHeight")) (.cons (pe_glob rfl (Z.g "BadNumber" (Z.c.fact 76 (f := .std (.glo "BadNumber")) rfl)) (v := .ref (ga K "BadNumber")) rfl) (.own (ga K "BadNumber")) (.cons (pe_glob rfl (Z.g "BadStands" (Z.c.fact 26 (f := .std (.glo "BadStands")) rfl)) (v := .ref (ga K "BadStands")) rfl) (.own (ga K "BadStands")) (.cons (pe_glob rfl (Z.g "Full" (Z.c.fact 79 (f := .std (.glo "Full")) rfl)) (v := .ref (ga K "Full")) rfl) (.own (ga K "Full")) (.cons (pe_glob rfl (Z.g "TooManyBalls" (Z.c.fact 41 (f := .std (.glo "TooManyBalls")) rfl)) (v := .ref (ga K "TooManyBalls")) rfl) (.own (ga K "TooManyBalls")) .nil))))))))
    (xb_one (xs_ret (h_call (okh_l_row Z) (Z.g "_law_row" (Z.c.fact 82 (f := .std (.glo "_law_row")) rfl)) (suite_hot hz hf) (suite_room hr) takes_none5 hK (xa_ex xe_str (xa_ex (xe_lst (xa_ex (xe_xf hK hx er hz hf (xr_ok (Z.c.fact 60 (f := .xr "BadSize") rfl)).1 ((xc_ok (Z.c.fact 23 (f := .xc "BadSize" ["size"]) rfl)).2.1 "size" (by decide)) rfl (.inl rfl)) xa_nil)) (w_sl xa_nil)))))))
        cases hk) (.as (h := h_l_outcome_1) (c := .ref (ga K "BadStands")) (names_own (Z.g "BadStands" (Z.c.fact 26 (f := .std (.glo "BadStands")) rfl))) rfl rfl rfl (tabX_ok (all_cons (z_exm (Z.c.fact 83 (f := .std (.exm "BadStands" "BadStands" true)) rfl)) all_nil) (all_cons (z_exm (Z.c.fact 88 (f := .std (.exm "BadStretch" "BadStands" false)) rfl)) (all_cons (z_exm (Z.c.fact 87 (f := .std (.exm "BadSize" "BadStands" false)) rfl)) (all_cons (z_exm (Z.c.fact 86 (f := .std (.exm "BadHeight" "BadStands" false)) rfl)) (all_cons (z_exm (Z.c.fact 85 (f := .std (.exm "Collision" "BadStands" false)) rfl)) (all_cons (z_exm (Z.c.fact 84 (f := .std (.exm "TooManyBalls" "BadStands" false)) rfl)) all_nil)))))) (fun a oe d pn J k fs hK hx er hz hf hm => by
        have hk := tabX_yes hm
        rcases List.mem_cons.mp hk with rfl | hk
        · exact (xb_cons (w_asg nd (xe_frz (xe_isxT (b := false) (vs := [V.ref (ga K "BadHeight"), V.ref (ga K "BadJoins"), V.ref (ga K "BadNumber"), V.ref (ga K "BadPage"), V.ref (ga K "BadSigns"), V.ref (ga K "BadSize")]) (us := [.ref (ga K "BadHeight"), .ref (ga K "BadJoins"), .ref (ga K "BadNumber"), .ref (ga K "BadPage"), .ref (ga K "BadSigns"), .ref (ga K "BadSize")]) hx hK er hz hf (xr_ok (Z.c.fact 62 (f := .xr "BadStands") rfl)).2 (Nat.le_of_ble_eq_true rfl) (kitAny_l (K := K) [(.ref (ga K "BadHeight"), false), (.ref (ga K "BadJoins"), false), (.ref (ga K "BadNumber"), false), (.ref (ga K "BadPage"), false), (.ref (ga K "BadSigns"), false), (.ref (ga K "BadSize"), false)] (kp_cons (kit_ok (Z.c.fact 89 (f := .kit "BadStands" "BadHeight" false) rfl)) (kp_cons (kit_ok (Z.c.fact 91 (f := .kit "BadStands" "BadJoins" false) rfl)) (kp_cons (kit_ok (Z.c.fact 92 (f := .kit "BadStands" "BadNumber" false) rfl)) (kp_cons (kit_ok (Z.c.fact 94 (f := .kit "BadStands" "BadPage" false) rfl)) (kp_cons (kit_ok (Z.c.fact 96 (f := .kit "BadStands" "BadSigns" false) rfl)) (kp_cons (kit_ok (Z.c.fact 97 (f := .kit "BadStands" "BadSize" false) rfl)) kp_nil))))))) rfl (Z.f "isinstance" (Z.c.fact 7 (f := .std (.free "isinstance")) rfl)) (by decide +kernel) rfl (.inl rfl) (.cons (pe_glob rfl (Z.g "BadHeight" (Z.c.fact 35 (f := .std (.glo "BadHeight")) rfl)) (v := .ref (ga K "BadHeight")) rfl) (.own (ga K "BadHeight")) (.cons (pe_glob rfl (Z.g "BadJoins" (Z.c.fact 90 (f := .std (.glo "BadJoins")) rfl)) (v := .ref (ga K "BadJoins")) rfl) (.own (ga K "BadJoins")) (.cons (pe_glob rfl (Z.g "BadNumber" (Z.c.fact 76 (f := .std (.glo "BadNumber")) rfl)) (v := .ref (ga K "BadNumber")) rfl) (.own (ga K "BadNumber")) (.cons (pe_glob rfl (Z.g "BadPage" (Z.c.fact 93 (f := .std (.glo "BadPage")) rfl)) (v := .ref (ga K "BadPage")) rfl) (.own (ga K "BadPage")) (.cons (pe_glob rfl (Z.g "BadSigns" (Z.c.fact 95 (f := .std (.glo "BadSigns")) rfl)) (v := .ref (ga K "BadSigns")) rfl) (.own (ga K "BadSigns")) (.cons (pe_glob rfl (Z.g "BadSize" (Z.c.fact 24 (f := .std (.glo "BadSize")) rfl)) (v := .ref (ga K "BadSize")) rfl) (.own (ga K "BadSize")) .nil)))))))))
    (xb_one (xs_ret (h_call (okh_l_row Z) (Z.g "_law_row" (Z.c.fact 82 (f := .std (.glo "_law_row")) rfl)) (suite_hot hz hf) (suite_room hr) takes_none5 hK (xa_ex xe_str (xa_ex (xe_lst (xa_ex (xe_xf hK hx er hz hf (xr_ok (Z.c.fact 62 (f := .xr "BadStands") rfl)).1 ((xc_ok (Z.c.fact 25 (f := .xc "BadStands" ["index"]) rfl)).2.1 "index" (by decide)) rfl (.inl rfl)) xa_nil)) (w_sl xa_nil)))))))
        cases hk) .nil)))
    (xb0_one (XS.to0 (xs_ret (xe_lst xa_nil)))))
theorem ok_l_outcome (Z : Fz fa fn K mg) : FnC P w K mg base 6 (ga K "_law_outcome") (spF K [.shr, .bor, .bor] true fn_l_outcome) := by
  obtain ⟨fd, F⟩ := Z.c.def_ ix_l_outcome (d := d_l_outcome) rfl
  exact ⟨⟨fd, ["_law_places", "_law_stands", "_law_beside"], okf_l_outcome Z F, F.bindsN fun _ _ _ _ _ _ us hl => match us, hl with | [_, _, _], _ => rfl⟩, F.kp⟩
/-! check_balls(balls) -/
def s_check_balls : SemS := (sIf (fNot (fTst (fChain bLe bLe (fC (.int 0)) (fVar 0) (fC (.int 16))))) (sRaise "BadSize" ["size"] (aSl 0 aNil)) sNil)
def fn_check_balls : Fn := runB [.shr] true 1 s_check_balls
theorem sc_check_balls : FnScope ["balls"] ["balls"] (defScope (top 22)) := ⟨rfl, rfl, rfl, by decide +kernel, rfl, by decide +kernel, by decide +kernel⟩
theorem okf_check_balls (Z : Fz fa fn K mg) {fd : FuncData} (F : FunD K d_check_balls.name d_check_balls.qual d_check_balls.params d_check_balls.body d_check_balls.scope (d_check_balls.dvs K) [] (d_check_balls.ad K) fd) : FnOk P w K mg base (L2N.CX P w) 3 (ga K "check_balls") fd ["balls"] (spF K [.shr] true fn_check_balls) := by
  have nd := sc_check_balls.nd
  refine fn_mv F sc_check_balls rfl fun cdv A outer s H E J hK hfx hr => ?_
  have tk := @tk_cx P w K mg base ["balls"] "check_balls" (defScope (top 22)) (ga K "check_balls") cdv A outer s H E
  have po := @po_cx P w K mg base ["balls"] "check_balls" (defScope (top 22)) (ga K "check_balls") cdv A outer s H E
  show XB _ J _ (defBody (top 22)) s_check_balls
  exact (xb_one (xs_if (xt_not (xt_chain op_le op_le xe_int w_v (w_gi (Z.i "MOST_BALLS" 16 (Z.c.fact 101 (f := .std (.int "MOST_BALLS" 16)) rfl))))) (xb_one (w_raise (xc_ok (Z.c.fact 23 (f := .xc "BadSize" ["size"]) rfl)) (okx_BadSize Z) (Z.g "BadSize" (Z.c.fact 24 (f := .std (.glo "BadSize")) rfl)) hr tk hK (w_sl xa_nil))) xb_nil))
theorem ok_check_balls (Z : Fz fa fn K mg) : FnC P w K mg base 3 (ga K "check_balls") (spF K [.shr] true fn_check_balls) := by
  obtain ⟨fd, F⟩ := Z.c.def_ ix_check_balls (d := d_check_balls) rfl
  exact ⟨⟨fd, ["balls"], okf_check_balls Z F, F.bindsN fun _ _ _ _ _ _ us hl => match us, hl with | [_], _ => rfl⟩, F.kp⟩
/-! Cast.single(places, place, balls) -/
def s_Cast_single : SemS := (sSeq (sExpr (fCall [.shr] true fn_check_places (aSl 0 aNil)))
    (sSeq (sIf (fNot (fTst (fChain bLe bLt (fC (.int 0)) (fVar 1) (fVar 0)))) (sRaise "BadNumber" ["number"] (aSl 1 aNil)) sNil)
    (sSeq (sExpr (fCall [.shr] true fn_check_balls (aSl 2 aNil)))
    (sRet (fMake "Cast" [.bor] fn_Cast___init__ (aEx (fLc true [3] (iR1 (fVar 0)) (gNm 3) bYes (fFrz (fIf (fTst (fTwo true (fVar 3) (fVar 1) (kS gEq))) (fTwo true (fVar 2) (fVar 0) kMul) (fC (.int 0))))) aNil))))))
def fn_Cast_single : Fn := runB [.shr, .shr, .shr] true 4 s_Cast_single
theorem sc_Cast_single : FnScope ["places", "place", "balls", "other"] ["places", "place", "balls"] (defScope (inClass (top 57) 5)) := ⟨rfl, rfl, rfl, by decide +kernel, rfl, by decide +kernel, by decide +kernel⟩
theorem okf_Cast_single (Z : Fz fa fn K mg) {fd : FuncData} (F : FunD K d_Cast_single.name d_Cast_single.qual d_Cast_single.params d_Cast_single.body d_Cast_single.scope (d_Cast_single.dvs K) [] (d_Cast_single.ad K) fd) : FnOk P w K mg base (L2N.CX P w) 5 (recAt "staticmethod" K "Cast" "single") fd ["places", "place", "balls"] (spF K [.shr, .shr, .shr] true fn_Cast_single) := by
  have nd := sc_Cast_single.nd
  refine fn_mv F sc_Cast_single rfl fun cdv A outer s H E J hK hfx hr => ?_
  have tk := @tk_cx P w K mg base ["places", "place", "balls", "other"] "Cast.single" (defScope (inClass (top 57) 5)) (recAt "staticmethod" K "Cast" "single") cdv A outer s H E
  have po := @po_cx P w K mg base ["places", "place", "balls", "other"] "Cast.single" (defScope (inClass (top 57) 5)) (recAt "staticmethod" K "Cast" "single") cdv A outer s H E
  show XB _ J _ (defBody (inClass (top 57) 5)) s_Cast_single
  exact (xb_cons (xs_expr (w_call (ok_check_places Z) (Z.g "check_places" (Z.c.fact 27 (f := .std (.glo "check_places")) rfl)) hr tk hK (w_sl xa_nil)))
    (xb_cons (xs_if (xt_not (xt_chain op_le op_lt xe_int w_v w_v)) (xb_one (w_raise (xc_ok (Z.c.fact 102 (f := .xc "BadNumber" ["number"]) rfl)) (okx_BadNumber Z) (Z.g "BadNumber" (Z.c.fact 76 (f := .std (.glo "BadNumber")) rfl)) hr tk hK (w_sl xa_nil))) xb_nil)
    (xb_cons (xs_expr (w_call (ok_check_balls Z) (Z.g "check_balls" (Z.c.fact 103 (f := .std (.glo "check_balls")) rfl)) hr tk hK (w_sl xa_nil)))
    (xb_one (xs_ret (w_make (ok_Cast___init__ Z) (z_mkr (Z.c.fact 43 (f := .std (.mkr "Cast")) rfl)) (Z.g "Cast" (Z.c.fact 32 (f := .std (.glo "Cast")) rfl)) hr tk hK (xa_ex (w_lc nd (own := [("other", 3)]) (ok := (⟨rfl, by decide +kernel, by decide +kernel, by decide +kernel, by decide +kernel⟩ : BlkOk ["places", "place", "balls", "other"] (defScope (inClass (top 57) 5)) _ [("other", 3)])) (w_r1 (Z.f "range" (Z.c.fact 4 (f := .std (.free "range")) rfl)) w_v) (fun _ _ _ _ _ => w_gn) (fun _ _ _ _ _ => xps_nil) (fun _ _ _ _ _ => (xe_frz (xe_if (t_eq hK (un64 hr) w_v w_v) (xe_mul w_v w_v) xe_int)))) xa_nil)))))))
theorem ok_Cast_single (Z : Fz fa fn K mg) : FnC P w K mg base 5 (recAt "staticmethod" K "Cast" "single") (spF K [.shr, .shr, .shr] true fn_Cast_single) := by
  obtain ⟨fd, F⟩ := Z.c.def_ ix_Cast_single (d := d_Cast_single) rfl
  exact ⟨⟨fd, ["places", "place", "balls"], okf_Cast_single Z F, F.bindsN fun _ _ _ _ _ _ us hl => match us, hl with | [_, _, _], _ => rfl⟩, F.kp⟩
/-! law(_law_script) -/
def s_law : SemS := (sSeq (sAsg 1 (fCall [.bor] true fn_l_begin (aSl 0 aNil)))
    (sSeq (sAsg 2 (fTwo false (fLst (aEx (fC (.int 3)) (aEx (fC (.int 2)) (aEx (fC (.int 4)) (aEx (fC (.int 1)) (aEx (fC (.int 5)) (aEx (fC (.int 6)) aNil))))))) (fCall [.io, .bor] false fn_l_draw (aSl 1 (aEx (fC (.int 6)) aNil))) kIx))
    (sSeq (sAsg 3 (fFrz (fCall [.io, .shr, .bor] true fn_l_spoilt (aSl 1 (aSl 2 (aEx (fTwo true (fCall [.io, .bor, .bor] true fn_l_sets (aSl 1 (aSl 2 (aEx (fC (.int 1)) aNil)))) (fC (.int 0)) kIx) aNil))))))
    (sSeq (sAsg 4 (fFrz (fCall [.io, .bor] false fn_l_draw (aSl 1 (aSl 2 aNil)))))
    (sSeq (sAsg 5 (fFrz (fTwo true (fCall [.io, .bor] false fn_l_draw (aSl 1 (aEx (fC (.int 1961)) aNil))) (fC (.int 1000)) (kS (gI fun i j => i - j)))))
    (sSeq (sAsg 6 (fFrz (fCall [.shr, .shr, .shr] true fn_Cast_single (aSl 2 (aSl 4 (aEx (fC (.int 1)) aNil))))))
    (sSeq (sIf (fNot (fTru (fCall [.bor, .bor] true fn_l_is_list (aEx (fProp "Cast" "heights" true fn_Cast_heights (rSl 6)) (aEx (fCall [.bor, .bor] true fn_l_one_cast (aSl 2 (aEx (fLst (aEx (fVar 4) aNil)) aNil))) aNil))))) (sRet (fC (.bl false))) sNil)
    (sSeq (sIf (fNot (fTru (fCall [.bor, .bor, .bor, .shr] true fn_l_counts (aSl 6 (aSl 2 (aEx (fLst (aEx (fVar 4) aNil)) (aSl 5 aNil))))))) (sRet (fC (.bl false))) sNil)
    (sSeq (sIf (fTst (fTwo true (fCall [.io, .bor] false fn_l_draw (aSl 1 (aEx (fC (.int 8)) aNil))) (fC (.int 7)) (kS gEq))) (sAsg 2 (fTwo false (fLst (aEx (fC (.int 0)) (aEx (fC (.int 7)) (aEx (fOne (fC (.int 1)) (kS1 gNeg)) (aEx (fC (.int 8)) (aEx (fOne (fC (.int 1000)) (kS1 gNeg)) (aEx (fC (.int 1000)) aNil))))))) (fCall [.io, .bor] false fn_l_draw (aSl 1 (aEx (fC (.int 6)) aNil))) kIx)) sNil)
    (sSeq (sAsg 7 (fFrz (fCall [.shr, .bor] true fn_l_reason (aSl 2 (aSl 3 aNil)))))
    (sSeq (sFor (iSrc (fLst (aEx (fC (.bl false)) (aEx (fC (.bl true)) aNil))) kItL) (gNm 8) (sSeq (sAsg 9 (fFrz (fOne (fVar 3) kListOf)))
    (sIf (fOr (fTst (fTwo true (fCall [.shr, .bor, .bor] true fn_l_outcome (aSl 2 (aSl 9 (aSl 8 aNil)))) (fVar 7) (kS gNe))) (fTst (fTwo true (fVar 9) (fVar 3) (kS gNe)))) (sRet (fC (.bl false))) sNil)))
    (sSeq (sIf (fTst (fTwo true (fVar 7) (fLst aNil) (kS gEq))) (sRet (fCall [.shr, .bor, .shr] true fn_l_good (aSl 2 (aSl 3 (aSl 5 aNil))))) sNil)
    (sRet (fAndV (fCall [.shr, .bor] true fn_l_base (aSl 2 (aEx (fOne (fVar 3) kListOf) aNil))) (fCall [.shr, .bor, .shr] true fn_l_good (aEx (fC (.int 4)) (aEx (fLst (aEx (fC (.int 1)) (aEx (fC (.int 3)) aNil))) (aSl 5 aNil))))))))))))))))))
def fn_law : Fn := runB [.bor] true 10 s_law
theorem sc_law : FnScope ["_law_script", "_law_state", "_law_places", "_law_stands", "_law_spot", "_law_far", "_law_single", "_law_due", "_law_beside", "_law_given"] ["_law_script"] (defScope (top 76)) := ⟨rfl, rfl, rfl, by decide +kernel, rfl, by decide +kernel, by decide +kernel⟩
theorem okf_law (Z : Fz fa fn K mg) {fd : FuncData} (F : FunD K d_law.name d_law.qual d_law.params d_law.body d_law.scope (d_law.dvs K) [] (d_law.ad K) fd) : FnOk P w K mg base (L2N.CX P w) 8 (ga K "law") fd ["_law_script"] (spF K [.bor] true fn_law) := by
  have nd := sc_law.nd
  refine fn_mv F sc_law rfl fun cdv A outer s H E J hK hfx hr => ?_
  have tk := @tk_cx P w K mg base ["_law_script", "_law_state", "_law_places", "_law_stands", "_law_spot", "_law_far", "_law_single", "_law_due", "_law_beside", "_law_given"] "law" (defScope (top 76)) (ga K "law") cdv A outer s H E
  have po := @po_cx P w K mg base ["_law_script", "_law_state", "_law_places", "_law_stands", "_law_spot", "_law_far", "_law_single", "_law_due", "_law_beside", "_law_given"] "law" (defScope (top 76)) (ga K "law") cdv A outer s H E
  show XB _ J _ (defBody (top 76)) s_law
  exact (xb_cons (w_asg nd (w_call (ok_l_begin Z) (Z.g "_law_begin" (Z.c.fact 98 (f := .std (.glo "_law_begin")) rfl)) hr tk hK (w_sl xa_nil)))
    (xb_cons (w_asg nd (xe_idx (xe_lst (xa_ex xe_int (xa_ex xe_int (xa_ex xe_int (xa_ex xe_int (xa_ex xe_int (xa_ex xe_int xa_nil))))))) (w_call (ok_l_draw Z) (Z.g "_law_draw" (Z.c.fact 3 (f := .std (.glo "_law_draw")) rfl)) hr tk hK (w_sl (xa_ex xe_int xa_nil)))))
    (xb_cons (w_asg nd (xe_frz (w_call (ok_l_spoilt Z) (Z.g "_law_spoilt" (Z.c.fact 100 (f := .std (.glo "_law_spoilt")) rfl)) hr tk hK (w_sl (w_sl (xa_ex (xe_idx (w_call (ok_l_sets Z) (Z.g "_law_sets" (Z.c.fact 99 (f := .std (.glo "_law_sets")) rfl)) hr tk hK (w_sl (w_sl (xa_ex xe_int xa_nil)))) xe_int) xa_nil))))))
    (xb_cons (w_asg nd (xe_frz (w_call (ok_l_draw Z) (Z.g "_law_draw" (Z.c.fact 3 (f := .std (.glo "_law_draw")) rfl)) hr tk hK (w_sl (w_sl xa_nil)))))
    (xb_cons (w_asg nd (xe_frz (xe_sub (w_call (ok_l_draw Z) (Z.g "_law_draw" (Z.c.fact 3 (f := .std (.glo "_law_draw")) rfl)) hr tk hK (w_sl (xa_ex xe_int xa_nil))) xe_int)))
    (xb_cons (w_asg nd (xe_frz (w_stat (ok_Cast_single Z) (stat_ok (Z.c.fact 104 (f := .stat "Cast" "single") rfl)) (Z.g "Cast" (Z.c.fact 32 (f := .std (.glo "Cast")) rfl)) hr tk hK (w_sl (w_sl (xa_ex xe_int xa_nil))))))
    (xb_cons (xs_if (xt_not (xt_tru hK (w_call (ok_l_is_list Z) (Z.g "_law_is_list" (Z.c.fact 21 (f := .std (.glo "_law_is_list")) rfl)) hr tk hK (xa_ex (w_prop hK (z_cls (Z.c.fact 16 (f := .std (.cls "Cast")) rfl)) (prop_ok (Z.c.fact 18 (f := .prop "Cast" "heights") rfl)) (ok_Cast_heights Z) hr w_rsl) (xa_ex (w_call (ok_l_one_cast Z) (Z.g "_law_one_cast" (Z.c.fact 29 (f := .std (.glo "_law_one_cast")) rfl)) hr tk hK (w_sl (xa_ex (xe_lst (xa_ex w_v xa_nil)) xa_nil))) xa_nil))))) (xb_one (xs_ret xe_bl)) xb_nil)
    (xb_cons (xs_if (xt_not (xt_tru hK (w_call (ok_l_counts Z) (Z.g "_law_counts" (Z.c.fact 48 (f := .std (.glo "_law_counts")) rfl)) hr tk hK (w_sl (w_sl (xa_ex (xe_lst (xa_ex w_v xa_nil)) (w_sl xa_nil))))))) (xb_one (xs_ret xe_bl)) xb_nil)
    (xb_cons (xs_if (t_eq hK (un64 hr) (w_call (ok_l_draw Z) (Z.g "_law_draw" (Z.c.fact 3 (f := .std (.glo "_law_draw")) rfl)) hr tk hK (w_sl (xa_ex xe_int xa_nil))) xe_int) (xb_one (w_asg nd (xe_idx (xe_lst (xa_ex xe_int (xa_ex xe_int (xa_ex (w_neg xe_int) (xa_ex xe_int (xa_ex (w_neg xe_int) (xa_ex xe_int xa_nil))))))) (w_call (ok_l_draw Z) (Z.g "_law_draw" (Z.c.fact 3 (f := .std (.glo "_law_draw")) rfl)) hr tk hK (w_sl (xa_ex xe_int xa_nil)))))) xb_nil)
    (xb_cons (w_asg nd (xe_frz (w_call (ok_l_reason Z) (Z.g "_law_reason" (Z.c.fact 105 (f := .std (.glo "_law_reason")) rfl)) hr tk hK (w_sl (w_sl xa_nil)))))
    (xb_cons (w_for po (xi_list (xe_lst (xa_ex xe_bl (xa_ex xe_bl xa_nil)))) w_gn (xb_cons (w_asg nd (xe_frz (w_list (Z.f "list" (Z.c.fact 6 (f := .std (.free "list")) rfl)) w_v)))
    (xb_one (xs_if (xw_or (t_ne hK (un64 hr) (w_call (ok_l_outcome Z) (Z.g "_law_outcome" (Z.c.fact 106 (f := .std (.glo "_law_outcome")) rfl)) hr tk hK (w_sl (w_sl (w_sl xa_nil)))) w_v) (xw_or1 (t_ne hK (un64 hr) w_v w_v))).xt (xb_one (xs_ret xe_bl)) xb_nil))))
    (xb_cons (xs_if (t_eq hK (un64 hr) w_v (xe_lst xa_nil)) (xb_one (xs_ret (w_call (ok_l_good Z) (Z.g "_law_good" (Z.c.fact 107 (f := .std (.glo "_law_good")) rfl)) hr tk hK (w_sl (w_sl (w_sl xa_nil)))))) xb_nil)
    (xb_one (xs_ret (xe_and (w_call (ok_l_base Z) (Z.g "_law_base" (Z.c.fact 108 (f := .std (.glo "_law_base")) rfl)) hr tk hK (w_sl (xa_ex (w_list (Z.f "list" (Z.c.fact 6 (f := .std (.free "list")) rfl)) w_v) xa_nil))) (xe_one1 (w_call (ok_l_good Z) (Z.g "_law_good" (Z.c.fact 107 (f := .std (.glo "_law_good")) rfl)) hr tk hK (xa_ex xe_int (xa_ex (xe_lst (xa_ex xe_int (xa_ex xe_int xa_nil))) (w_sl xa_nil))))))))))))))))))))
theorem ok_law (Z : Fz fa fn K mg) : FnC P w K mg base 8 (ga K "law") (spF K [.bor] true fn_law) := by
  obtain ⟨fd, F⟩ := Z.c.def_ ix_law (d := d_law) rfl
  exact ⟨⟨fd, ["_law_script"], okf_law Z F, F.bindsN fun _ _ _ _ _ _ us hl => match us, hl with | [_], _ => rfl⟩, F.kp⟩
end
end MV
namespace MV
open PySem PySem.Spec PyProof.Rows L2 He
def nm0 : List PySem.Str := ["_wall", "RollError", "BadSize", "BadHeight", "Collision", "TooManyBalls", "BadStretch", "BadStands", "BadJoins", "BadNumber", "Unlike", "NoRoom", "BadText", "BadPage", "BadSigns", "Full", "MOST_PLACES", "MOST_BALLS", "MOST_HEIGHT", "check_places"]
def nm1 : List PySem.Str := ["check_balls", "check_stretch", "check_stands", "check_like", "at_place", "landing", "came_list", "heights_of", "launch", "airborne", "count_between", "one_entry", "carried_came", "carried_to", "step_came", "peel", "product_heights", "mirrored_heights", "turned_heights", "table_of"]
def nm2 : List PySem.Str := ["table_row", "heights_of_table", "came_in_table", "is_within", "first_surplus", "surplus_end", "quotient_ahead", "least_difference", "quotient_behind", "DIGITS", "MOST_TIMES", "Cast", "is_short_number", "check_divisor", "_law_begin", "_law_draw", "_law_sets", "_law_whole", "_law_is_list", "_law_wild"]
def nm3 : List PySem.Str := ["_law_spoilt", "_law_reason", "_law_row", "_law_outcome", "_law_base", "_law_one_cast", "_law_holds", "_law_counts", "_law_good"]
def nms : List PySem.Str := nm0 ++ nm1 ++ nm2 ++ nm3
abbrev RR : PySem.W.OpenRow := PySem.W.OpenLaw.row PySem.Challenge.rw_datelessrolls_k03_one_entry
def asl : List Addr := [3, 2, 6, 4, 21, 31, 51, 70, 89, 108, 127, 146, 165, 184, 203, 222, 241, 260, 279, 298, 307, 314, 321, 328, 335, 342, 349, 354, 359, 366, 371, 376, 381, 386, 393, 400, 405, 412, 417, 422, 427, 434, 439, 446, 453, 460, 467, 472, 477, 484, 685, 694, 701, 706, 713, 720, 727, 734, 741, 746, 753, 758, 765, 772, 779, 786, 793, 800, 807, 0, 20, 30, 50, 69, 88, 107, 126, 145, 164, 183, 202, 221, 240, 259, 278, 297, 306, 313, 320, 327, 334, 341, 348, 353, 358, 365, 370, 375, 380, 385, 392, 399, 404, 411, 416, 421, 426, 433, 438, 445, 452, 459, 466, 471, 476, 483, 684, 693, 700, 705, 712, 719, 726, 733, 740, 745, 752, 757, 764, 771, 778, 785, 792, 799, 806, 15, 16, 17, 18, 19, 29, 32, 48, 49, 67, 68, 86, 87, 105, 106, 124, 125, 143, 144, 162, 163, 181, 182, 200, 201, 219, 220, 238, 239, 257, 258, 276, 277, 295, 296, 301, 302, 303, 304, 305, 308, 309, 310, 311, 312, 315, 316, 317, 318, 319, 322, 323, 324, 325, 326, 329, 330, 331, 332, 333, 336, 337, 338, 339, 340, 343, 344, 345, 346, 347, 350, 351, 352, 355, 356, 357, 360, 361, 362, 363, 364, 367, 368, 369, 372, 373, 374, 377, 378, 379, 382, 383, 384, 387, 388, 389, 390, 391, 394, 395, 396, 397, 398, 401, 402, 403, 406, 407, 408, 409, 410, 413, 414, 415, 418, 419, 420, 423, 424, 425, 428, 429, 430, 431, 432, 435, 436, 437, 440, 441, 442, 443, 444, 447, 448, 449, 450, 451, 454, 455, 456, 457, 458, 461, 462, 463, 464, 465, 468, 469, 470, 473, 474, 475, 478, 479, 480, 481, 482, 498, 507, 517, 525, 535, 543, 549, 557, 565, 573, 579, 586, 593, 600, 607, 614, 621, 626, 633, 640, 647, 654, 661, 668, 675, 682, 683, 686, 687, 690, 691, 692, 695, 696, 697, 698, 699, 702, 703, 704, 707, 708, 709, 710, 711, 714, 715, 716, 717, 718, 721, 722, 723, 724, 725, 728, 729, 730, 731, 732, 735, 736, 737, 738, 739, 742, 743, 744, 747, 748, 749, 750, 751, 754, 755, 756, 759, 760, 761, 762, 763, 766, 767, 768, 769, 770, 773, 774, 775, 776, 777, 780, 781, 782, 783, 784, 787, 788, 789, 790, 791, 794, 795, 796, 797, 798, 801, 802, 803, 804, 805, 47, 66, 85, 104, 123, 142, 161, 180, 199, 218, 237, 256, 275, 294, 497, 505, 506, 515, 516, 523, 524, 533, 534, 541, 542, 548, 556, 564, 572, 578, 585, 592, 599, 606, 613, 620, 625, 632, 639, 646, 653, 660, 667, 674, 681, 42, 43, 44, 45, 46, 61, 62, 63, 64, 65, 80, 81, 82, 83, 84, 99, 100, 101, 102, 103, 118, 119, 120, 121, 122, 137, 138, 139, 140, 141, 156, 157, 158, 159, 160, 175, 176, 177, 178, 179, 194, 195, 196, 197, 198, 213, 214, 215, 216, 217, 232, 233, 234, 235, 236, 251, 252, 253, 254, 255, 270, 271, 272, 273, 274, 289, 290, 291, 292, 293, 492, 493, 494, 495, 496, 504, 508, 514, 518, 522, 526, 532, 536, 540, 544, 545, 546, 547, 555, 563, 571, 577, 580, 581, 582, 583, 584, 587, 588, 589, 590, 591, 594, 595, 596, 597, 598, 601, 602, 603, 604, 605, 608, 609, 610, 611, 612, 615, 616, 617, 618, 619, 622, 623, 624, 627, 628, 629, 630, 631, 634, 635, 636, 637, 638, 641, 642, 643, 644, 645, 648, 649, 650, 651, 652, 655, 656, 657, 658, 659, 662, 663, 664, 665, 666, 669, 670, 671, 672, 673, 676, 677, 678, 679, 680, 499, 500, 501, 502, 503, 509, 510, 511, 512, 513, 519, 520, 521, 527, 528, 529, 530, 531, 537, 538, 539, 550, 551, 552, 553, 554, 558, 559, 560, 561, 562, 566, 567, 568, 569, 570, 574, 575, 576]
abbrev hkM : PySem.W.Hook := hookM asl fa fn
def obM (s : PySem.W.SharedT) : AlM := obsMG asl fa fn (HandSHeadRun.getT s)
theorem obM_eq (s : PySem.W.SharedT) : obM s = hkM.obs s.abs := obsMG_eq (HandSHeadRun.getT_eq s)
noncomputable abbrev endM (w : World) (os : OsState) : Option PySem.W.SharedT := HandSHeadRun.endF (HandSHeadRun.stepQ (HandSHeadRun.denQ HandSHeadRun.tabQ) RR.prog w) 60000 RR.prog w os
open PySem.W PySem.Calls HandSHeadRun in
theorem run1 (w : World) (os : OsState) : (endM w os).map (fun s => looksF RR.prog (boot_heap w.params) s.abs) = some true := by kernel_rfl
open PySem.W PySem.Calls HandSHeadRun in
theorem run2 (w : World) (os : OsState) : (endM w os).map (fun s => seenQ (view RR.prog [76]) nms (importedModules RR.prog.main.body) (fun s => xlAt (view RR.prog [76]) [] s && recOk RR.toRowW.records s) s.abs) = some (openGood (view RR.prog [76]) nms) := by kernel_rfl
theorem run3 (w : World) (os : OsState) : (endM w os).map (fun s => obM s) = some (hkM.val w) := by kernel_rfl
theorem runM (w : World) : HandSHeadRun.RunEq RR (PySem.W.view RR.prog [76]) hkM obM 60000 nms w := fun os => map3 (run1 w os) (run2 w os) (run3 w os)
theorem factsM {P : Program} {w : World} {K : PySem.W.Frag} {h : Heap} {mg : Str → Option Value} {f : Addr} (X : K.In h) (G : h.Ns mainGlobals mg) (hfa : mg ("law" : Str) = some (.ref f)) (c : SaysM fa fn K) :
    ∃ fd : FuncData, (∀ (s : Shared) (v : Value), BindsTo s fd ⟨[v], []⟩ [("_law_script", v)]) ∧ ∀ base : Heap, K.In base → base.Ns mainGlobals mg → FnOk P w K mg base (L2N.CX P w) 8 f fd ["_law_script"] (spF K [.bor] true fn_law) := by
  have Z : Fz fa fn K mg := Fz.of X G c
  have e := hfa.symm.trans (Z.g "law" (Z.c.fact 109 (f := .std (.glo "law")) rfl))
  cases e
  obtain ⟨fd, F⟩ := Z.c.def_ ix_law (d := d_law) rfl
  have b := FunD.bindsA (ps := ["_law_script"]) F fun _ _ _ _ _ _ us hl => match us, hl with | [_], _ => rfl
  exact ⟨fd, fun s v => b s [v] rfl, fun base _ _ => okf_law (base := base) Z F⟩
end MV
open PySem PySem.W PySem.Calls PyProof.Rows in
theorem law_holds_of (main : ∀ ns : List Int, ns.length ≤ 63 → MV.fn_law [.scr ns] = .ret (.bl true) []) : PySem.Challenge.rw_datelessrolls_k03_one_entry.Holds := by
  w_on; o_law
  refine HandSHeadRun.head_any (r := OpenLaw.row PySem.Challenge.rw_datelessrolls_k03_one_entry) (q := view (OpenLaw.row PySem.Challenge.rw_datelessrolls_k03_one_entry).prog [76]) (H := MV.hkM) (ob := MV.obM) (M := 60000) (loose := MV.nms) (d := HandSHeadRun.topDef (OpenLaw.row PySem.Challenge.rw_datelessrolls_k03_one_entry).prog 76) (kwd := []) MV.obM_eq
    (by kernel_rfl) (fun s => by kernel_rfl) MV.runM (by kernel_rfl) (by kernel_rfl) (by kernel_rfl) (by rfl) (by first | assumption | decide +kernel) (by decide +kernel) ⟨rfl, rfl, rfl, rfl, rfl, by decide +kernel⟩ ?hw ?hc
  case hw => w_witness2
  case hc =>
    refine MV.walk_mv (l := PySem.Challenge.rw_datelessrolls_k03_one_entry) (n := 63) (k := 8) (x := "_law_script") rfl (by decide) (by kernel_rfl) ⟨rfl, by decide, by decide⟩ ?F
    intro w mg fa h Y G hmg0
    obtain ⟨K, KX, c⟩ := Y
    have hmg : mg ("law" : PySem.Str) = some (.ref fa) := by
      have e : (HandSHeadRun.topDef (OpenLaw.row PySem.Challenge.rw_datelessrolls_k03_one_entry).prog 76).name = ("law" : PySem.Str) := by kernel_rfl
      rw [← e]
      exact hmg0
    obtain ⟨fd, hb, hF⟩ := MV.factsM (P := (PySem.Challenge.rw_datelessrolls_k03_one_entry).prog) (w := w) KX G hmg c
    exact ⟨K, fd, _, KX, hb, fun H a ns hl hS => MV.law_spB main H a ns hl hS, hF⟩
namespace MV
open PySem PySem.Spec PyProof.Rows L2 He
/-- the state of the draws -/
abbrev dSt (v : Int) (p : Nat) (cs : List Int) : Vl := .lst [.int v, .int p, .lst (cs.map Vl.int)]
abbrev dE (v : Int) (p : Nat) (cs : List Int) (lim : Int) : En := [some ⟨.io, dSt v p cs⟩, some ⟨.shr, .int lim⟩, some ⟨.shr, .lst (cs.map Vl.int)⟩, none]
def dC : SemB := (fAnd (fTst (fTwo true (fTwo true (fVar 0) (fC (.int 0)) kIx) (fC (.int 0)) (kS gEq))) (fTst (fTwo true (fTwo true (fVar 0) (fC (.int 1)) kIx) (fOne (fVar 2) (kS1 gLen)) (kS (gB bLt)))))
def dB : SemS := (sSeq (sSet 0 (fC (.int 0)) (fFrz (fOne (fOne (fTwo true (fVar 2) (fTwo true (fVar 0) (fC (.int 1)) kIx) kIx) (kS1 gInt)) (kS1 gAbs))))
    (sSet 0 (fC (.int 1)) (fFrz (fTwo true (fTwo true (fVar 0) (fC (.int 1)) kIx) (fC (.int 1)) kAdd))))
theorem dC_nz {v : Int} {p : Nat} {cs : List Int} {lim : Int} (h : v ≠ 0) : dC (dE v p cs lim) = .ok false (dE v p cs lim) := by
  have e : dC (dE v p cs lim) = (match decide (v = 0) with | true => Rs.ok (decide ((p : Int) < ((cs.map Vl.int).length : Nat))) (dE v p cs lim) | false => .ok false (dE v p cs lim)) := by
    unfold dC fAnd
    show (match decide (v = 0) with | true => _ | false => _) = _
    cases decide (v = 0) <;> rfl
  rw [e, decide_eq_false h]
theorem dC_z {p : Nat} {cs : List Int} {lim : Int} : dC (dE 0 p cs lim) = .ok (decide (p < cs.length)) (dE 0 p cs lim) := by
  have e : dC (dE 0 p cs lim) = .ok (decide ((p : Int) < ((cs.map Vl.int).length : Nat))) (dE 0 p cs lim) := rfl
  rw [e, List.length_map]
  congr 1
  exact decide_eq_decide.mpr Int.ofNat_lt
theorem dB_eq {p : Nat} {cs : List Int} {lim : Int} (h : p < cs.length) : ∃ v : Int, 0 ≤ v ∧ dB (dE 0 p cs lim) = .next (dE v (p + 1) cs lim) := by
  have hx : atI (cs.map Vl.int) (p : Int) = some (.int cs[p]) := by
    rw [atI_nat (by rw [List.length_map]; exact h), List.getElem?_map, List.getElem?_eq_getElem h]; rfl
  refine ⟨if cs[p] < 0 then -cs[p] else cs[p], by split <;> omega, ?_⟩
  have e1 : sSet 0 (fC (.int 0)) (fFrz (fOne (fOne (fTwo true (fVar 2) (fTwo true (fVar 0) (fC (.int 1)) kIx) kIx) (kS1 gInt)) (kS1 gAbs))) (dE 0 p cs lim) = .next (dE (if cs[p] < 0 then -cs[p] else cs[p]) p cs lim) := by
    have e0 : fTwo true (fVar 2) (fTwo true (fVar 0) (fC (.int 1)) kIx) kIx (dE 0 p cs lim) = .ok ⟨.shr, .int cs[p]⟩ (dE 0 p cs lim) := by
      show (match atI (cs.map Vl.int) (p : Int) with | some d => Rs.ok (mk .shr d) (dE 0 p cs lim) | none => .bad) = _
      rw [hx]; rfl
    unfold sSet fFrz fOne
    rw [e0]; rfl
  unfold dB
  rw [e_seq e1]
  rfl
theorem d_loop {cs : List Int} {lim : Int} : ∀ (n : Nat) (v : Int) (p : Nat), 0 ≤ v → p ≤ cs.length → cs.length - p < n → ∃ (v' : Int) (p' : Nat), loopW dC dB n (dE v p cs lim) = .next (dE v' p' cs lim) ∧ 0 ≤ v' ∧ p' ≤ cs.length
  | 0, v, p, h0, h1, h2 => by omega
  | n + 1, v, p, h0, h1, h2 => by
    by_cases hv : v = 0
    · subst hv
      by_cases hp : p < cs.length
      · obtain ⟨v', q, e⟩ := dB_eq (lim := lim) hp
        obtain ⟨v2, p2, e2, q2, q3⟩ := d_loop (cs := cs) (lim := lim) n v' (p + 1) q (by omega) (by omega)
        refine ⟨v2, p2, ?_, q2, q3⟩
        unfold loopW
        rw [dC_z, decide_eq_true hp]
        show (match dB (dE 0 p cs lim) with | .next ρ2 => loopW dC dB n ρ2 | .cont ρ2 => loopW dC dB n ρ2 | .brk ρ2 => .next ρ2 | r => r) = _
        rw [e]; exact e2
      · refine ⟨0, p, ?_, h0, h1⟩
        unfold loopW
        rw [dC_z, decide_eq_false hp]; rfl
    · refine ⟨v, p, ?_, h0, h1⟩
      unfold loopW
      rw [dC_nz hv]; rfl
/-- what the law draws from -/
def DS (st : Vl) : Prop := ∃ v p cs, st = dSt v p cs ∧ 0 ≤ v ∧ p ≤ cs.length ∧ cs.length ≤ 63
theorem draw_spec {st : Vl} {lim : Int} (h : DS st) (h1 : 0 < lim) (h2 : lim < 1073741824) : ∃ r st', fn_l_draw [st, .int lim] = .ret (.int r) [st'] ∧ 0 ≤ r ∧ r < lim ∧ DS st' := by
  obtain ⟨v, p, cs, rfl, q1, q2, q3⟩ := h
  obtain ⟨v', p', e, q4, q5⟩ := d_loop (lim := lim) (cs.length - p + 1) v p q1 q2 (by omega)
  have ew := e_while e (by unfold wMax; omega)
  refine ⟨v'.fmod lim, dSt (v'.fdiv lim) p' cs, ?_, ?_, ?_, ⟨_, _, _, rfl, ?_, q5, q3⟩⟩
  · have hm : cMod v' lim = true := by unfold cMod; exact decide_eq_true (by omega)
    have hd : cDiv v' lim = true := by
      unfold cDiv
      rw [decide_eq_true (show lim ≠ 0 by omega), decide_eq_true (show lim.natAbs < 1073741824 by omega)]; rfl
    have e1 : (sAsg 3 (fFrz (fTwo true (fOne (fTwo true (fVar 0) (fC (.int 0)) kIx) (kS1 gInt)) (fVar 1) (kS (gIc cMod Int.fmod))))) (dE v' p' cs lim) = .next [some ⟨.io, dSt v' p' cs⟩, some ⟨.shr, .int lim⟩, some ⟨.shr, .lst (cs.map Vl.int)⟩, some ⟨.shr, .int (v'.fmod lim)⟩] := by
      have e0 : fTwo true (fOne (fTwo true (fVar 0) (fC (.int 0)) kIx) (kS1 gInt)) (fVar 1) (kS (gIc cMod Int.fmod)) (dE v' p' cs lim) = .ok ⟨.shr, .int (v'.fmod lim)⟩ (dE v' p' cs lim) := by
        show (match (if cMod v' lim then some (Vl.int (v'.fmod lim)) else none) with | some d => if isSc d then Rs.ok (Sv.mk .shr d) (dE v' p' cs lim) else .bad | none => .bad) = _
        rw [if_pos hm]; rfl
      unfold sAsg fFrz
      rw [e0]; rfl
    have e2 : (sSet 0 (fC (.int 0)) (fFrz (fTwo true (fOne (fTwo true (fVar 0) (fC (.int 0)) kIx) (kS1 gInt)) (fVar 1) (kS (gIc cDiv Int.fdiv))))) [some ⟨.io, dSt v' p' cs⟩, some ⟨.shr, .int lim⟩, some ⟨.shr, .lst (cs.map Vl.int)⟩, some ⟨.shr, .int (v'.fmod lim)⟩] = .next [some ⟨.io, dSt (v'.fdiv lim) p' cs⟩, some ⟨.shr, .int lim⟩, some ⟨.shr, .lst (cs.map Vl.int)⟩, some ⟨.shr, .int (v'.fmod lim)⟩] := by
      have e0 : fTwo true (fOne (fTwo true (fVar 0) (fC (.int 0)) kIx) (kS1 gInt)) (fVar 1) (kS (gIc cDiv Int.fdiv)) [some ⟨.io, dSt v' p' cs⟩, some ⟨.shr, .int lim⟩, some ⟨.shr, .lst (cs.map Vl.int)⟩, some ⟨.shr, .int (v'.fmod lim)⟩] = .ok ⟨.shr, .int (v'.fdiv lim)⟩ [some ⟨.io, dSt v' p' cs⟩, some ⟨.shr, .int lim⟩, some ⟨.shr, .lst (cs.map Vl.int)⟩, some ⟨.shr, .int (v'.fmod lim)⟩] := by
        show (match (if cDiv v' lim then some (Vl.int (v'.fdiv lim)) else none) with | some d => if isSc d then Rs.ok (Sv.mk .shr d) _ else .bad | none => .bad) = _
        rw [if_pos hd]; rfl
      unfold sSet fFrz
      rw [e0]; rfl
    have hb : s_l_draw [some ⟨.io, dSt v p cs⟩, some ⟨.shr, .int lim⟩, none, none] = .ret ⟨.shr, .int (v'.fmod lim)⟩ [some ⟨.io, dSt (v'.fdiv lim) p' cs⟩, some ⟨.shr, .int lim⟩, some ⟨.shr, .lst (cs.map Vl.int)⟩, some ⟨.shr, .int (v'.fmod lim)⟩] := by
      unfold s_l_draw
      have e0 : sAsg 2 (fTwo true (fVar 0) (fC (.int 2)) kIx) [some ⟨.io, dSt v p cs⟩, some ⟨.shr, .int lim⟩, none, none] = .next (dE v p cs lim) := rfl
      refine (e_seq e0).trans ((e_seq ew).trans ((e_seq e1).trans ((e_seq e2).trans rfl)))
    show (match s_l_draw [some ⟨.io, dSt v p cs⟩, some ⟨.shr, .int lim⟩, none, none] with
      | .ret s ρ => fin [.io, .bor] false s ρ
      | .next ρ => fin [.io, .bor] false ⟨.shr, .non⟩ ρ
      | .exc c fs ρ => (match outsOf [.io, .bor] 0 ρ with
        | some outs => .exc c fs outs
        | none => .bad)
      | _ => .bad) = _
    rw [hb]; rfl
  · rw [Int.fmod_eq_emod_of_nonneg _ (by omega)]; exact Int.emod_nonneg _ (by omega)
  · rw [Int.fmod_eq_emod_of_nonneg _ (by omega)]; exact Int.emod_lt_of_pos _ h1
  · rw [Int.fdiv_eq_ediv_of_nonneg _ (by omega)]; exact Int.ediv_nonneg q4 (by omega)
theorem begin_spec {ns : List Int} (h : ns.length ≤ 63) : ∃ st, fn_l_begin [.scr ns] = .ret st [] ∧ DS st := by
  have hc : cutD (ns.map Vl.int) none (some 63) = ns.map Vl.int := cut_front (n := 63) (by rw [List.length_map]; exact h)
  have hi : iSrc (fSl true true (fVar 0) fNoP (fPart (fC (.int 63)))) kItL [some ⟨.bor, .scr ns⟩, none] = .ok (true, (ns.map Vl.int).map fun d => mk .shr d) [some ⟨.bor, .scr ns⟩, none] := by
    show Rs.ok (true, (cutD (ns.map Vl.int) none (some 63)).map fun d => mk .shr d) _ = _
    rw [hc]
  have hl : compL [1] (gNm 1) bYes (fFrz (fOne (fVar 1) (kS1 gInt))) ((ns.map Vl.int).map fun d => mk .shr d) [some ⟨.bor, .scr ns⟩, none] [] = .ok (ns.map Vl.int) [some ⟨.bor, .scr ns⟩, none] := by
    have := compL_ok (own := [1]) (tgt := gNm 1) (cond := bYes) (elt := fFrz (fOne (fVar 1) (kS1 gInt))) (ρ0 := [some ⟨.bor, .scr ns⟩, none]) (b := fun _ => true) (g := fun s => s.d) ((ns.map Vl.int).map fun d => mk .shr d) (fun x hx => by
      obtain ⟨d, hd, rfl⟩ := List.mem_map.mp hx
      obtain ⟨i, _, rfl⟩ := List.mem_map.mp hd
      exact ⟨_, _, rfl, rfl, fun _ => ⟨_, rfl, rfl⟩, fun h => by cases h⟩) [] (by simp; exact Nat.le_trans h (by decide))
    rw [this]
    have e : (((ns.map Vl.int).map fun d => mk .shr d).filter fun _ => true).map (fun s => s.d) = ns.map Vl.int := by
      rw [List.filter_eq_self.mpr (fun _ _ => rfl), List.map_map, List.map_map]
      rfl
    rw [e]; rfl
  have hs : fLc true [1] (iSrc (fSl true true (fVar 0) fNoP (fPart (fC (.int 63)))) kItL) (gNm 1) bYes (fFrz (fOne (fVar 1) (kS1 gInt))) [some ⟨.bor, .scr ns⟩, none] = .ok ⟨.own, .lst (ns.map Vl.int)⟩ [some ⟨.bor, .scr ns⟩, none] := e_lc hi rfl hl
  refine ⟨dSt 0 0 ns, ?_, ⟨0, 0, ns, rfl, by omega, by omega, h⟩⟩
  have hb : s_l_begin [some ⟨.bor, .scr ns⟩, none] = .ret ⟨.own, dSt 0 0 ns⟩ [some ⟨.bor, .scr ns⟩, none] :=
    e_ret (e_lst (e_aEx rfl rfl (e_aEx rfl rfl (e_aEx (e_frz_own hs) rfl rfl))) rfl (Nat.le_of_ble_eq_true rfl))
  exact e_run (pm := [.bor]) (rm := true) (n := 2) (ds := [.scr ns]) (outs := []) hb rfl rfl
end MV
namespace MV
open PySem PySem.Spec PyProof.Rows L2 He
theorem whole_int (i : Int) : fn_l_whole [.int i] = .ret (.bl true) [] := rfl
theorem landing_eq {hs : List Int} {p : Int} (h : 1 ≤ hs.length) : fn_landing [dI hs, .int p] = .ret (.int (land hs p)) [] := by
  have hb : s_landing [some ⟨.bor, dI hs⟩, some (isv p)] = .ret (isv (land hs p)) [some ⟨.bor, dI hs⟩, some (isv p)] :=
    e_ret (e_two (s := isv p) rfl rfl (e_ixI (hs := hs) (m := .bor) rfl rfl (e_mod (p := p) (m := .shr) rfl rfl (e_lenI (hs := hs) (m := .bor) rfl) (by omega)) (atI_at h)) rfl)
  exact e_run (pm := [.bor, .bor]) (rm := true) (n := 2) (ds := [dI hs, .int p]) (outs := []) hb rfl rfl
theorem maxL_ge {hs : List Int} (h : 1 ≤ hs.length) : ∀ x ∈ hs, x ≤ maxL hs := (maxL_mem (by intro e; rw [e] at h; simp at h)).2
theorem Gd.max96 {hs : List Int} (g : Gd hs) : 0 ≤ maxL hs ∧ maxL hs ≤ 96 := by
  have l1 := g.l1
  have := (maxL_mem (ns := hs) (by intro e; rw [e] at l1; simp at l1)).1
  exact ⟨g.lo _ this, g.hi _ this⟩
theorem is_list_eq {xs : List Int} (l : xs.length ≤ 10000) : fn_l_is_list [dI xs, dI xs] = .ret (.bl true) [] := by
  have h1 : sIf (fOr (fNot (fTru (fOne (fVar 0) (kIsi isLst)))) (fTst (fTwo true (fOne (fVar 0) (kS1 gLen)) (fOne (fVar 1) (kS1 gLen)) (kS gNe)))) (sRet (fC (.bl false))) sNil [some ⟨.bor, dI xs⟩, some ⟨.bor, dI xs⟩, none] = .next [some ⟨.bor, dI xs⟩, some ⟨.bor, dI xs⟩, none] := by
    have := t_neI (qb := true) (ρ := [some ⟨.bor, dI xs⟩, some ⟨.bor, dI xs⟩, none]) (e_lenI (fa := fVar 0) (hs := xs) (m := .bor) rfl) rfl (e_lenI (fa := fVar 1) (hs := xs) (m := .bor) rfl)
    rw [decide_eq_true rfl] at this
    exact e_if_f (t_or_f (b := false) rfl this)
  obtain ⟨ρ', e1, p2, rfl, k2⟩ := for_int (k := 2) (src := iR1 (fOne (fVar 1) (kS1 gLen))) (body := sIf (fOr (fNot (fTru (fCall [.bor] true fn_l_whole (aEx (fTwo true (fVar 0) (fVar 2) kIx) aNil)))) (fTst (fTwo true (fTwo true (fVar 0) (fVar 2) kIx) (fTwo true (fVar 1) (fVar 2) kIx) (kS gNe)))) (sRet (fC (.bl false))) sNil)
    (ρ := [some ⟨.bor, dI xs⟩, some ⟨.bor, dI xs⟩, none]) (fun _ ρ => ∃ p2, ρ = [some ⟨.bor, dI xs⟩, some ⟨.bor, dI xs⟩, p2] ∧ NIo p2) (e_r1 (e_lenI (hs := xs) (m := .bor) rfl) (c62_of (by omega) (by omega))) ⟨none, rfl, .non⟩ (by
      rintro j x ρ hx ⟨p2, rfl, k2⟩
      obtain ⟨hj, rfl⟩ := iv0_get hx
      have hj : j < xs.length := by rw [Int.toNat_natCast] at hj; exact hj
      refine ⟨noIo_of k2 rfl, [some ⟨.bor, dI xs⟩, some ⟨.bor, dI xs⟩, some (isv j)], .inl ?_, _, rfl, .some⟩
      have i0 : fTwo true (fVar 0) (fVar 2) kIx [some ⟨.bor, dI xs⟩, some ⟨.bor, dI xs⟩, some (isv j)] = .ok (isv (xs.getD j 0)) [some ⟨.bor, dI xs⟩, some ⟨.bor, dI xs⟩, some (isv j)] := e_ixI (hs := xs) (m := .bor) (m' := .shr) rfl rfl rfl (atI_d hj)
      have i1 : fTwo true (fVar 1) (fVar 2) kIx [some ⟨.bor, dI xs⟩, some ⟨.bor, dI xs⟩, some (isv j)] = .ok (isv (xs.getD j 0)) [some ⟨.bor, dI xs⟩, some ⟨.bor, dI xs⟩, some (isv j)] := e_ixI (hs := xs) (m := .bor) (m' := .shr) rfl rfl rfl (atI_d hj)
      have := t_neI (qb := true) i0 rfl i1
      rw [decide_eq_true rfl] at this
      have hw : fCall [.bor] true fn_l_whole (aEx (fTwo true (fVar 0) (fVar 2) kIx) aNil) [some ⟨.bor, dI xs⟩, some ⟨.bor, dI xs⟩, some (isv j)] = .ok ⟨.shr, .bl true⟩ [some ⟨.bor, dI xs⟩, some ⟨.bor, dI xs⟩, some (isv j)] := e_cl (e_aEx i0 rfl rfl) rfl rfl (whole_int _) rfl rfl
      exact e_if_f (t_or_f (t_not (t_tru hw)) this))
  have hb : s_l_is_list [some ⟨.bor, dI xs⟩, some ⟨.bor, dI xs⟩, none] = .ret ⟨.shr, .bl true⟩ [some ⟨.bor, dI xs⟩, some ⟨.bor, dI xs⟩, p2] := (e_seq h1).trans ((e_seq e1).trans rfl)
  exact e_run (pm := [.bor, .bor]) (rm := true) (n := 3) (ds := [dI xs, dI xs]) (outs := []) hb rfl rfl
abbrev vCast (hs : List Int) : Vl := .ins "Cast" [("_heights", .tup (hs.map Vl.int))]
theorem heights_eq {hs : List Int} : fn_Cast_heights [vCast hs] = .ret (dI hs) [] := by
  have hb : s_Cast_heights [some ⟨.bor, vCast hs⟩] = .ret ⟨.own, dI hs⟩ [some ⟨.bor, vCast hs⟩] := e_ret (e_listT (hs := hs) (m := .bor) rfl)
  exact e_run (pm := [.bor]) (rm := true) (n := 1) (ds := [vCast hs]) (outs := []) hb rfl rfl
theorem balls_eq {hs : List Int} (g : Gd hs) : fn_Cast_balls [vCast hs] = .ret (.int (hs.sum / (hs.length : Int))) [] := by
  have l1 := g.l1
  have l2 := g.l2
  have h1 : fOne (fOne (fVar 0) (kFld "_heights" ["Cast"])) (kS1 gLen) [some ⟨.bor, vCast hs⟩] = .ok (isv (hs.length : Int)) [some ⟨.bor, vCast hs⟩] := by
    show Rs.ok (Sv.mk .shr (.int ((hs.map Vl.int).length : Nat))) _ = _
    rw [List.length_map]
  have h2 : fOne (fOne (fVar 0) (kFld "_heights" ["Cast"])) (kS1 gSum) [some ⟨.bor, vCast hs⟩] = .ok (isv hs.sum) [some ⟨.bor, vCast hs⟩] :=
    e_one (s := ⟨.bor, .tup (hs.map Vl.int)⟩) rfl (by
      show (match (iL (hs.map Vl.int)).map (fun ns => Vl.int ns.sum) with | some d => if isSc d then Rs.ok (Sv.mk .shr d) _ else .bad | none => .bad) = _
      rw [iL_map]; rfl)
  have hb : s_Cast_balls [some ⟨.bor, vCast hs⟩] = .ret (isv (hs.sum / (hs.length : Int))) [some ⟨.bor, vCast hs⟩] := e_ret (e_fdiv (p := hs.sum) (n := (hs.length : Int)) (m := .shr) (m' := .shr) h2 rfl h1 (by omega) (by omega))
  exact e_run (pm := [.bor]) (rm := true) (n := 1) (ds := [vCast hs]) (outs := []) hb rfl rfl
abbrev iE (hs : List Int) (p3 p4 p5 : Option Sv) : En := [some ⟨.io, .ins "Cast" []⟩, some ⟨.bor, dI hs⟩, some (isv (hs.length : Int)), p3, p4, p5, none]
theorem init_eq {hs : List Int} (g : Gd hs) (b16 : hs.sum / (hs.length : Int) ≤ 16) : fn_Cast___init__ [.ins "Cast" [], dI hs] = .ret .non [vCast hs] := by
  have l1 := g.l1
  have l2 := g.l2
  have h1 : sAsg 2 (fFrz (fOne (fVar 1) (kS1 gLen))) [some ⟨.io, .ins "Cast" []⟩, some ⟨.bor, dI hs⟩, none, none, none, none, none] = .next (iE hs none none none) :=
    e_as (e_frz_shr (e_lenI (m := .bor) (hs := hs) rfl)) rfl rfl rfl
  have h2 : sIf (fNot (fTst (fChain bLe bLe (fC (.int 1)) (fVar 2) (fC (.int 6))))) (sRaise "BadSize" ["size"] (aSl 2 aNil)) sNil (iE hs none none none) = .next (iE hs none none none) := by
    have := t_chn (fa := fC (.int 1)) (fb := fVar 2) (fc := fC (.int 6)) (ρ := iE hs none none none) (i := 1) (j := (hs.length : Int)) (k := 6) (m := .shr) (m' := .shr) (m'' := .shr) rfl rfl rfl (by omega) (by omega)
    exact e_if_f (t_not this)
  obtain ⟨ρ', e3, p3, rfl, k3⟩ := for_int (k := 3) (src := iR1 (fVar 2)) (body := sIf (fNot (fTst (fChain bLe bLe (fC (.int 0)) (fTwo true (fVar 1) (fVar 3) kIx) (fC (.int 96))))) (sRaise "BadHeight" ["place"] (aSl 3 aNil)) sNil) (ρ := iE hs none none none) (fun _ ρ => ∃ p3, ρ = iE hs p3 none none ∧ NIo p3) (e_r1 (m := .shr) (j := (hs.length : Int)) rfl (c62_of (by omega) (by omega))) ⟨none, rfl, .non⟩ (by
    rintro j x ρ hx ⟨p3, rfl, k3⟩
    obtain ⟨hj, rfl⟩ := iv0_get hx
    have hj : j < hs.length := by rw [Int.toNat_natCast] at hj; exact hj
    refine ⟨noIo_of k3 rfl, iE hs (some (isv j)) none none, .inl ?_, _, rfl, .some⟩
    have hi : fTwo true (fVar 1) (fVar 3) kIx (iE hs (some (isv j)) none none) = .ok (isv (hs.getD j 0)) (iE hs (some (isv j)) none none) := e_ixI (hs := hs) (m := .bor) (m' := .shr) rfl rfl rfl (atI_d hj)
    have := t_chn (fa := fC (.int 0)) (fc := fC (.int 96)) (ρ := iE hs (some (isv j)) none none) (i := 0) (k := 96) (m := .shr) (m'' := .shr) rfl hi rfl (g.lo _ (getD_mem hj)) (g.hi _ (getD_mem hj))
    exact e_if_f (t_not this))
  obtain ⟨ρ', e4, p4, p5, rfl, k4, k5⟩ := for_int (k := 4) (src := iR1 (fVar 2)) (body := sFor (iR1 (fVar 4)) (gNm 5) (sIf (fTst (fTwo true (fTwo true (fTwo true (fTwo true (fTwo true (fVar 4) (fTwo true (fVar 1) (fVar 4) kIx) kAdd) (fVar 5) (kS (gI fun i j => i - j))) (fTwo true (fVar 1) (fVar 5) kIx) (kS (gI fun i j => i - j))) (fVar 2) (kS (gIc cMod Int.fmod))) (fC (.int 0)) (kS gEq))) (sRaise "Collision" ["first", "second"] (aSl 5 (aSl 4 aNil))) sNil)) (ρ := iE hs p3 none none) (fun _ ρ => ∃ p4 p5, ρ = iE hs p3 p4 p5 ∧ NIo p4 ∧ NIo p5) (e_r1 (m := .shr) (j := (hs.length : Int)) rfl (c62_of (by omega) (by omega))) ⟨none, none, rfl, .non, .non⟩ (by
    rintro j x ρ hx ⟨p4, p5, rfl, k4, k5⟩
    obtain ⟨hj, rfl⟩ := iv0_get hx
    have hj : j < hs.length := by rw [Int.toNat_natCast] at hj; exact hj
    refine ⟨noIo_of k4 rfl, ?_⟩
    obtain ⟨ρ', e5, p5, rfl, k5⟩ := for_int (k := 5) (src := iR1 (fVar 4)) (body := sIf (fTst (fTwo true (fTwo true (fTwo true (fTwo true (fTwo true (fVar 4) (fTwo true (fVar 1) (fVar 4) kIx) kAdd) (fVar 5) (kS (gI fun i j => i - j))) (fTwo true (fVar 1) (fVar 5) kIx) (kS (gI fun i j => i - j))) (fVar 2) (kS (gIc cMod Int.fmod))) (fC (.int 0)) (kS gEq))) (sRaise "Collision" ["first", "second"] (aSl 5 (aSl 4 aNil))) sNil) (ρ := iE hs p3 (some (isv j)) p5) (fun _ ρ => ∃ p5, ρ = iE hs p3 (some (isv j)) p5 ∧ NIo p5) (e_r1 (m := .shr) (j := (j : Int)) rfl (c62_of (by omega) (by omega))) ⟨p5, rfl, k5⟩ (by
      rintro i x ρ hx ⟨p5, rfl, k5⟩
      obtain ⟨hi, rfl⟩ := iv0_get hx
      have hi : i < j := by rw [Int.toNat_natCast] at hi; exact hi
      refine ⟨noIo_of k5 rfl, iE hs p3 (some (isv j)) (some (isv i)), .inl ?_, _, rfl, .some⟩
      have i1 : fTwo true (fVar 1) (fVar 4) kIx (iE hs p3 (some (isv j)) (some (isv i))) = .ok (isv (hs.getD j 0)) (iE hs p3 (some (isv j)) (some (isv i))) := e_ixI (hs := hs) (m := .bor) (m' := .shr) rfl rfl rfl (atI_d hj)
      have i2 : fTwo true (fVar 1) (fVar 5) kIx (iE hs p3 (some (isv j)) (some (isv i))) = .ok (isv (hs.getD i 0)) (iE hs p3 (some (isv j)) (some (isv i))) := e_ixI (hs := hs) (m := .bor) (m' := .shr) rfl rfl rfl (atI_d (Nat.lt_trans hi hj))
      have i3 : fTwo true (fTwo true (fTwo true (fTwo true (fVar 4) (fTwo true (fVar 1) (fVar 4) kIx) kAdd) (fVar 5) (kS (gI fun i j => i - j))) (fTwo true (fVar 1) (fVar 5) kIx) (kS (gI fun i j => i - j))) (fVar 2) (kS (gIc cMod Int.fmod)) (iE hs p3 (some (isv j)) (some (isv i))) = .ok (isv (((j : Int) + hs.getD j 0 - (i : Int) - hs.getD i 0) % (hs.length : Int))) (iE hs p3 (some (isv j)) (some (isv i))) :=
        e_mod (m := .shr) (m' := .shr) (e_two (s := isv ((j : Int) + hs.getD j 0 - (i : Int))) (e_two (s := isv ((j : Int) + hs.getD j 0)) (t := isv i) (e_two (s := isv j) rfl rfl i1 rfl) rfl rfl rfl) rfl i2 rfl) rfl rfl (by omega)
      have := t_eqI (qb := true) (fb := fC (.int 0)) (y := 0) (m' := .shr) i3 rfl rfl
      rw [decide_eq_false (g.nocol hi hj)] at this
      exact e_if_f this)
    exact ⟨_, .inl e5, _, _, rfl, .some, k5⟩)
  have h5 : sAsg 6 (fFrz (fTwo true (fOne (fVar 1) (kS1 gSum)) (fVar 2) (kS (gIc cDiv Int.fdiv)))) (iE hs p3 p4 p5) = .next [some ⟨.io, .ins "Cast" []⟩, some ⟨.bor, dI hs⟩, some (isv (hs.length : Int)), p3, p4, p5, some (isv (hs.sum / (hs.length : Int)))] :=
    e_as (e_frz_shr (e_fdiv (m := .shr) (m' := .shr) (n := (hs.length : Int)) (e_sumI (m := .bor) (hs := hs) rfl) rfl rfl (by omega) (by omega))) rfl rfl rfl
  have h6 : sIf (fTst (fTwo true (fVar 6) (fC (.int 16)) (kS (gB bGt)))) (sRaise "TooManyBalls" ["amount"] (aSl 6 aNil)) sNil [some ⟨.io, .ins "Cast" []⟩, some ⟨.bor, dI hs⟩, some (isv (hs.length : Int)), p3, p4, p5, some (isv (hs.sum / (hs.length : Int)))] = .next [some ⟨.io, .ins "Cast" []⟩, some ⟨.bor, dI hs⟩, some (isv (hs.length : Int)), p3, p4, p5, some (isv (hs.sum / (hs.length : Int)))] := by
    have := e_ltT (f := bGt) (fa := fVar 6) (fb := fC (.int 16)) (qb := true) (ρ := [some ⟨.io, .ins "Cast" []⟩, some ⟨.bor, dI hs⟩, some (isv (hs.length : Int)), p3, p4, p5, some (isv (hs.sum / (hs.length : Int)))]) (x := hs.sum / (hs.length : Int)) (y := 16) (m := .shr) (m' := .shr) rfl rfl rfl
    rw [show bGt (hs.sum / (hs.length : Int)) 16 = false from decide_eq_false (by omega)] at this
    exact e_if_f this
  have h7 : sFldS 0 "_heights" ["Cast"] (fFrz (fOne (fVar 1) kTupOf)) [some ⟨.io, .ins "Cast" []⟩, some ⟨.bor, dI hs⟩, some (isv (hs.length : Int)), p3, p4, p5, some (isv (hs.sum / (hs.length : Int)))] = .next [some ⟨.io, vCast hs⟩, some ⟨.bor, dI hs⟩, some (isv (hs.length : Int)), p3, p4, p5, some (isv (hs.sum / (hs.length : Int)))] := by
    have := e_frz_shr (e_tupI (fa := fVar 1) (ρ := [some ⟨.io, .ins "Cast" []⟩, some ⟨.bor, dI hs⟩, some (isv (hs.length : Int)), p3, p4, p5, some (isv (hs.sum / (hs.length : Int)))]) (hs := hs) (m := .bor) rfl)
    unfold sFldS
    rw [this]; rfl
  have hb : s_Cast___init__ [some ⟨.io, .ins "Cast" []⟩, some ⟨.bor, dI hs⟩, none, none, none, none, none] = .next [some ⟨.io, vCast hs⟩, some ⟨.bor, dI hs⟩, some (isv (hs.length : Int)), p3, p4, p5, some (isv (hs.sum / (hs.length : Int)))] :=
    (e_seq h1).trans ((e_seq h2).trans ((e_seq e3).trans ((e_seq e4).trans ((e_seq h5).trans ((e_seq h6).trans h7)))))
  exact e_runN (pm := [.io, .bor]) (rm := true) (n := 7) (ds := [.ins "Cast" [], dI hs]) (outs := [vCast hs]) hb rfl
theorem iv_get' {lo x : Int} {n j : Nat} (h : (iv lo n)[j]? = some x) : j < n ∧ x = lo + (j : Int) := by
  by_cases c : j < n
  · rw [iv_get c] at h
    exact ⟨c, (Option.some.inj h).symm⟩
  · rw [List.getElem?_eq_none (by rw [iv_length]; omega)] at h; cases h
theorem filt_succ {a : Int} {j : Nat} {f : Int → Bool} : (((iv a (j + 1)).filter f).length : Int) = ((iv a j).filter f).length + (if f (a + (j : Int)) then 1 else 0) := by
  rw [iv_succ, List.filter_append, List.length_append]
  cases h : f (a + (j : Int)) with
  | true => rw [List.filter_cons_of_pos h]; simp
  | false => rw [List.filter_cons_of_neg (by simp [h])]; simp
theorem check_ok {a t : Int} (h : a ≤ t) : fn_check_stretch [.int a, .int t] = .ret .non [] := by
  have tt := e_ltT (f := bLt) (qb := true) (fa := fVar 1) (fb := fVar 0) (ρ := [some (isv a), some (isv t)]) (x := t) (y := a) (m := .shr) (m' := .shr) rfl rfl rfl
  rw [show bLt t a = false from decide_eq_false (by omega)] at tt
  have hb : s_check_stretch [some (isv a), some (isv t)] = .next [some (isv a), some (isv t)] := e_if_f tt
  exact e_runN (pm := [.shr, .shr]) (rm := true) (n := 2) (ds := [.int a, .int t]) (outs := []) hb rfl
abbrev bE (hs : List Int) (a t : Int) (p3 p5 p6 : Option Sv) : En := [some ⟨.bor, dI hs⟩, some (isv a), some (isv t), p3, none, p5, p6]
theorem between_eq {hs : List Int} (g : Gd hs) {a t : Int} (h : a ≤ t) (a1 : -100000 ≤ a) (a2 : a ≤ 100000) (t1 : -100000 ≤ t) (t2 : t ≤ 100000) : fn_count_between [dI hs, .int a, .int t] = .ret (.int (cnt hs a t).length) [] := by
  have l1 := g.l1
  have l2 := g.l2
  have hm := g.max96
  have h1 : sExpr (fCall [.shr, .shr] true fn_check_stretch (aSl 1 (aSl 2 aNil))) (bE hs a t none none none) = .next (bE hs a t none none none) := e_expr (e_cl (s := ⟨.shr, .non⟩) (ds := [.int a, .int t]) (e_aSl rfl (e_aSl rfl rfl)) rfl rfl (check_ok h) rfl rfl)
  have h2 : sAsg 3 (fFrz (fOne (fLc true [4] (iSrc (fVar 0) kItL) (gNm 4) bYes (fFrz (fOne (fVar 4) (kS1 gInt)))) (kS1 gMax))) (bE hs a t none none none) = .next (bE hs a t (some (isv (maxL hs))) none none) := by
    have := lc_id (q := true) (k := 4) (src := iSrc (fVar 0) kItL) (cond := bYes) (elt := fFrz (fOne (fVar 4) (kS1 gInt))) (ρ := bE hs a t none none none) (b := fun _ => true) (fun x => x) (e_itL (m := .bor) rfl) rfl rfl (by omega) (fun _ _ => rfl) (fun _ _ _ => rfl)
    rw [filt_all, List.map_id'] at this
    exact e_as (e_frz_shr (e_maxI this l1)) rfl rfl rfl
  have hb0 : iMax a (t - maxL hs) = if t - maxL hs > a then t - maxL hs else a := rfl
  generalize hbb : iMax a (t - maxL hs) = b at hb0
  have hbr : -200000 ≤ b ∧ b ≤ 200000 := by rw [hb0]; split <;> omega
  obtain ⟨ρ', e1, p6, rfl, k6⟩ := for_int (k := 6) (src := iR2 (fTwo true (fOne (fVar 1) (kS1 gInt)) (fTwo true (fOne (fVar 2) (kS1 gInt)) (fVar 3) (kS (gI fun i j => i - j))) (kS (gI iMax))) (fVar 2)) (body := sIf (fTst (fTwo true (fCall [.bor, .bor] true fn_landing (aSl 0 (aSl 6 aNil))) (fVar 2) (kS (gB bGe)))) (sAug (fun i j => i + j) 5 (fC (.int 1))) sNil)
    (ρ := bE hs a t (some (isv (maxL hs))) (some (isv 0)) none) (fun j ρ => ∃ p6, ρ = bE hs a t (some (isv (maxL hs))) (some (isv (((iv b j).filter fun p => decide (t ≤ land hs p)).length : Int))) p6 ∧ NIo p6)
    (e_r2 (m := .shr) (m' := .shr) (i := b) (j := t) (by rw [← hbb]; rfl) rfl (by rw [c62_of (by omega) (by omega), c62_of (by omega) (by omega)]; rfl)) ⟨none, rfl, .non⟩ (by
    rintro j x ρ hx ⟨p6, rfl, k6⟩
    obtain ⟨hj, rfl⟩ := iv_get' hx
    refine ⟨noIo_of k6 rfl, bE hs a t (some (isv (maxL hs))) (some (isv (((iv b (j + 1)).filter fun p => decide (t ≤ land hs p)).length : Int))) (some (isv (b + (j : Int)))), .inl ?_, _, rfl, .some⟩
    rw [filt_succ]
    generalize b + (j : Int) = x
    generalize (((iv b j).filter fun p => decide (t ≤ land hs p)).length : Int) = n
    have i3 : fCall [.bor, .bor] true fn_landing (aSl 0 (aSl 6 aNil)) (bE hs a t (some (isv (maxL hs))) (some (isv n)) (some (isv x))) = .ok (isv (land hs x)) (bE hs a t (some (isv (maxL hs))) (some (isv n)) (some (isv x))) := e_cl (ds := [dI hs, .int x]) (e_aSl rfl (e_aSl rfl rfl)) rfl rfl (landing_eq l1) rfl rfl
    have tt := e_ltT (f := bGe) (qb := true) (fb := fVar 2) (y := t) (m' := .shr) i3 rfl rfl
    by_cases c : t ≤ land hs x
    · rw [show bGe (land hs x) t = true from decide_eq_true c] at tt
      rw [decide_eq_true c, if_pos rfl]
      exact (e_if_t tt).trans rfl
    · rw [show bGe (land hs x) t = false from decide_eq_false c] at tt
      rw [decide_eq_false c, if_neg (by simp), Int.add_zero]
      exact e_if_f tt)
  rw [iv_length, cnt_clip g (maxL_ge l1) hb0 h hm.1] at e1
  have hb : s_count_between (bE hs a t none none none) = .ret (isv (cnt hs a t).length) (bE hs a t (some (isv (maxL hs))) (some (isv (cnt hs a t).length)) p6) := (e_seq h1).trans ((e_seq h2).trans ((e_seq (show sAsg 5 (fC (.int 0)) (bE hs a t (some (isv (maxL hs))) none none) = .next (bE hs a t (some (isv (maxL hs))) (some (isv 0)) none) from rfl)).trans ((e_seq e1).trans rfl)))
  exact e_run (pm := [.bor, .shr, .shr]) (rm := false) (n := 7) (ds := [dI hs, .int a, .int t]) (outs := []) hb rfl rfl
theorem hts3_eq {hs : List Int} {p q : Int} : fProp "Cast" "heights" true fn_Cast_heights (rSl 0) [some ⟨.bor, vCast hs⟩, some (isv p), some (isv q)] = .ok ⟨.own, dI hs⟩ [some ⟨.bor, vCast hs⟩, some (isv p), some (isv q)] :=
  e_pr (d := vCast hs) (r := dI hs) (a := .sl 0) rfl rfl rfl rfl heights_eq rfl
theorem cast_count_eq {hs : List Int} (g : Gd hs) {a t : Int} (h : a ≤ t) (a1 : -100000 ≤ a) (a2 : a ≤ 100000) (t1 : -100000 ≤ t) (t2 : t ≤ 100000) : fn_Cast_count [vCast hs, .int a, .int t] = .ret (.int (cnt hs a t).length) [] := by
  have hb : s_Cast_count [some ⟨.bor, vCast hs⟩, some (isv a), some (isv t)] = .ret (isv (cnt hs a t).length) [some ⟨.bor, vCast hs⟩, some (isv a), some (isv t)] := e_ret (e_frz_shr (e_cl (ds := [dI hs, .int a, .int t]) (e_aEx hts3_eq rfl (e_aSl rfl (e_aSl rfl rfl))) rfl rfl (between_eq g h a1 a2 t1 t2) rfl rfl))
  exact e_run (pm := [.bor, .shr, .shr]) (rm := false) (n := 3) (ds := [vCast hs, .int a, .int t]) (outs := []) hb rfl rfl
end MV
namespace MV
open PySem PySem.Spec PyProof.Rows L2 He
theorem places_ok {n : Nat} (n1 : 1 ≤ n) (n6 : n ≤ 6) : fn_check_places [.int n] = .ret .non [] := by
  have t := t_ch (p := bLe) (p' := bLe) (fa := fC (.int 1)) (fb := fVar 0) (fc := fC (.int 6)) (ρ := [some (isv n)]) (i := 1) (j := (n : Int)) (k := 6) (m := .shr) (m' := .shr) (m'' := .shr) rfl rfl rfl
  rw [show (bLe 1 (n : Int) && bLe (n : Int) 6) = true by show (decide (1 ≤ (n : Int)) && decide ((n : Int) ≤ 6)) = true; rw [decide_eq_true (by omega), decide_eq_true (by omega)]; rfl] at t
  have hb : s_check_places [some (isv n)] = .next [some (isv n)] := e_if_f (t_not t)
  exact e_runN (pm := [.shr]) (rm := true) (n := 1) (ds := [.int n]) (outs := []) hb rfl
theorem places_exc {n : Int} (h : n < 1 ∨ 6 < n) : fn_check_places [.int n] = .exc "BadSize" [("size", .int n)] [] := by
  have t := t_ch (p := bLe) (p' := bLe) (fa := fC (.int 1)) (fb := fVar 0) (fc := fC (.int 6)) (ρ := [some (isv n)]) (i := 1) (j := n) (k := 6) (m := .shr) (m' := .shr) (m'' := .shr) rfl rfl rfl
  rw [show (bLe 1 n && bLe n 6) = false by
    show (decide (1 ≤ n) && decide (n ≤ 6)) = false
    rcases h with h | h
    · rw [decide_eq_false (show ¬ 1 ≤ n by omega)]; rfl
    · rw [decide_eq_false (show ¬ n ≤ 6 by omega), Bool.and_false]] at t
  have hb : s_check_places [some (isv n)] = .exc "BadSize" [("size", .int n)] [some (isv n)] := (e_if_t (t_not t)).trans rfl
  exact e_runX (pm := [.shr]) (rm := true) (n := 1) (ds := [.int n]) (outs := []) hb rfl
theorem balls_one : fn_check_balls [.int 1] = .ret .non [] := rfl
/-! the stands -/
abbrev csE (n : Int) (xs : List Int) (p2 : Option Sv) : En := [some (isv n), some ⟨.bor, dI xs⟩, p2]
def csB : SemS := (sSeq (sIf (fNot (fTst (fChain bLe bLt (fC (.int 0)) (fTwo true (fVar 1) (fVar 2) kIx) (fVar 0)))) (sRaise "BadStands" ["index"] (aSl 2 aNil)) sNil)
    (sIf (fAnd (fTst (fTwo true (fVar 2) (fC (.int 0)) (kS (gB bGt)))) (fTst (fTwo true (fTwo true (fVar 1) (fVar 2) kIx) (fTwo true (fVar 1) (fTwo true (fVar 2) (fC (.int 1)) (kS (gI fun i j => i - j))) kIx) (kS (gB bLe))))) (sRaise "BadStands" ["index"] (aSl 2 aNil)) sNil))
theorem cs_ix {n : Int} {xs : List Int} {i : Nat} (hi : i < xs.length) : fTwo true (fVar 1) (fVar 2) kIx (csE n xs (some (isv i))) = .ok (isv (xs.getD i 0)) (csE n xs (some (isv i))) := e_ixI (hs := xs) (m := .bor) (m' := .shr) rfl rfl rfl (atI_d hi)
theorem cs_t1 {n : Int} {xs : List Int} {i : Nat} (hi : i < xs.length) : fTst (fChain bLe bLt (fC (.int 0)) (fTwo true (fVar 1) (fVar 2) kIx) (fVar 0)) (csE n xs (some (isv i))) = .ok (decide (0 ≤ xs.getD i 0 ∧ xs.getD i 0 < n)) (csE n xs (some (isv i))) := by
  have t := t_ch (p := bLe) (p' := bLt) (fa := fC (.int 0)) (fc := fVar 0) (i := 0) (k := n) (m := .shr) (m'' := .shr) rfl (cs_ix (n := n) hi) rfl
  rw [t]
  congr 1
  show (decide (0 ≤ xs.getD i 0) && decide (xs.getD i 0 < n)) = _
  rw [Bool.decide_and]
theorem cs_t2 {n : Int} {xs : List Int} {i : Nat} (hi : i < xs.length) : fAnd (fTst (fTwo true (fVar 2) (fC (.int 0)) (kS (gB bGt)))) (fTst (fTwo true (fTwo true (fVar 1) (fVar 2) kIx) (fTwo true (fVar 1) (fTwo true (fVar 2) (fC (.int 1)) (kS (gI fun i j => i - j))) kIx) (kS (gB bLe)))) (csE n xs (some (isv i))) = .ok (decide (0 < i ∧ xs.getD i 0 ≤ xs.getD (i - 1) 0)) (csE n xs (some (isv i))) := by
  have a := e_ltT (f := bGt) (qb := true) (fa := fVar 2) (fb := fC (.int 0)) (ρ := csE n xs (some (isv i))) (x := (i : Int)) (y := 0) (m := .shr) (m' := .shr) rfl rfl rfl
  have b := t_and a (g := fTst (fTwo true (fTwo true (fVar 1) (fVar 2) kIx) (fTwo true (fVar 1) (fTwo true (fVar 2) (fC (.int 1)) (kS (gI fun i j => i - j))) kIx) (kS (gB bLe)))) (b := decide (xs.getD i 0 ≤ xs.getD (i - 1) 0)) (fun h => by
    have h : 0 < i := by have := of_decide_eq_true h; omega
    have s : fTwo true (fVar 2) (fC (.int 1)) (kS (gI fun i j => i - j)) (csE n xs (some (isv i))) = .ok (isv ((i - 1 : Nat) : Int)) (csE n xs (some (isv i))) := by
      rw [show ((i - 1 : Nat) : Int) = (i : Int) - 1 by omega]; rfl
    have s2 : fTwo true (fVar 1) (fTwo true (fVar 2) (fC (.int 1)) (kS (gI fun i j => i - j))) kIx (csE n xs (some (isv i))) = .ok (isv (xs.getD (i - 1) 0)) (csE n xs (some (isv i))) := e_ixI (hs := xs) (m := .bor) rfl rfl s (atI_d (by omega))
    exact e_ltT (f := bLe) (cs_ix hi) rfl s2)
  rw [b]
  congr 1
  rw [Bool.decide_and]
  congr 1
  exact decide_eq_decide.mpr (by omega)
theorem csB_ok {n : Int} {xs : List Int} {i : Nat} (hi : i < xs.length) (h : ¬ bad n xs i) : csB (csE n xs (some (isv i))) = .next (csE n xs (some (isv i))) := by
  have t1 := cs_t1 (n := n) hi
  have t2 := cs_t2 (n := n) hi
  unfold bad at h
  simp only [not_or, Classical.not_not] at h
  rw [decide_eq_true h.1] at t1
  rw [decide_eq_false h.2] at t2
  exact (e_seq (e_if_f (t_not t1))).trans (e_if_f t2)
theorem csB_bad {n : Int} {xs : List Int} {i : Nat} (hi : i < xs.length) (h : bad n xs i) : csB (csE n xs (some (isv i))) = .exc "BadStands" [("index", .int i)] (csE n xs (some (isv i))) := by
  have t1 := cs_t1 (n := n) hi
  have t2 := cs_t2 (n := n) hi
  by_cases c : 0 ≤ xs.getD i 0 ∧ xs.getD i 0 < n
  · have h2 : 0 < i ∧ xs.getD i 0 ≤ xs.getD (i - 1) 0 := h.resolve_left fun z => z c
    rw [decide_eq_true c] at t1
    rw [decide_eq_true h2] at t2
    exact (e_seq (e_if_f (t_not t1))).trans ((e_if_t t2).trans rfl)
  · rw [decide_eq_false c] at t1
    exact e_seqX ((e_if_t (t_not t1)).trans rfl)
theorem cs_h1 {n : Int} {xs : List Int} (h : 0 < xs.length) : sIf (fTst (fTwo true (fOne (fVar 1) (kS1 gLen)) (fC (.int 0)) (kS gEq))) (sRaise "BadStands" ["index"] (aEx (fC (.int 0)) aNil)) sNil (csE n xs none) = .next (csE n xs none) := by
  have t := t_eqI (qb := true) (fb := fC (.int 0)) (y := 0) (m' := .shr) (e_lenI (fa := fVar 1) (hs := xs) (m := .bor) (ρ := csE n xs none) rfl) rfl rfl
  rw [decide_eq_false (by omega)] at t
  exact e_if_f t
theorem stands_ok {n : Int} {xs : List Int} (h0 : 0 < xs.length) (l : xs.length ≤ 1000) (h : ∀ i, i < xs.length → ¬ bad n xs i) : fn_check_stands [.int n, dI xs] = .ret .non [] := by
  have h0' : mk .bor (.int n) = isv n := rfl
  obtain ⟨ρ', e1, p2, rfl, k2⟩ := for_int (k := 2) (src := iR1 (fOne (fVar 1) (kS1 gLen))) (body := csB) (ρ := csE n xs none) (fun _ ρ => ∃ p2, ρ = csE n xs p2 ∧ NIo p2) (e_r1 (e_lenI (hs := xs) (m := .bor) rfl) (c62_of (by omega) (by omega))) ⟨none, rfl, .non⟩ (by
    rintro j x ρ hx ⟨p2, rfl, k2⟩
    obtain ⟨hj, rfl⟩ := iv0_get hx
    have hj : j < xs.length := by rw [Int.toNat_natCast] at hj; exact hj
    exact ⟨noIo_of k2 rfl, csE n xs (some (isv j)), .inl (csB_ok hj (h j hj)), _, rfl, .some⟩)
  have hb : s_check_stands (csE n xs none) = .next (csE n xs p2) := (e_seq (cs_h1 h0)).trans e1
  exact e_runN (pm := [.bor, .bor]) (rm := true) (n := 3) (ds := [.int n, dI xs]) (outs := []) hb rfl
theorem stands_nil {n : Int} : fn_check_stands [.int n, dI []] = .exc "BadStands" [("index", .int 0)] [] := rfl
theorem stands_bad {n : Int} {xs : List Int} (l : xs.length ≤ 1000) {i : Nat} (hi : i < xs.length) (hb : bad n xs i) (h : ∀ j, j < i → ¬ bad n xs j) : fn_check_stands [.int n, dI xs] = .exc "BadStands" [("index", .int i)] [] := by
  have e1 : ∃ ρ', sFor (iR1 (fOne (fVar 1) (kS1 gLen))) (gNm 2) csB (csE n xs none) = .exc "BadStands" [("index", .int i)] ρ' ∧ ∃ p2, ρ' = csE n xs p2 :=
    for_exit (k := 2) (src := iR1 (fOne (fVar 1) (kS1 gLen))) (body := csB) (ρ := csE n xs none) (fun _ ρ => ∃ p2, ρ = csE n xs p2 ∧ NIo p2) (fun r => ∃ ρ', r = .exc "BadStands" [("index", .int i)] ρ' ∧ ∃ p2, ρ' = csE n xs p2) (e_r1 (e_lenI (hs := xs) (m := .bor) rfl) (c62_of (by omega) (by omega))) ⟨none, rfl, .non⟩ (i := i) (by rw [iv_length, Int.toNat_natCast]; exact hi) (by
      rintro j x ρ hji hx ⟨p2, rfl, k2⟩
      obtain ⟨hj, rfl⟩ := iv0_get hx
      exact ⟨noIo_of k2 rfl, csE n xs (some (isv j)), .inl (csB_ok (by omega) (h j hji)), _, rfl, .some⟩) (by
      rintro x ρ hx ⟨p2, rfl, k2⟩
      obtain ⟨hj, rfl⟩ := iv0_get hx
      have := csB_bad (n := n) hi hb
      refine ⟨noIo_of k2 rfl, ?_, ?_⟩
      · show (csB (csE n xs (some (isv i)))).out = true
        rw [this]; rfl
      · show ∃ ρ', csB (csE n xs (some (isv i))) = _ ∧ _
        exact ⟨_, this, _, rfl⟩)
  obtain ⟨ρ', e1, p2, rfl⟩ := e1
  have hb : s_check_stands (csE n xs none) = .exc "BadStands" [("index", .int i)] (csE n xs p2) := (e_seq (cs_h1 (by omega))).trans e1
  exact e_runX (pm := [.bor, .bor]) (rm := true) (n := 3) (ds := [.int n, dI xs]) (outs := []) hb rfl
/-! one entry -/
abbrev oE (n : Int) (xs hs : List Int) (p4 : Option Sv) : En := [some (isv n), some ⟨.bor, dI xs⟩, some ⟨.own, dI hs⟩, none, p4]
theorem entry_p {n : Int} {xs : List Int} (h : n < 1 ∨ 6 < n) : fn_one_entry [.int n, dI xs] = .exc "BadSize" [("size", .int n)] [] := by
  have hb : s_one_entry [some (isv n), some ⟨.bor, dI xs⟩, none, none, none] = .exc "BadSize" [("size", .int n)] [some (isv n), some ⟨.bor, dI xs⟩, none, none, none] := e_seqX (e_exprX (e_clX (ds := [.int n]) (e_aSl rfl rfl) rfl rfl (places_exc h) rfl))
  exact e_runX (pm := [.shr, .bor]) (rm := true) (n := 5) (ds := [.int n, dI xs]) (outs := []) hb rfl
theorem entry_s {n i : Nat} {xs : List Int} (n1 : 1 ≤ n) (n6 : n ≤ 6) (h : fn_check_stands [.int n, dI xs] = .exc "BadStands" [("index", .int i)] []) : fn_one_entry [.int n, dI xs] = .exc "BadStands" [("index", .int i)] [] := by
  have h1 : sExpr (fCall [.shr] true fn_check_places (aSl 0 aNil)) [some (isv n), some ⟨.bor, dI xs⟩, none, none, none] = .next [some (isv n), some ⟨.bor, dI xs⟩, none, none, none] := e_expr (e_cl (s := ⟨.shr, .non⟩) (ds := [.int n]) (e_aSl rfl rfl) rfl rfl (places_ok n1 n6) rfl rfl)
  have hb : s_one_entry [some (isv n), some ⟨.bor, dI xs⟩, none, none, none] = .exc "BadStands" [("index", .int i)] [some (isv n), some ⟨.bor, dI xs⟩, none, none, none] := (e_seq h1).trans (e_seqX (e_exprX (e_clX (ds := [.int n, dI xs]) (e_aSl rfl (e_aSl rfl rfl)) rfl rfl h rfl)))
  exact e_runX (pm := [.shr, .bor]) (rm := true) (n := 5) (ds := [.int n, dI xs]) (outs := []) hb rfl
theorem ent0_len {n : Nat} {S : List Int} : ∀ k : Nat, (ent0 n S k).length = n
  | 0 => List.length_replicate
  | k + 1 => by
    have ih := ent0_len (n := n) (S := S) k
    unfold ent0 at ih ⊢
    rw [List.range_succ, List.foldl_append]
    show (List.set _ _ _).length = n
    rw [List.length_set]; exact ih
theorem ent0_succ {n k : Nat} {S : List Int} : ent0 n S (k + 1) = (ent0 n S k).set (S.getD k 0).toNat (S.getD (k + 1) 0 - S.getD k 0) := by
  unfold ent0
  rw [List.range_succ, List.foldl_append]; rfl
theorem atI_last {xs : List Int} (h : 0 < xs.length) : atI (xs.map Vl.int) (-1) = some (.int (xs.getD (xs.length - 1) 0)) := by
  unfold atI ixN
  rw [if_neg (by omega), List.length_map]
  have : ((-1 : Int) + (xs.length : Int)).toNat = xs.length - 1 := by omega
  rw [List.getD_eq_getElem?_getD]
  first
  | (rw [if_pos (by omega)]
     show (xs.map Vl.int)[((-1 : Int) + (xs.length : Int)).toNat]? = _
     rw [this, List.getElem?_map, List.getElem?_eq_getElem (show xs.length - 1 < xs.length by omega)]; rfl)
  | (simp only [this]; rw [if_pos (by omega)]; rw [List.getElem?_map, List.getElem?_eq_getElem (show xs.length - 1 < xs.length by omega)]; rfl)
theorem entry_ok {n : Nat} {S : List Int} (n1 : 1 ≤ n) (n6 : n ≤ 6) (h0 : 0 < S.length) (l : S.length ≤ 1000) (h : ∀ i, i < S.length → ¬ bad n S i) : fn_one_entry [.int n, dI S] = .ret (dI (ent n S)) [] := by
  have rng : ∀ i, i < S.length → 0 ≤ S.getD i 0 ∧ S.getD i 0 < (n : Int) := fun i hi => by
    have := h i hi
    unfold bad at this
    simp only [not_or, Classical.not_not] at this
    exact this.1
  have h1 : sExpr (fCall [.shr] true fn_check_places (aSl 0 aNil)) [some (isv n), some ⟨.bor, dI S⟩, none, none, none] = .next [some (isv n), some ⟨.bor, dI S⟩, none, none, none] := e_expr (e_cl (s := ⟨.shr, .non⟩) (ds := [.int n]) (e_aSl rfl rfl) rfl rfl (places_ok n1 n6) rfl rfl)
  have h2 : sExpr (fCall [.bor, .bor] true fn_check_stands (aSl 0 (aSl 1 aNil))) [some (isv n), some ⟨.bor, dI S⟩, none, none, none] = .next [some (isv n), some ⟨.bor, dI S⟩, none, none, none] := e_expr (e_cl (s := ⟨.shr, .non⟩) (ds := [.int n, dI S]) (e_aSl rfl (e_aSl rfl rfl)) rfl rfl (stands_ok h0 l h) rfl rfl)
  have h3 : sAsg 2 (fLc true [3] (iR1 (fVar 0)) (gNm 3) bYes (fC (.int 0))) [some (isv n), some ⟨.bor, dI S⟩, none, none, none] = .next (oE n S (ent0 n S 0) none) := by
    have hr : iR1 (fVar 0) [some (isv n), some ⟨.bor, dI S⟩, none, none, none] = .ok (true, (iv 0 (n : Int).toNat).map isv) [some (isv n), some ⟨.bor, dI S⟩, none, none, none] := e_r1 (m := .shr) (j := (n : Int)) rfl (c62_of (by omega) (by omega))
    have := lc_id (q := true) (k := 3) (b := fun _ => true) (cond := bYes) (elt := fC (.int 0)) (fun _ => 0) hr rfl rfl (by rw [iv_length]; omega) (fun _ _ => rfl) (fun _ _ _ => rfl)
    rw [filt_all, List.map_const', iv_length, Int.toNat_natCast] at this
    exact e_as this rfl rfl rfl
  obtain ⟨ρ', e1, p4, rfl, k4⟩ := for_int (k := 4) (src := iR1 (fTwo true (fOne (fVar 1) (kS1 gLen)) (fC (.int 1)) (kS (gI fun i j => i - j)))) (body := sSet 2 (fTwo true (fVar 1) (fVar 4) kIx) (fFrz (fTwo true (fTwo true (fVar 1) (fTwo true (fVar 4) (fC (.int 1)) kAdd) kIx) (fTwo true (fVar 1) (fVar 4) kIx) (kS (gI fun i j => i - j)))))
    (ρ := oE n S (ent0 n S 0) none) (fun k ρ => ∃ p4, ρ = oE n S (ent0 n S k) p4 ∧ NIo p4) (e_r1 (j := (S.length : Int) - 1) (m := .shr) (e_two (e_lenI (hs := S) (m := .bor) rfl) rfl rfl rfl) (c62_of (by omega) (by omega))) ⟨none, rfl, .non⟩ (by
    rintro j x ρ hx ⟨p4, rfl, k4⟩
    obtain ⟨hj, rfl⟩ := iv0_get hx
    have hj : j + 1 < S.length := by omega
    refine ⟨noIo_of k4 rfl, oE n S (ent0 n S (j + 1)) (some (isv j)), .inl ?_, _, rfl, .some⟩
    rw [ent0_succ]
    have i1 : fTwo true (fVar 1) (fVar 4) kIx (oE n S (ent0 n S j) (some (isv j))) = .ok (isv (S.getD j 0)) (oE n S (ent0 n S j) (some (isv j))) := e_ixI (hs := S) (m := .bor) (m' := .shr) rfl rfl rfl (atI_d (by omega))
    have i2 : fTwo true (fVar 1) (fTwo true (fVar 4) (fC (.int 1)) kAdd) kIx (oE n S (ent0 n S j) (some (isv j))) = .ok (isv (S.getD (j + 1) 0)) (oE n S (ent0 n S j) (some (isv j))) := e_ixI (hs := S) (m := .bor) (m' := .shr) (k := ((j + 1 : Nat) : Int)) rfl rfl rfl (atI_d hj)
    have r := rng j (by omega)
    exact e_st (k := (S.getD j 0).toNat) (xs := ent0 n S j) (x := S.getD (j + 1) 0 - S.getD j 0) (m := .own) (m2 := .shr) (e_frz_shr (e_two i2 rfl i1 rfl)) rfl (by rw [i1, show ((S.getD j 0).toNat : Int) = S.getD j 0 by omega]) rfl rfl (by rw [ent0_len]; omega) rfl)
  rw [iv_length, show ((S.length : Int) - 1).toNat = S.length - 1 by omega] at e1
  have r := rng (S.length - 1) (by omega)
  have h5 : sSet 2 (fTwo true (fVar 1) (fOne (fC (.int 1)) (kS1 gNeg)) kIx) (fFrz (fTwo true (fTwo true (fTwo true (fVar 1) (fC (.int 0)) kIx) (fVar 0) kAdd) (fTwo true (fVar 1) (fOne (fC (.int 1)) (kS1 gNeg)) kIx) (kS (gI fun i j => i - j)))) (oE n S (ent0 n S (S.length - 1)) p4) = .next (oE n S (ent n S) p4) := by
    have i1 : fTwo true (fVar 1) (fOne (fC (.int 1)) (kS1 gNeg)) kIx (oE n S (ent0 n S (S.length - 1)) p4) = .ok (isv (S.getD (S.length - 1) 0)) (oE n S (ent0 n S (S.length - 1)) p4) := e_ixI (hs := S) (m := .bor) (m' := .shr) (k := -1) rfl rfl rfl (atI_last h0)
    have i2 : fTwo true (fVar 1) (fC (.int 0)) kIx (oE n S (ent0 n S (S.length - 1)) p4) = .ok (isv (S.getD 0 0)) (oE n S (ent0 n S (S.length - 1)) p4) := e_ixI (hs := S) (m := .bor) (m' := .shr) (k := ((0 : Nat) : Int)) rfl rfl rfl (atI_d h0)
    exact e_st (k := (S.getD (S.length - 1) 0).toNat) (xs := ent0 n S (S.length - 1)) (x := S.getD 0 0 + (n : Int) - S.getD (S.length - 1) 0) (m := .own) (m2 := .shr) (e_frz_shr (e_two (s := isv (S.getD 0 0 + (n : Int))) (e_two i2 rfl rfl rfl) rfl i1 rfl)) rfl (by rw [i1, show ((S.getD (S.length - 1) 0).toNat : Int) = S.getD (S.length - 1) 0 by omega]) rfl rfl (by rw [ent0_len]; omega) rfl
  have hb : s_one_entry [some (isv n), some ⟨.bor, dI S⟩, none, none, none] = .ret ⟨.own, dI (ent n S)⟩ [some (isv n), some ⟨.bor, dI S⟩, none, none, p4] := (e_seq h1).trans ((e_seq h2).trans ((e_seq h3).trans ((e_seq e1).trans ((e_seq h5).trans rfl))))
  exact e_run (pm := [.shr, .bor]) (rm := true) (n := 5) (ds := [.int n, dI S]) (outs := []) hb rfl rfl
end MV
namespace MV
open PySem PySem.Spec PyProof.Rows L2 He
/-- what the items of a list are: good stands, or the first that is not -/
inductive Kd (n : Int) (xs : List Int) : Prop
  | size (h : n < 1 ∨ 6 < n)
  | nil (m : Nat) (e : n = m) (n1 : 1 ≤ m) (n6 : m ≤ 6) (h : xs = [])
  | bad (m : Nat) (e : n = m) (n1 : 1 ≤ m) (n6 : m ≤ 6) (i : Nat) (hi : i < xs.length) (hb : bad n xs i) (h : ∀ j, j < i → ¬ MV.bad n xs j)
  | good (m : Nat) (e : n = m) (n1 : 1 ≤ m) (n6 : m ≤ 6) (h0 : 0 < xs.length) (h : ∀ i, i < xs.length → ¬ MV.bad n xs i)
theorem kd_of (n : Int) (xs : List Int) : Kd n xs := by
  by_cases h : n < 1 ∨ 6 < n
  · exact .size h
  · have e : n = (n.toNat : Int) := by omega
    cases xs with
    | nil => exact .nil n.toNat e (by omega) (by omega) rfl
    | cons x xs =>
      rcases least (P := bad n (x :: xs)) (x :: xs).length with ⟨i, h1, h2, h3⟩ | h2
      · exact .bad n.toNat e (by omega) (by omega) i h1 h2 h3
      · exact .good n.toNat e (by omega) (by omega) (by simp) h2
/-- what is told of it -/
abbrev vTold (s : Str) (i : Int) : Vl := .lst [.str s, .int i]
/-! Cast.entry -/
theorem castE_ok {n : Nat} {S : List Int} (n1 : 1 ≤ n) (n6 : n ≤ 6) (h0 : 0 < S.length) (l : S.length ≤ 1000) (h : ∀ i, i < S.length → ¬ bad n S i) : fn_Cast_entry [.int n, dI S] = .ret (vCast (ent n S)) [] := by
  obtain ⟨a1, a2⟩ := asc_of h
  have E := ent_of n1 n6 (asc_in n1 n6 a1 a2 (by intro e; rw [e] at h0; simp at h0))
  have x1 : fCall [.shr, .bor] true fn_one_entry (aSl 0 (aSl 1 aNil)) [some (isv n), some ⟨.bor, dI S⟩] = .ok ⟨.own, dI (ent n S)⟩ [some (isv n), some ⟨.bor, dI S⟩] := e_cl (ds := [.int n, dI S]) (e_aSl rfl (e_aSl rfl rfl)) rfl rfl (entry_ok n1 n6 h0 l h) rfl rfl
  have i1 := init_eq E.gd (by
    rw [E.sum, E.len]
    have : n = 1 ∨ n = 2 ∨ n = 3 ∨ n = 4 ∨ n = 5 ∨ n = 6 := by omega
    rcases this with rfl | rfl | rfl | rfl | rfl | rfl <;> decide)
  have hb : s_Cast_entry [some (isv n), some ⟨.bor, dI S⟩] = .ret ⟨.own, vCast (ent n S)⟩ [some (isv n), some ⟨.bor, dI S⟩] := e_ret (e_mk (ds := [dI (ent n S)]) (e_aEx x1 rfl rfl) rfl rfl i1)
  exact e_run (pm := [.shr, .bor]) (rm := true) (n := 2) (ds := [.int n, dI S]) (outs := []) hb rfl rfl
theorem e_aExX {f : Sem1} {fr : SemA} {ρ ρ1 : En} {c : Str} {fs : List (Str × Vl)} (h : f ρ = .exc c fs ρ1) : aEx f fr ρ = .exc c fs ρ1 := by unfold aEx; rw [h]; rfl
theorem e_mkX {c : Str} {pm : List PM} {fn : Fn} {fa : SemA} {ρ ρ1 : En} {x : Str} {fs : List (Str × Vl)} (h : fa ρ = .exc x fs ρ1) : fMake c pm fn fa ρ = .exc x fs ρ1 := by unfold fMake; rw [h]; rfl
theorem castE_exc {n : Int} {xs : List Int} {c : Str} {fs : List (Str × Vl)} (h : fn_one_entry [.int n, dI xs] = .exc c fs []) : fn_Cast_entry [.int n, dI xs] = .exc c fs [] := by
  have hb : s_Cast_entry [some (isv n), some ⟨.bor, dI xs⟩] = .exc c fs [some (isv n), some ⟨.bor, dI xs⟩] := e_retX (e_mkX (e_aExX (e_clX (ds := [.int n, dI xs]) (e_aSl rfl (e_aSl rfl rfl)) rfl rfl h rfl)))
  exact e_runX (pm := [.shr, .bor]) (rm := true) (n := 2) (ds := [.int n, dI xs]) (outs := []) hb rfl
/-! Cast.single, the faces -/
def sgl (n : Nat) (p : Int) : List Int := (iv 0 n).map fun q => if q = p then (n : Int) else 0
theorem sgl_ent : ∀ n ∈ [1, 2, 3, 4, 5, 6], ∀ p ∈ iv 0 n, sgl n p = ent n [p] ∧ [p] ∈ subs n := by decide +kernel
theorem single_eq {n : Nat} {p : Int} (n1 : 1 ≤ n) (n6 : n ≤ 6) (p0 : 0 ≤ p) (p1 : p < n) : fn_Cast_single [.int n, .int p, .int 1] = .ret (vCast (ent n [p])) [] := by
  obtain ⟨e, hs⟩ := sgl_ent n (in6 n1 n6) p (mem_iv.mpr (by omega))
  have E := ent_of n1 n6 hs
  have h1 : sExpr (fCall [.shr] true fn_check_places (aSl 0 aNil)) [some (isv n), some (isv p), some (isv 1), none] = .next [some (isv n), some (isv p), some (isv 1), none] := e_expr (e_cl (s := ⟨.shr, .non⟩) (ds := [.int n]) (e_aSl rfl rfl) rfl rfl (places_ok n1 n6) rfl rfl)
  have t := t_ch (p := bLe) (p' := bLt) (fa := fC (.int 0)) (fb := fVar 1) (fc := fVar 0) (ρ := [some (isv n), some (isv p), some (isv 1), none]) (i := 0) (j := p) (k := n) (m := .shr) (m' := .shr) (m'' := .shr) rfl rfl rfl
  rw [show (bLe 0 p && bLt p n) = true by show (decide (0 ≤ p) && decide (p < (n : Int))) = true; rw [decide_eq_true p0, decide_eq_true p1]; rfl] at t
  have h3 : sExpr (fCall [.shr] true fn_check_balls (aSl 2 aNil)) [some (isv n), some (isv p), some (isv 1), none] = .next [some (isv n), some (isv p), some (isv 1), none] := e_expr (e_cl (s := ⟨.shr, .non⟩) (ds := [.int 1]) (e_aSl rfl rfl) rfl rfl balls_one rfl rfl)
  have hl : fLc true [3] (iR1 (fVar 0)) (gNm 3) bYes (fFrz (fIf (fTst (fTwo true (fVar 3) (fVar 1) (kS gEq))) (fTwo true (fVar 2) (fVar 0) kMul) (fC (.int 0)))) [some (isv n), some (isv p), some (isv 1), none] = .ok ⟨.own, dI (ent n [p])⟩ [some (isv n), some (isv p), some (isv 1), none] := by
    have hr : iR1 (fVar 0) [some (isv n), some (isv p), some (isv 1), none] = .ok (true, (iv 0 (n : Int).toNat).map isv) [some (isv n), some (isv p), some (isv 1), none] := e_r1 (m := .shr) (j := (n : Int)) rfl (c62_of (by omega) (by omega))
    have := lc_id (q := true) (k := 3) (b := fun _ => true) (cond := bYes) (elt := fFrz (fIf (fTst (fTwo true (fVar 3) (fVar 1) (kS gEq))) (fTwo true (fVar 2) (fVar 0) kMul) (fC (.int 0)))) (fun q => if q = p then (n : Int) else 0) hr rfl rfl (by rw [iv_length]; omega) (fun _ _ => rfl) (fun q _ _ => by
      have t := t_eqI (qb := true) (fa := fVar 3) (fb := fVar 1) (ρ := [some (isv n), some (isv p), some (isv 1), some (isv q)]) (x := q) (y := p) (m := .shr) (m' := .shr) rfl rfl rfl
      have mu := e_mul (qb := true) (fa := fVar 2) (fb := fVar 0) (ρ := [some (isv n), some (isv p), some (isv 1), some (isv q)]) (p := 1) (n := (n : Int)) (m := .shr) (m' := .shr) rfl rfl rfl (by omega) (by omega)
      rw [Int.one_mul] at mu
      show fFrz (fIf _ _ _) [some (isv n), some (isv p), some (isv 1), some (isv q)] = .ok (isv (if q = p then (n : Int) else 0)) [some (isv n), some (isv p), some (isv 1), some (isv q)]
      refine e_frz_shr ?_
      unfold fIf
      rw [t]
      by_cases c : q = p
      · rw [decide_eq_true c, if_pos c]; exact mu
      · rw [decide_eq_false c, if_neg c]; rfl)
    rw [filt_all, Int.toNat_natCast] at this
    rw [this]
    show Rs.ok (Sv.mk .own (dI (sgl n p))) _ = _
    rw [e]
  have i1 := init_eq E.gd (by
    rw [E.sum, E.len]
    have : n = 1 ∨ n = 2 ∨ n = 3 ∨ n = 4 ∨ n = 5 ∨ n = 6 := by omega
    rcases this with rfl | rfl | rfl | rfl | rfl | rfl <;> decide)
  have hb : s_Cast_single [some (isv n), some (isv p), some (isv 1), none] = .ret ⟨.own, vCast (ent n [p])⟩ [some (isv n), some (isv p), some (isv 1), none] :=
    (e_seq h1).trans ((e_seq (e_if_f (t_not t))).trans ((e_seq h3).trans (e_ret (e_mk (ds := [dI (ent n [p])]) (e_aEx hl rfl rfl) rfl rfl i1))))
  exact e_run (pm := [.shr, .shr, .shr]) (rm := true) (n := 4) (ds := [.int n, .int p, .int 1]) (outs := []) hb rfl rfl
theorem castP_eq {hs : List Int} : fn_Cast_places [vCast hs] = .ret (.int (hs.length : Int)) [] := by
  have hb : s_Cast_places [some ⟨.bor, vCast hs⟩] = .ret (isv (hs.length : Int)) [some ⟨.bor, vCast hs⟩] := by
    refine e_ret ?_
    show Rs.ok (Sv.mk .shr (.int ((hs.map Vl.int).length : Nat))) _ = _
    rw [List.length_map]
  exact e_run (pm := [.bor]) (rm := true) (n := 1) (ds := [vCast hs]) (outs := []) hb rfl rfl
theorem castU_eq {hs : List Int} (l : hs.length ≤ 1000) : fn_Cast_used [vCast hs] = .ret (dI ((iv 0 hs.length).filter fun p => !decide (hs.getD p.toNat 0 = 0))) [] := by
  have hr : iR1 (fOne (fOne (fVar 0) (kFld "_heights" ["Cast"])) (kS1 gLen)) [some ⟨.bor, vCast hs⟩, none] = .ok (true, (iv 0 (hs.length : Int).toNat).map isv) [some ⟨.bor, vCast hs⟩, none] := e_r1 (m := .shr) (j := (hs.length : Int)) (by
    show Rs.ok (Sv.mk .shr (.int ((hs.map Vl.int).length : Nat))) _ = _
    rw [List.length_map]) (c62_of (by omega) (by omega))
  have := lc_id (q := true) (k := 1) (b := fun p => !decide (hs.getD p.toNat 0 = 0)) (cond := fTst (fTwo true (fTwo true (fOne (fVar 0) (kFld "_heights" ["Cast"])) (fVar 1) kIx) (fC (.int 0)) (kS gNe))) (elt := fVar 1) (fun x => x) hr rfl rfl (by rw [iv_length]; omega) (fun q hq => by
    have hq' := mem_iv.mp hq
    have x1 : fTwo true (fOne (fVar 0) (kFld "_heights" ["Cast"])) (fVar 1) kIx [some ⟨.bor, vCast hs⟩, some (isv q)] = .ok (isv (hs.getD q.toNat 0)) [some ⟨.bor, vCast hs⟩, some (isv q)] := by
      refine e_two (s := ⟨.bor, .tup (hs.map Vl.int)⟩) (t := isv q) rfl rfl rfl ?_
      show (match atI (hs.map Vl.int) q with | some d => Rs.ok (mk .bor d) _ | none => .bad) = _
      rw [show q = ((q.toNat : Nat) : Int) by omega, atI_d (by omega)]; rfl
    exact t_neI (qb := true) x1 rfl rfl) (fun _ _ _ => rfl)
  rw [List.map_id', Int.toNat_natCast] at this
  have hb : s_Cast_used [some ⟨.bor, vCast hs⟩, none] = .ret ⟨.own, dI ((iv 0 hs.length).filter fun p => !decide (hs.getD p.toNat 0 = 0))⟩ [some ⟨.bor, vCast hs⟩, none] := e_ret this
  exact e_run (pm := [.bor]) (rm := true) (n := 2) (ds := [vCast hs]) (outs := []) hb rfl rfl
/-! row, outcome, base -/
theorem row_eq {s : Str} {i : Int} : fn_l_row [.str s, dI [i], .bl false] = .ret (vTold s i) [] := by
  have hq : ∀ q : Int, fCall [.bor] true fn_l_whole (aSl 3 aNil) [some ⟨.shr, .str s⟩, some ⟨.bor, dI [i]⟩, some ⟨.shr, .bl false⟩, some (isv q)] = .ok ⟨.shr, .bl true⟩ [some ⟨.shr, .str s⟩, some ⟨.bor, dI [i]⟩, some ⟨.shr, .bl false⟩, some (isv q)] := fun q => e_cl (ds := [.int q]) (e_aSl rfl rfl) rfl rfl (whole_int q) rfl rfl
  have h1 := lc_id (q := false) (k := 3) (src := iSrc (fVar 1) kItL) (cond := fNot (fTru (fCall [.bor] true fn_l_whole (aSl 3 aNil)))) (elt := fVar 3) (ρ := [some ⟨.shr, .str s⟩, some ⟨.bor, dI [i]⟩, some ⟨.shr, .bl false⟩, none]) (xs := [i]) (b := fun _ => false) (fun x => x) (e_itL (m := .bor) rfl) rfl rfl (by simp) (fun q _ => t_not (t_tru (hq q))) (fun _ _ h => by cases h)
  have h2 := t_neL (qb := true) (fb := fLst aNil) (x := []) (y := []) (m' := .own) h1 rfl rfl
  have h3 : sIf (fOr (fTru (fVar 2)) (fTst (fTwo true (fLc false [3] (iSrc (fVar 1) kItL) (gNm 3) (fNot (fTru (fCall [.bor] true fn_l_whole (aSl 3 aNil)))) (fVar 3)) (fLst aNil) (kS gNe)))) (sRet (fLst (aEx (fC (.str "odd")) aNil))) sNil [some ⟨.shr, .str s⟩, some ⟨.bor, dI [i]⟩, some ⟨.shr, .bl false⟩, none] = .next [some ⟨.shr, .str s⟩, some ⟨.bor, dI [i]⟩, some ⟨.shr, .bl false⟩, none] := e_if_f (t_or_f (ρ1 := [some ⟨.shr, .str s⟩, some ⟨.bor, dI [i]⟩, some ⟨.shr, .bl false⟩, none]) rfl h2)
  have hb : s_l_row [some ⟨.shr, .str s⟩, some ⟨.bor, dI [i]⟩, some ⟨.shr, .bl false⟩, none] = .ret ⟨.own, vTold s i⟩ [some ⟨.shr, .str s⟩, some ⟨.bor, dI [i]⟩, some ⟨.shr, .bl false⟩, none] := (e_seq h3).trans rfl
  exact e_run (pm := [.shr, .bor, .bor]) (rm := true) (n := 4) (ds := [.str s, dI [i], .bl false]) (outs := []) hb rfl rfl
abbrev uE (n : Int) (xs : List Int) (b : Bool) (p4 : Option Sv) : En := [some (isv n), some ⟨.bor, dI xs⟩, some ⟨.shr, .bl b⟩, none, p4]
def uT : SemS := (sIf (fTru (fVar 2)) (sExpr (fCall [.shr, .bor] true fn_Cast_entry (aSl 0 (aSl 1 aNil)))) (sExpr (fCall [.shr, .bor] true fn_one_entry (aSl 0 (aSl 1 aNil)))))
theorem uT_exc {n : Int} {xs : List Int} {b : Bool} {c : Str} {fs : List (Str × Vl)} (h : fn_one_entry [.int n, dI xs] = .exc c fs []) : uT (uE n xs b none) = .exc c fs (uE n xs b none) := by
  have t : fTru (fVar 2) (uE n xs b none) = .ok b (uE n xs b none) := rfl
  cases b with
  | true => exact (e_if_t t).trans (e_exprX (e_clX (ds := [.int n, dI xs]) (e_aSl rfl (e_aSl rfl rfl)) rfl rfl (castE_exc h) rfl))
  | false => exact (e_if_f t).trans (e_exprX (e_clX (ds := [.int n, dI xs]) (e_aSl rfl (e_aSl rfl rfl)) rfl rfl h rfl))
theorem out_size {n : Int} {xs : List Int} {b : Bool} (h : fn_one_entry [.int n, dI xs] = .exc "BadSize" [("size", .int n)] []) : fn_l_outcome [.int n, dI xs, .bl b] = .ret (vTold "size" n) [] := by
  have r : fCall [.shr, .bor, .bor] true fn_l_row (aEx (fC (.str "size")) (aEx (fLst (aEx (fXf [("size", .int n)] "size") aNil)) (aSl 4 aNil))) (uE n xs b (some ⟨.shr, .bl false⟩)) = .ok ⟨.own, vTold "size" n⟩ (uE n xs b (some ⟨.shr, .bl false⟩)) := e_cl (as := [.ex ⟨.shr, .str "size"⟩, .ex ⟨.own, dI [n]⟩, .sl 4]) (ds := [.str "size", dI [n], .bl false]) rfl rfl rfl row_eq rfl rfl
  have su : (sSeq (sAsg 4 (fFrz (fIsX (List.contains ([] : List Str) "BadSize"))))
    (sRet (fCall [.shr, .bor, .bor] true fn_l_row (aEx (fC (.str "size")) (aEx (fLst (aEx (fXf [("size", .int n)] "size") aNil)) (aSl 4 aNil)))))) (uE n xs b none) = .ret ⟨.own, vTold "size" n⟩ (uE n xs b (some ⟨.shr, .bl false⟩)) :=
    (e_seq (show sAsg 4 (fFrz (fIsX (List.contains ([] : List Str) "BadSize"))) (uE n xs b none) = .next (uE n xs b (some ⟨.shr, .bl false⟩)) from rfl)).trans (e_ret r)
  have hb : s_l_outcome (uE n xs b none) = .ret ⟨.own, vTold "size" n⟩ (uE n xs b (some ⟨.shr, .bl false⟩)) := e_seqR (e_try (uT_exc h) (e_hRun (ρ1 := uE n xs b none) rfl rfl su rfl))
  exact e_run (pm := [.shr, .bor, .bor]) (rm := true) (n := 5) (ds := [.int n, dI xs, .bl b]) (outs := []) hb rfl rfl
theorem out_stands {n i : Int} {xs : List Int} {b : Bool} (h : fn_one_entry [.int n, dI xs] = .exc "BadStands" [("index", .int i)] []) : fn_l_outcome [.int n, dI xs, .bl b] = .ret (vTold "stands" i) [] := by
  have r : fCall [.shr, .bor, .bor] true fn_l_row (aEx (fC (.str "stands")) (aEx (fLst (aEx (fXf [("index", .int i)] "index") aNil)) (aSl 4 aNil))) (uE n xs b (some ⟨.shr, .bl false⟩)) = .ok ⟨.own, vTold "stands" i⟩ (uE n xs b (some ⟨.shr, .bl false⟩)) := e_cl (as := [.ex ⟨.shr, .str "stands"⟩, .ex ⟨.own, dI [i]⟩, .sl 4]) (ds := [.str "stands", dI [i], .bl false]) rfl rfl rfl row_eq rfl rfl
  have su : (sSeq (sAsg 4 (fFrz (fIsX (List.contains ([] : List Str) "BadStands"))))
    (sRet (fCall [.shr, .bor, .bor] true fn_l_row (aEx (fC (.str "stands")) (aEx (fLst (aEx (fXf [("index", .int i)] "index") aNil)) (aSl 4 aNil)))))) (uE n xs b none) = .ret ⟨.own, vTold "stands" i⟩ (uE n xs b (some ⟨.shr, .bl false⟩)) :=
    (e_seq (show sAsg 4 (fFrz (fIsX (List.contains ([] : List Str) "BadStands"))) (uE n xs b none) = .next (uE n xs b (some ⟨.shr, .bl false⟩)) from rfl)).trans (e_ret r)
  have hb : s_l_outcome (uE n xs b none) = .ret ⟨.own, vTold "stands" i⟩ (uE n xs b (some ⟨.shr, .bl false⟩)) := e_seqR (e_try (uT_exc h) (e_hSkip rfl (e_hRun (ρ1 := uE n xs b none) rfl rfl su rfl)))
  exact e_run (pm := [.shr, .bor, .bor]) (rm := true) (n := 5) (ds := [.int n, dI xs, .bl b]) (outs := []) hb rfl rfl
theorem out_ok {n : Nat} {S : List Int} {b : Bool} (n1 : 1 ≤ n) (n6 : n ≤ 6) (h0 : 0 < S.length) (l : S.length ≤ 1000) (h : ∀ i, i < S.length → ¬ bad n S i) : fn_l_outcome [.int n, dI S, .bl b] = .ret (.lst []) [] := by
  have t : fTru (fVar 2) (uE n S b none) = .ok b (uE n S b none) := rfl
  have h1 : uT (uE n S b none) = .next (uE n S b none) := by
    cases b with
    | true => exact (e_if_t t).trans (e_expr (e_cl (ds := [.int n, dI S]) (e_aSl rfl (e_aSl rfl rfl)) rfl rfl (castE_ok n1 n6 h0 l h) rfl rfl))
    | false => exact (e_if_f t).trans (e_expr (e_cl (ds := [.int n, dI S]) (e_aSl rfl (e_aSl rfl rfl)) rfl rfl (entry_ok n1 n6 h0 l h) rfl rfl))
  have hb : s_l_outcome (uE n S b none) = .ret ⟨.own, .lst []⟩ (uE n S b none) := (e_seq (e_tryN h1)).trans rfl
  exact e_run (pm := [.shr, .bor, .bor]) (rm := true) (n := 5) (ds := [.int n, dI S, .bl b]) (outs := []) hb rfl rfl
theorem base_size {n : Int} {xs : List Int} (h : fn_one_entry [.int n, dI xs] = .exc "BadSize" [("size", .int n)] []) : fn_l_base [.int n, dI xs] = .ret (.bl true) [] := by
  have h1 : sExpr (fCall [.shr, .bor] true fn_one_entry (aSl 0 (aSl 1 aNil))) [some (isv n), some ⟨.bor, dI xs⟩, none] = .exc "BadSize" [("size", .int n)] [some (isv n), some ⟨.bor, dI xs⟩, none] := e_exprX (e_clX (ds := [.int n, dI xs]) (e_aSl rfl (e_aSl rfl rfl)) rfl rfl h rfl)
  have hb : s_l_base [some (isv n), some ⟨.bor, dI xs⟩, none] = .ret ⟨.shr, .bl true⟩ [some (isv n), some ⟨.bor, dI xs⟩, none] := e_seqR (e_try h1 (e_hRun (ρ1 := [some (isv n), some ⟨.bor, dI xs⟩, none]) (r := .ret ⟨.shr, .bl true⟩ [some (isv n), some ⟨.bor, dI xs⟩, none]) rfl rfl rfl rfl))
  exact e_run (pm := [.shr, .bor]) (rm := true) (n := 3) (ds := [.int n, dI xs]) (outs := []) hb rfl rfl
theorem base_stands {n i : Int} {xs : List Int} (h : fn_one_entry [.int n, dI xs] = .exc "BadStands" [("index", .int i)] []) : fn_l_base [.int n, dI xs] = .ret (.bl true) [] := by
  have h1 : sExpr (fCall [.shr, .bor] true fn_one_entry (aSl 0 (aSl 1 aNil))) [some (isv n), some ⟨.bor, dI xs⟩, none] = .exc "BadStands" [("index", .int i)] [some (isv n), some ⟨.bor, dI xs⟩, none] := e_exprX (e_clX (ds := [.int n, dI xs]) (e_aSl rfl (e_aSl rfl rfl)) rfl rfl h rfl)
  have hb : s_l_base [some (isv n), some ⟨.bor, dI xs⟩, none] = .ret ⟨.shr, .bl true⟩ [some (isv n), some ⟨.bor, dI xs⟩, none] := e_seqR (e_try h1 (e_hRun (ρ1 := [some (isv n), some ⟨.bor, dI xs⟩, none]) (r := .ret ⟨.shr, .bl true⟩ [some (isv n), some ⟨.bor, dI xs⟩, none]) rfl rfl rfl rfl))
  exact e_run (pm := [.shr, .bor]) (rm := true) (n := 3) (ds := [.int n, dI xs]) (outs := []) hb rfl rfl
end MV
namespace MV
open PySem PySem.Spec PyProof.Rows L2 He
/-! holds -/
abbrev hE (n : Int) (S : List Int) (a t : Int) (p4 : Option Sv) : En := [some (isv n), some ⟨.bor, dI S⟩, some (isv a), some (isv t), p4]
def hB : SemS := sIf (fTst (fTwo true (fTwo true (fOne (fVar 4) (kS1 gInt)) (fVar 0) (kS (gIc cMod Int.fmod))) (fVar 1) (kS (gIn false)))) (sRet (fC (.int 1))) sNil
theorem h_t {n : Nat} (n1 : 1 ≤ n) {S : List Int} {a t p : Int} : fTst (fTwo true (fTwo true (fOne (fVar 4) (kS1 gInt)) (fVar 0) (kS (gIc cMod Int.fmod))) (fVar 1) (kS (gIn false))) (hE n S a t (some (isv p))) = .ok (decide (p % (n : Int) ∈ S)) (hE n S a t (some (isv p))) := by
  have x1 : fTwo true (fOne (fVar 4) (kS1 gInt)) (fVar 0) (kS (gIc cMod Int.fmod)) (hE n S a t (some (isv p))) = .ok (isv (p % (n : Int))) (hE n S a t (some (isv p))) := e_mod (p := p) (n := (n : Int)) (m := .shr) (m' := .shr) rfl rfl rfl (by omega)
  exact t_inI (m' := .bor) (y := S) x1 rfl rfl
theorem holds_eq {n : Nat} {S : List Int} {a t : Int} (n1 : 1 ≤ n) (a1 : -100000 ≤ a) (a2 : a ≤ 100000) (t1 : -100000 ≤ t) (t2 : t ≤ 100000) : fn_l_holds [.int n, dI S, .int a, .int t] = .ret (.int (hold n S a t)) [] := by
  have src : iR2 (fVar 2) (fVar 3) (hE n S a t none) = .ok (true, (iv a (t - a).toNat).map isv) (hE n S a t none) := e_r2 (m := .shr) (m' := .shr) (i := a) (j := t) rfl rfl (by rw [c62_of (by omega) (by omega), c62_of (by omega) (by omega)]; rfl)
  have ok : ∀ (j : Nat) (p4 : Option Sv), ¬ (a + (j : Int)) % (n : Int) ∈ S → hB (hE n S a t (some (isv (a + (j : Int))))) = .next (hE n S a t (some (isv (a + (j : Int))))) := fun j p4 h => by
    have tt := h_t n1 (S := S) (a := a) (t := t) (p := a + (j : Int))
    rw [decide_eq_false h] at tt
    exact e_if_f tt
  rcases least (P := fun j => (a + (j : Int)) % (n : Int) ∈ S) (t - a).toNat with ⟨i, hi, hP, hl⟩ | hn
  · have e1 : ∃ p4, sFor (iR2 (fVar 2) (fVar 3)) (gNm 4) hB (hE n S a t none) = .ret (isv 1) (hE n S a t p4) :=
      for_exit (k := 4) (src := iR2 (fVar 2) (fVar 3)) (body := hB) (ρ := hE n S a t none) (fun _ ρ => ∃ p4, ρ = hE n S a t p4 ∧ NIo p4) (fun r => ∃ p4, r = .ret (isv 1) (hE n S a t p4)) src ⟨none, rfl, .non⟩ (i := i) (by rw [iv_length]; exact hi) (by
        rintro j x ρ hji hx ⟨p4, rfl, k4⟩
        obtain ⟨hj, rfl⟩ := iv_get' hx
        exact ⟨noIo_of k4 rfl, hE n S a t (some (isv (a + (j : Int)))), .inl (ok j p4 (hl j hji)), _, rfl, .some⟩) (by
        rintro x ρ hx ⟨p4, rfl, k4⟩
        obtain ⟨hj, rfl⟩ := iv_get' hx
        have tt := h_t n1 (S := S) (a := a) (t := t) (p := a + (i : Int))
        rw [decide_eq_true hP] at tt
        have : hB (hE n S a t (some (isv (a + (i : Int))))) = .ret (isv 1) (hE n S a t (some (isv (a + (i : Int))))) := (e_if_t tt).trans rfl
        refine ⟨noIo_of k4 rfl, ?_, ?_⟩
        · show (hB (hE n S a t (some (isv (a + (i : Int)))))).out = true
          rw [this]; rfl
        · show ∃ p4, hB (hE n S a t (some (isv (a + (i : Int))))) = _
          exact ⟨_, this⟩)
    obtain ⟨p4, e1⟩ := e1
    have hb : s_l_holds (hE n S a t none) = .ret (isv 1) (hE n S a t p4) := e_seqR e1
    have hh : hold n S a t = 1 := by
      unfold hold
      rw [if_pos (List.any_eq_true.mpr ⟨a + (i : Int), mem_iv.mpr (by omega), decide_eq_true hP⟩)]
    rw [hh]
    exact e_run (pm := [.bor, .bor, .bor, .bor]) (rm := true) (n := 5) (ds := [.int n, dI S, .int a, .int t]) (outs := []) hb rfl rfl
  · obtain ⟨ρ', e1, p4, rfl, k4⟩ := for_int (k := 4) (src := iR2 (fVar 2) (fVar 3)) (body := hB) (ρ := hE n S a t none) (fun _ ρ => ∃ p4, ρ = hE n S a t p4 ∧ NIo p4) src ⟨none, rfl, .non⟩ (by
      rintro j x ρ hx ⟨p4, rfl, k4⟩
      obtain ⟨hj, rfl⟩ := iv_get' hx
      exact ⟨noIo_of k4 rfl, hE n S a t (some (isv (a + (j : Int)))), .inl (ok j p4 (hn j hj)), _, rfl, .some⟩)
    have hb : s_l_holds (hE n S a t none) = .ret (isv 0) (hE n S a t p4) := (e_seq e1).trans rfl
    have hh : hold n S a t = 0 := by
      unfold hold
      rw [if_neg]
      intro h
      obtain ⟨x, hx, h2⟩ := List.any_eq_true.mp h
      have hx := mem_iv.mp hx
      refine hn (x - a).toNat (by omega) ?_
      rw [show a + ((x - a).toNat : Int) = x by omega]
      exact of_decide_eq_true h2
    rw [hh]
    exact e_run (pm := [.bor, .bor, .bor, .bor]) (rm := true) (n := 5) (ds := [.int n, dI S, .int a, .int t]) (outs := []) hb rfl rfl
/-! one_cast -/
theorem gNin_int {a : Int} {xs : List Int} : gIn true (.int a) (dI xs) = some (.bl (!decide (a ∈ xs))) := by
  have h := gIn_int (a := a) (xs := xs)
  have e1 : gIn true (.int a) (dI xs) = (if isSc (.int a) && (xs.map Vl.int).all isSc then some (Vl.bl (!((xs.map Vl.int).any fun y => eqF y (.int a)))) else none) := rfl
  have e2 : gIn false (.int a) (dI xs) = (if isSc (.int a) && (xs.map Vl.int).all isSc then some (Vl.bl ((xs.map Vl.int).any fun y => eqF y (.int a))) else none) := rfl
  rw [e2, sc_ints] at h
  rw [e1, sc_ints]
  have h : some (Vl.bl ((xs.map Vl.int).any fun y => eqF y (.int a))) = some (Vl.bl (decide (a ∈ xs))) := h
  show some (Vl.bl (!((xs.map Vl.int).any fun y => eqF y (.int a)))) = _
  have h := Vl.bl.inj (Option.some.inj h)
  rw [h]
theorem t_ninI {qb : Bool} {fa fb : Sem1} {ρ ρ1 ρ2 : En} {m m' : Md} {x : Int} {y : List Int} (h1 : fa ρ = .ok ⟨m, .int x⟩ ρ1) (hh : held m qb = true) (h2 : fb ρ1 = .ok ⟨m', dI y⟩ ρ2) : fTst (fTwo qb fa fb (kS (gIn true))) ρ = .ok (!decide (x ∈ y)) ρ2 := by
  unfold fTst
  rw [e_two h1 hh h2 (r := .ok ⟨.shr, .bl (!decide (x ∈ y))⟩ ρ2) (by
    show (match gIn true (.int x) (dI y) with | some d => if isSc d then Rs.ok (Sv.mk .shr d) ρ2 else .bad | none => .bad) = _
    rw [gNin_int]; rfl)]; rfl
abbrev kE (n : Int) (S hs : List Int) (p3 p4 : Option Sv) : En := [some (isv n), some ⟨.bor, dI S⟩, some ⟨.own, dI hs⟩, p3, p4]
def kC : SemB := (fAnd (fTst (fTwo true (fVar 4) (fVar 0) (kS (gB bLt)))) (fTst (fTwo true (fTwo true (fOne (fTwo true (fVar 3) (fVar 4) kAdd) (kS1 gInt)) (fVar 0) (kS (gIc cMod Int.fmod))) (fVar 1) (kS (gIn true)))))
def kB : SemS := (sAsg 4 (fFrz (fTwo true (fVar 4) (fC (.int 1)) kAdd)))
theorem kC_eq {n : Nat} (n1 : 1 ≤ n) {S hs : List Int} {p h : Int} : kC (kE n S hs (some (isv p)) (some (isv h))) = .ok (decide (h < (n : Int) ∧ ¬ (p + h) % (n : Int) ∈ S)) (kE n S hs (some (isv p)) (some (isv h))) := by
  have a := e_ltT (f := bLt) (qb := true) (fa := fVar 4) (fb := fVar 0) (ρ := kE n S hs (some (isv p)) (some (isv h))) (x := h) (y := (n : Int)) (m := .shr) (m' := .shr) rfl rfl rfl
  have x1 : fTwo true (fOne (fTwo true (fVar 3) (fVar 4) kAdd) (kS1 gInt)) (fVar 0) (kS (gIc cMod Int.fmod)) (kE n S hs (some (isv p)) (some (isv h))) = .ok (isv ((p + h) % (n : Int))) (kE n S hs (some (isv p)) (some (isv h))) := e_mod (p := p + h) (n := (n : Int)) (m := .shr) (m' := .shr) rfl rfl rfl (by omega)
  have b := t_ninI (qb := true) (fb := fVar 1) (y := S) (m' := .bor) x1 rfl rfl
  have c := t_and (b := !decide ((p + h) % (n : Int) ∈ S)) a (fun _ => b)
  refine c.trans ?_
  congr 1
  show (decide (h < (n : Int)) && !decide ((p + h) % (n : Int) ∈ S)) = _
  rw [Bool.decide_and, decide_not]
theorem k_loop {n : Nat} (n1 : 1 ≤ n) {S hs : List Int} {p : Int} : ∀ (f : Nat) (h : Int), ((n : Int) - h).toNat < f → loopW kC kB f (kE n S hs (some (isv p)) (some (isv h))) = .next (kE n S hs (some (isv p)) (some (isv (hgt n S p f h))))
  | 0, h, hf => by omega
  | f + 1, h, hf => by
    have c := kC_eq n1 (S := S) (hs := hs) (p := p) (h := h)
    unfold loopW hgt
    rw [c]
    by_cases q : h < (n : Int) ∧ ¬ (p + h) % (n : Int) ∈ S
    · rw [decide_eq_true q, if_pos q]
      show (match kB (kE n S hs (some (isv p)) (some (isv h))) with | .next ρ2 => loopW kC kB f ρ2 | .cont ρ2 => loopW kC kB f ρ2 | .brk ρ2 => .next ρ2 | r => r) = _
      rw [show kB (kE n S hs (some (isv p)) (some (isv h))) = .next (kE n S hs (some (isv p)) (some (isv (h + 1)))) from rfl]
      exact k_loop n1 f (h + 1) (by omega)
    · rw [decide_eq_false q, if_neg q]; rfl
theorem oc_len {n : Nat} {S : List Int} : ∀ (T : List Int) (hs : List Int), (T.foldl (fun hs p => hs.set p.toNat (hgt n S p 7 1)) hs).length = hs.length
  | [], _ => rfl
  | p :: T, hs => by
    rw [List.foldl_cons, oc_len T, List.length_set]
theorem one_cast_eq {n : Nat} {S : List Int} (n1 : 1 ≤ n) (n6 : n ≤ 6) (b : ∀ x ∈ S, 0 ≤ x ∧ x < (n : Int)) : fn_l_one_cast [.int n, dI S] = .ret (dI (oc n S S)) [] := by
  have h1 : sAsg 2 (fTwo true (fLst (aEx (fC (.int 0)) aNil)) (fVar 0) kMul) [some (isv n), some ⟨.bor, dI S⟩, none, none, none] = .next (kE n S (oc n S []) none none) := e_as (e_repI (x := 0) (k := n) (m := .own) (m' := .shr) rfl rfl rfl (by omega)) rfl rfl rfl
  obtain ⟨ρ', e1, p3, p4, rfl, k3, k4⟩ := for_int (k := 3) (src := iSrc (fVar 1) kItL) (body := sSeq (sAsg 4 (fC (.int 1))) (sSeq (sWhile kC kB) (sSet 2 (fVar 3) (fVar 4)))) (ρ := kE n S (oc n S []) none none)
    (fun k ρ => ∃ p3 p4, ρ = kE n S (oc n S (S.take k)) p3 p4 ∧ NIo p3 ∧ NIo p4) (e_itL (m := .bor) (hs := S) rfl) ⟨none, none, rfl, .non, .non⟩ (by
    rintro j x ρ hx ⟨p3, p4, rfl, k3, k4⟩
    have hj : j < S.length := (List.getElem?_eq_some_iff.mp hx).1
    have hm : x ∈ S := List.mem_of_getElem? hx
    have r := b x hm
    refine ⟨noIo_of k3 rfl, kE n S (oc n S (S.take (j + 1))) (some (isv x)) (some (isv (hgt n S x 7 1))), .inl ?_, _, _, rfl, .some, .some⟩
    have hs : oc n S (S.take (j + 1)) = (oc n S (S.take j)).set x.toNat (hgt n S x 7 1) := by
      unfold oc
      rw [List.take_add_one, hx, List.foldl_append]; rfl
    rw [hs]
    have s1 : sAsg 4 (fC (.int 1)) (kE n S (oc n S (S.take j)) (some (isv x)) p4) = .next (kE n S (oc n S (S.take j)) (some (isv x)) (some (isv 1))) := e_as (s := isv 1) rfl (noIo_of k4 rfl) rfl rfl
    have s2 : sWhile kC kB (kE n S (oc n S (S.take j)) (some (isv x)) (some (isv 1))) = .next (kE n S (oc n S (S.take j)) (some (isv x)) (some (isv (hgt n S x 7 1)))) := e_while (k_loop n1 7 1 (by omega)) (by unfold wMax; omega)
    have s3 : sSet 2 (fVar 3) (fVar 4) (kE n S (oc n S (S.take j)) (some (isv x)) (some (isv (hgt n S x 7 1)))) = .next (kE n S ((oc n S (S.take j)).set x.toNat (hgt n S x 7 1)) (some (isv x)) (some (isv (hgt n S x 7 1)))) :=
      e_st (k := x.toNat) (xs := oc n S (S.take j)) (x := hgt n S x 7 1) (m := .own) (m2 := .shr) rfl rfl (by rw [show (x.toNat : Int) = x by omega]; rfl) rfl rfl (by unfold oc; rw [oc_len, List.length_replicate]; omega) rfl
    exact (e_seq s1).trans ((e_seq s2).trans s3))
  rw [List.take_length] at e1
  have hb : s_l_one_cast [some (isv n), some ⟨.bor, dI S⟩, none, none, none] = .ret ⟨.own, dI (oc n S S)⟩ [some (isv n), some ⟨.bor, dI S⟩, none, p3, p4] := (e_seq h1).trans ((e_seq e1).trans rfl)
  exact e_run (pm := [.bor, .bor]) (rm := true) (n := 5) (ds := [.int n, dI S]) (outs := []) hb rfl rfl
/-! counts -/
theorem kI_int {f : Int → En → Rs Sv} {m : Md} {j : Int} {ρ : En} : kI f ⟨m, .int j⟩ ρ = f j ρ := rfl
theorem e_lr1 {fa : Sem1} {ρ : En} {m : Md} {n : Nat} (h : fa ρ = .ok ⟨m, .int (n : Int)⟩ ρ) (l : n ≤ 1000) : fLR1 fa ρ = .ok ⟨.own, dI (iv 0 n)⟩ ρ := by
  have e : rgL 0 (n : Int) = (iv 0 n).map Vl.int := by
    unfold rgL iv
    rw [List.map_map, Int.sub_zero, Int.toNat_natCast]; rfl
  have r : rgOkB 0 (n : Int) = true := by
    unfold rgOkB
    have q : ((n : Int) - 0).toNat ≤ 16777216 := Nat.le_trans (show ((n : Int) - 0).toNat ≤ 1000 by omega) (Nat.le_of_ble_eq_true rfl)
    rw [c62_of (by omega) (by omega), c62_of (by omega) (by omega), decide_eq_true q]; rfl
  have k : fLR 0 (n : Int) ρ = .ok ⟨.own, dI (iv 0 n)⟩ ρ := by
    unfold fLR
    rw [r, e]; rfl
  exact e_one h ((kI_int (f := fun j ρ => fLR 0 j ρ)).trans k)
abbrev nE (n : Int) (S hs : List Int) (far : Int) (p4 p5 p6 : Option Sv) : En := [some ⟨.bor, vCast hs⟩, some (isv n), some ⟨.bor, dI S⟩, some (isv far), p4, p5, p6]
def nB : SemS := (sSeq (sAsg 6 (fFrz (fCall [.bor, .bor, .bor, .bor] true fn_l_holds (aSl 1 (aSl 2 (aSl 4 (aSl 5 aNil)))))))
    (sIf (fNot (fTru (fCall [.bor, .bor] true fn_l_is_list (aEx (fLst (aEx (fFrz (fMeth "Cast" "count" [.bor, .shr, .shr] false fn_Cast_count (rSl 0) (aSl 4 (aSl 5 aNil)))) aNil)) (aEx (fLst (aEx (fVar 6) aNil)) aNil))))) (sRet (fC (.bl false))) sNil))
theorem nB_eq {n : Nat} {S : List Int} (n1 : 1 ≤ n) (e : Ent n S) {far a t : Int} {p6 : Option Sv} (k6 : NIo p6) (h1 : a ≤ t) (h2 : t < a + n + 2) (a1 : -100000 ≤ a) (a2 : a ≤ 100000) (t1 : -100000 ≤ t) (t2 : t ≤ 100000) : nB (nE n S (ent n S) far (some (isv a)) (some (isv t)) p6) = .next (nE n S (ent n S) far (some (isv a)) (some (isv t)) (some (isv (hold n S a t)))) := by
  have s1 : sAsg 6 (fFrz (fCall [.bor, .bor, .bor, .bor] true fn_l_holds (aSl 1 (aSl 2 (aSl 4 (aSl 5 aNil)))))) (nE n S (ent n S) far (some (isv a)) (some (isv t)) p6) = .next (nE n S (ent n S) far (some (isv a)) (some (isv t)) (some (isv (hold n S a t)))) :=
    e_as (e_frz_shr (e_cl (ds := [.int n, dI S, .int a, .int t]) (e_aSl rfl (e_aSl rfl (e_aSl rfl (e_aSl rfl rfl)))) rfl rfl (holds_eq n1 a1 a2 t1 t2) rfl rfl)) (noIo_of k6 rfl) rfl rfl
  have c1 : fMeth "Cast" "count" [.bor, .shr, .shr] false fn_Cast_count (rSl 0) (aSl 4 (aSl 5 aNil)) (nE n S (ent n S) far (some (isv a)) (some (isv t)) (some (isv (hold n S a t)))) = .ok (isv (hold n S a t)) (nE n S (ent n S) far (some (isv a)) (some (isv t)) (some (isv (hold n S a t)))) :=
    e_mt (a := .sl 0) (ds := [vCast (ent n S), .int a, .int t]) rfl rfl (e_aSl rfl (e_aSl rfl rfl)) rfl rfl (cast_count_eq e.gd h1 a1 a2 t1 t2) (by rw [e.counts n1 h1 h2]; rfl) rfl
  have x1 : fLst (aEx (fFrz (fMeth "Cast" "count" [.bor, .shr, .shr] false fn_Cast_count (rSl 0) (aSl 4 (aSl 5 aNil)))) aNil) (nE n S (ent n S) far (some (isv a)) (some (isv t)) (some (isv (hold n S a t)))) = .ok ⟨.own, dI [hold n S a t]⟩ (nE n S (ent n S) far (some (isv a)) (some (isv t)) (some (isv (hold n S a t)))) := e_lst (e_aEx (e_frz_shr c1) rfl rfl) rfl (Nat.le_of_ble_eq_true rfl)
  have x2 : fLst (aEx (fVar 6) aNil) (nE n S (ent n S) far (some (isv a)) (some (isv t)) (some (isv (hold n S a t)))) = .ok ⟨.own, dI [hold n S a t]⟩ (nE n S (ent n S) far (some (isv a)) (some (isv t)) (some (isv (hold n S a t)))) := rfl
  have s2 : fCall [.bor, .bor] true fn_l_is_list (aEx (fLst (aEx (fFrz (fMeth "Cast" "count" [.bor, .shr, .shr] false fn_Cast_count (rSl 0) (aSl 4 (aSl 5 aNil)))) aNil)) (aEx (fLst (aEx (fVar 6) aNil)) aNil)) (nE n S (ent n S) far (some (isv a)) (some (isv t)) (some (isv (hold n S a t)))) = .ok ⟨.shr, .bl true⟩ (nE n S (ent n S) far (some (isv a)) (some (isv t)) (some (isv (hold n S a t)))) :=
    e_cl (ds := [dI [hold n S a t], dI [hold n S a t]]) (e_aEx x1 rfl (e_aEx x2 rfl rfl)) rfl rfl (is_list_eq (by simp)) rfl rfl
  exact (e_seq s1).trans (e_if_f (t_not (t_tru s2)))
theorem counts_eq {n : Nat} {S : List Int} (n1 : 1 ≤ n) (n6 : n ≤ 6) (e : Ent n S) {far : Int} (f1 : -10000 ≤ far) (f2 : far ≤ 10000) : fn_l_counts [vCast (ent n S), .int n, dI S, .int far] = .ret (.bl true) [] := by
  have src : iSrc (fTwo true (fLR1 (fVar 1)) (fLst (aEx (fVar 3) aNil)) kAdd) kItL (nE n S (ent n S) far none none none) = .ok (true, (iv 0 n ++ [far]).map isv) (nE n S (ent n S) far none none none) := by
    have a := e_lr1 (fa := fVar 1) (ρ := nE n S (ent n S) far none none none) (m := .shr) (n := n) rfl (by omega)
    have b := e_addI (qb := true) (fb := fLst (aEx (fVar 3) aNil)) (ys := [far]) (m' := .own) a rfl rfl (by rw [iv_length]; simp; omega)
    exact e_itL b
  obtain ⟨ρ', e1, p4, p5, p6, rfl, k4, k5, k6⟩ := for_int (k := 4) (src := iSrc (fTwo true (fLR1 (fVar 1)) (fLst (aEx (fVar 3) aNil)) kAdd) kItL) (body := sFor (iR2 (fVar 4) (fTwo true (fTwo true (fVar 4) (fVar 1) kAdd) (fC (.int 2)) kAdd)) (gNm 5) nB) (ρ := nE n S (ent n S) far none none none) (fun _ ρ => ∃ p4 p5 p6, ρ = nE n S (ent n S) far p4 p5 p6 ∧ NIo p4 ∧ NIo p5 ∧ NIo p6) src ⟨none, none, none, rfl, .non, .non, .non⟩ (by
    rintro j a ρ hx ⟨p4, p5, p6, rfl, k4, k5, k6⟩
    have hm := List.mem_of_getElem? hx
    have r : -10000 ≤ a ∧ a ≤ 10000 := by
      rcases List.mem_append.mp hm with q | q
      · have := mem_iv.mp q; omega
      · rw [List.mem_singleton.mp q]; exact ⟨f1, f2⟩
    refine ⟨noIo_of k4 rfl, ?_⟩
    obtain ⟨ρ', e2, p5, p6, rfl, k5, k6⟩ := for_int (k := 5) (src := iR2 (fVar 4) (fTwo true (fTwo true (fVar 4) (fVar 1) kAdd) (fC (.int 2)) kAdd)) (body := nB) (ρ := nE n S (ent n S) far (some (isv a)) p5 p6) (fun _ ρ => ∃ p5 p6, ρ = nE n S (ent n S) far (some (isv a)) p5 p6 ∧ NIo p5 ∧ NIo p6)
      (e_r2 (m := .shr) (m' := .shr) (i := a) (j := a + (n : Int) + 2) rfl rfl (by rw [c62_of (by omega) (by omega), c62_of (by omega) (by omega)]; rfl)) ⟨p5, p6, rfl, k5, k6⟩ (by
      rintro i x ρ hx ⟨p5, p6, rfl, k5, k6⟩
      obtain ⟨hi, rfl⟩ := iv_get' hx
      have b := nB_eq n1 e (far := far) (a := a) (t := a + (i : Int)) k6 (by omega) (by omega) (by omega) (by omega) (by omega) (by omega)
      exact ⟨noIo_of k5 rfl, _, .inl b, _, _, rfl, .some, .some⟩)
    exact ⟨_, .inl e2, _, _, _, rfl, .some, k5, k6⟩)
  have hb : s_l_counts (nE n S (ent n S) far none none none) = .ret ⟨.shr, .bl true⟩ (nE n S (ent n S) far p4 p5 p6) := (e_seq e1).trans rfl
  exact e_run (pm := [.bor, .bor, .bor, .shr]) (rm := true) (n := 7) (ds := [vCast (ent n S), .int n, dI S, .int far]) (outs := []) hb rfl rfl
/-! good -/
abbrev gE (n : Int) (S : List Int) (far : Int) (p3 p4 p5 p6 : Option Sv) : En := [some (isv n), some ⟨.bor, dI S⟩, some (isv far), p3, p4, p5, p6]
theorem good_eq {n : Nat} {S : List Int} (n1 : 1 ≤ n) (n6 : n ≤ 6) (h0 : 0 < S.length) (l : S.length ≤ 1000) (h : ∀ i, i < S.length → ¬ bad n S i) {far : Int} (f1 : -10000 ≤ far) (f2 : far ≤ 10000) : fn_l_good [.int n, dI S, .int far] = .ret (.bl true) [] := by
  obtain ⟨a1, a2⟩ := asc_of h
  have e := ent_of n1 n6 (asc_in n1 n6 a1 a2 (by intro e; rw [e] at h0; simp at h0))
  have lE : (ent n S).length ≤ 10000 := by rw [e.len]; omega
  have oe : fn_l_one_cast [.int n, dI S] = .ret (dI (ent n S)) [] := by rw [one_cast_eq n1 n6 a2, e.oc]
  have s3 : sAsg 3 (fFrz (fCall [.bor, .bor] true fn_l_one_cast (aSl 0 (aSl 1 aNil)))) (gE n S far none none none none) = .next (gE n S far (some ⟨.shr, dI (ent n S)⟩) none none none) :=
    e_as (e_frz_own (e_cl (s := ⟨.own, dI (ent n S)⟩) (ds := [.int n, dI S]) (e_aSl rfl (e_aSl rfl rfl)) rfl rfl oe rfl rfl)) rfl rfl rfl
  have s4 : sAsg 4 (fOne (fVar 1) kListOf) (gE n S far (some ⟨.shr, dI (ent n S)⟩) none none none) = .next (gE n S far (some ⟨.shr, dI (ent n S)⟩) (some ⟨.own, dI S⟩) none none) := e_as (e_listI (hs := S) (m := .bor) rfl) rfl rfl rfl
  have s5 : sAsg 5 (fCall [.shr, .bor] true fn_one_entry (aSl 0 (aSl 4 aNil))) (gE n S far (some ⟨.shr, dI (ent n S)⟩) (some ⟨.own, dI S⟩) none none) = .next (gE n S far (some ⟨.shr, dI (ent n S)⟩) (some ⟨.own, dI S⟩) (some ⟨.own, dI (ent n S)⟩) none) :=
    e_as (e_cl (ds := [.int n, dI S]) (e_aSl rfl (e_aSl rfl rfl)) rfl rfl (entry_ok n1 n6 h0 l h) rfl rfl) rfl rfl rfl
  have s6 : sAsg 6 (fFrz (fCall [.shr, .bor] true fn_Cast_entry (aSl 0 (aSl 4 aNil)))) (gE n S far (some ⟨.shr, dI (ent n S)⟩) (some ⟨.own, dI S⟩) (some ⟨.own, dI (ent n S)⟩) none) = .next (gE n S far (some ⟨.shr, dI (ent n S)⟩) (some ⟨.own, dI S⟩) (some ⟨.own, dI (ent n S)⟩) (some ⟨.shr, vCast (ent n S)⟩)) :=
    e_as (e_frz_own (e_cl (s := ⟨.own, vCast (ent n S)⟩) (ds := [.int n, dI S]) (e_aSl rfl (e_aSl rfl rfl)) rfl rfl (castE_ok n1 n6 h0 l h) rfl rfl)) rfl rfl rfl
  have s7 : sIf (fOr (fTst (fTwo true (fVar 4) (fVar 1) (kS gNe))) (fNot (fTru (fCall [.bor, .bor] true fn_l_is_list (aSl 5 (aSl 3 aNil)))))) (sRet (fC (.bl false))) sNil (gE n S far (some ⟨.shr, dI (ent n S)⟩) (some ⟨.own, dI S⟩) (some ⟨.own, dI (ent n S)⟩) (some ⟨.shr, vCast (ent n S)⟩)) = .next (gE n S far (some ⟨.shr, dI (ent n S)⟩) (some ⟨.own, dI S⟩) (some ⟨.own, dI (ent n S)⟩) (some ⟨.shr, vCast (ent n S)⟩)) := by
    have t1 := t_neL (qb := true) (fa := fVar 4) (fb := fVar 1) (ρ := gE n S far (some ⟨.shr, dI (ent n S)⟩) (some ⟨.own, dI S⟩) (some ⟨.own, dI (ent n S)⟩) (some ⟨.shr, vCast (ent n S)⟩)) (x := S) (y := S) (m := .tmp) (m' := .bor) rfl rfl rfl
    rw [decide_eq_true rfl] at t1
    have c : fCall [.bor, .bor] true fn_l_is_list (aSl 5 (aSl 3 aNil)) (gE n S far (some ⟨.shr, dI (ent n S)⟩) (some ⟨.own, dI S⟩) (some ⟨.own, dI (ent n S)⟩) (some ⟨.shr, vCast (ent n S)⟩)) = .ok ⟨.shr, .bl true⟩ (gE n S far (some ⟨.shr, dI (ent n S)⟩) (some ⟨.own, dI S⟩) (some ⟨.own, dI (ent n S)⟩) (some ⟨.shr, vCast (ent n S)⟩)) := e_cl (ds := [dI (ent n S), dI (ent n S)]) (e_aSl rfl (e_aSl rfl rfl)) rfl rfl (is_list_eq lE) rfl rfl
    exact e_if_f (t_or_f t1 (t_not (t_tru c)))
  have s8 : sSet 4 (fC (.int 0)) (fVar 0) (gE n S far (some ⟨.shr, dI (ent n S)⟩) (some ⟨.own, dI S⟩) (some ⟨.own, dI (ent n S)⟩) (some ⟨.shr, vCast (ent n S)⟩)) = .next (gE n S far (some ⟨.shr, dI (ent n S)⟩) (some ⟨.own, dI (S.set 0 n)⟩) (some ⟨.own, dI (ent n S)⟩) (some ⟨.shr, vCast (ent n S)⟩)) :=
    e_st (k := 0) (xs := S) (x := (n : Int)) (m := .own) (m2 := .shr) rfl rfl rfl rfl rfl h0 rfl
  have s9 : sExpr (fApp 4 (fC (.int 0))) (gE n S far (some ⟨.shr, dI (ent n S)⟩) (some ⟨.own, dI (S.set 0 n)⟩) (some ⟨.own, dI (ent n S)⟩) (some ⟨.shr, vCast (ent n S)⟩)) = .next (gE n S far (some ⟨.shr, dI (ent n S)⟩) (some ⟨.own, dI (S.set 0 n ++ [0])⟩) (some ⟨.own, dI (ent n S)⟩) (some ⟨.shr, vCast (ent n S)⟩)) :=
    e_expr (e_app (x := 0) (xs := S.set 0 n) (m := .own) rfl rfl rfl rfl (by rw [List.length_set]; omega) rfl)
  generalize S.set 0 (n : Int) ++ [0] = W at s9
  have s10 : sExpr (fOnL 5 kClear) (gE n S far (some ⟨.shr, dI (ent n S)⟩) (some ⟨.own, dI W⟩) (some ⟨.own, dI (ent n S)⟩) (some ⟨.shr, vCast (ent n S)⟩)) = .next (gE n S far (some ⟨.shr, dI (ent n S)⟩) (some ⟨.own, dI W⟩) (some ⟨.own, dI []⟩) (some ⟨.shr, vCast (ent n S)⟩)) :=
    e_expr (f := fOnL 5 kClear) (onL_eq (i := 5) (k := kClear) (m := .own) (xs := (ent n S).map Vl.int) (ys := []) (d := .non) rfl rfl rfl)
  have R : ∀ {ρ : En} (h : ρ = gE n S far (some ⟨.shr, dI (ent n S)⟩) (some ⟨.own, dI W⟩) (some ⟨.own, dI []⟩) (some ⟨.shr, vCast (ent n S)⟩)), fOne (fVar 1) kListOf ρ = .ok ⟨.own, dI S⟩ ρ := fun h => by
    rw [h]; exact e_listI (hs := S) (m := .bor) rfl
  have s11 : sIf (fNot (fTru (fCall [.bor, .bor] true fn_l_is_list (aEx (fCall [.shr, .bor] true fn_one_entry (aSl 0 (aEx (fOne (fVar 1) kListOf) aNil))) (aSl 3 aNil))))) (sRet (fC (.bl false))) sNil (gE n S far (some ⟨.shr, dI (ent n S)⟩) (some ⟨.own, dI W⟩) (some ⟨.own, dI []⟩) (some ⟨.shr, vCast (ent n S)⟩)) = .next (gE n S far (some ⟨.shr, dI (ent n S)⟩) (some ⟨.own, dI W⟩) (some ⟨.own, dI []⟩) (some ⟨.shr, vCast (ent n S)⟩)) := by
    have c : fCall [.shr, .bor] true fn_one_entry (aSl 0 (aEx (fOne (fVar 1) kListOf) aNil)) (gE n S far (some ⟨.shr, dI (ent n S)⟩) (some ⟨.own, dI W⟩) (some ⟨.own, dI []⟩) (some ⟨.shr, vCast (ent n S)⟩)) = .ok ⟨.own, dI (ent n S)⟩ (gE n S far (some ⟨.shr, dI (ent n S)⟩) (some ⟨.own, dI W⟩) (some ⟨.own, dI []⟩) (some ⟨.shr, vCast (ent n S)⟩)) := e_cl (ds := [.int n, dI S]) (e_aSl rfl (e_aEx (R rfl) rfl rfl)) rfl rfl (entry_ok n1 n6 h0 l h) rfl rfl
    have c2 : fCall [.bor, .bor] true fn_l_is_list (aEx (fCall [.shr, .bor] true fn_one_entry (aSl 0 (aEx (fOne (fVar 1) kListOf) aNil))) (aSl 3 aNil)) (gE n S far (some ⟨.shr, dI (ent n S)⟩) (some ⟨.own, dI W⟩) (some ⟨.own, dI []⟩) (some ⟨.shr, vCast (ent n S)⟩)) = .ok ⟨.shr, .bl true⟩ (gE n S far (some ⟨.shr, dI (ent n S)⟩) (some ⟨.own, dI W⟩) (some ⟨.own, dI []⟩) (some ⟨.shr, vCast (ent n S)⟩)) := e_cl (ds := [dI (ent n S), dI (ent n S)]) (e_aEx c rfl (e_aSl rfl rfl)) rfl rfl (is_list_eq lE) rfl rfl
    exact e_if_f (t_not (t_tru c2))
  have s12 : sIf (fOr (fNot (fTru (fCall [.bor, .bor] true fn_l_is_list (aEx (fProp "Cast" "heights" true fn_Cast_heights (rSl 6)) (aSl 3 aNil))))) (fNot (fTru (fCall [.bor, .bor] true fn_l_is_list (aEx (fProp "Cast" "used" true fn_Cast_used (rSl 6)) (aSl 1 aNil)))))) (sRet (fC (.bl false))) sNil (gE n S far (some ⟨.shr, dI (ent n S)⟩) (some ⟨.own, dI W⟩) (some ⟨.own, dI []⟩) (some ⟨.shr, vCast (ent n S)⟩)) = .next (gE n S far (some ⟨.shr, dI (ent n S)⟩) (some ⟨.own, dI W⟩) (some ⟨.own, dI []⟩) (some ⟨.shr, vCast (ent n S)⟩)) := by
    have c : fProp "Cast" "heights" true fn_Cast_heights (rSl 6) (gE n S far (some ⟨.shr, dI (ent n S)⟩) (some ⟨.own, dI W⟩) (some ⟨.own, dI []⟩) (some ⟨.shr, vCast (ent n S)⟩)) = .ok ⟨.own, dI (ent n S)⟩ (gE n S far (some ⟨.shr, dI (ent n S)⟩) (some ⟨.own, dI W⟩) (some ⟨.own, dI []⟩) (some ⟨.shr, vCast (ent n S)⟩)) := e_pr (d := vCast (ent n S)) (r := dI (ent n S)) (a := .sl 6) rfl rfl rfl rfl heights_eq rfl
    have c2 : fCall [.bor, .bor] true fn_l_is_list (aEx (fProp "Cast" "heights" true fn_Cast_heights (rSl 6)) (aSl 3 aNil)) (gE n S far (some ⟨.shr, dI (ent n S)⟩) (some ⟨.own, dI W⟩) (some ⟨.own, dI []⟩) (some ⟨.shr, vCast (ent n S)⟩)) = .ok ⟨.shr, .bl true⟩ (gE n S far (some ⟨.shr, dI (ent n S)⟩) (some ⟨.own, dI W⟩) (some ⟨.own, dI []⟩) (some ⟨.shr, vCast (ent n S)⟩)) := e_cl (ds := [dI (ent n S), dI (ent n S)]) (e_aEx c rfl (e_aSl rfl rfl)) rfl rfl (is_list_eq lE) rfl rfl
    have u := castU_eq (hs := ent n S) (by rw [e.len]; omega)
    rw [e.len, e.used] at u
    have d : fProp "Cast" "used" true fn_Cast_used (rSl 6) (gE n S far (some ⟨.shr, dI (ent n S)⟩) (some ⟨.own, dI W⟩) (some ⟨.own, dI []⟩) (some ⟨.shr, vCast (ent n S)⟩)) = .ok ⟨.own, dI S⟩ (gE n S far (some ⟨.shr, dI (ent n S)⟩) (some ⟨.own, dI W⟩) (some ⟨.own, dI []⟩) (some ⟨.shr, vCast (ent n S)⟩)) := e_pr (d := vCast (ent n S)) (r := dI S) (a := .sl 6) rfl rfl rfl rfl u rfl
    have d2 : fCall [.bor, .bor] true fn_l_is_list (aEx (fProp "Cast" "used" true fn_Cast_used (rSl 6)) (aSl 1 aNil)) (gE n S far (some ⟨.shr, dI (ent n S)⟩) (some ⟨.own, dI W⟩) (some ⟨.own, dI []⟩) (some ⟨.shr, vCast (ent n S)⟩)) = .ok ⟨.shr, .bl true⟩ (gE n S far (some ⟨.shr, dI (ent n S)⟩) (some ⟨.own, dI W⟩) (some ⟨.own, dI []⟩) (some ⟨.shr, vCast (ent n S)⟩)) := e_cl (ds := [dI S, dI S]) (e_aEx d rfl (e_aSl rfl rfl)) rfl rfl (is_list_eq (by omega)) rfl rfl
    exact e_if_f (t_or_f (t_not (t_tru c2)) (t_not (t_tru d2)))
  have s13 : sIf (fNot (fTru (fCall [.bor, .bor] true fn_l_is_list (aEx (fLst (aEx (fProp "Cast" "places" true fn_Cast_places (rSl 6)) (aEx (fProp "Cast" "balls" true fn_Cast_balls (rSl 6)) aNil))) (aEx (fLst (aEx (fVar 0) (aEx (fC (.int 1)) aNil))) aNil))))) (sRet (fC (.bl false))) sNil (gE n S far (some ⟨.shr, dI (ent n S)⟩) (some ⟨.own, dI W⟩) (some ⟨.own, dI []⟩) (some ⟨.shr, vCast (ent n S)⟩)) = .next (gE n S far (some ⟨.shr, dI (ent n S)⟩) (some ⟨.own, dI W⟩) (some ⟨.own, dI []⟩) (some ⟨.shr, vCast (ent n S)⟩)) := by
    have u := castP_eq (hs := ent n S)
    rw [e.len] at u
    have v := balls_eq e.gd
    rw [e.sum, e.len, Int.ediv_self (by omega)] at v
    have c : fProp "Cast" "places" true fn_Cast_places (rSl 6) (gE n S far (some ⟨.shr, dI (ent n S)⟩) (some ⟨.own, dI W⟩) (some ⟨.own, dI []⟩) (some ⟨.shr, vCast (ent n S)⟩)) = .ok (isv n) (gE n S far (some ⟨.shr, dI (ent n S)⟩) (some ⟨.own, dI W⟩) (some ⟨.own, dI []⟩) (some ⟨.shr, vCast (ent n S)⟩)) := e_pr (d := vCast (ent n S)) (r := .int n) (a := .sl 6) rfl rfl rfl rfl u rfl
    have d : fProp "Cast" "balls" true fn_Cast_balls (rSl 6) (gE n S far (some ⟨.shr, dI (ent n S)⟩) (some ⟨.own, dI W⟩) (some ⟨.own, dI []⟩) (some ⟨.shr, vCast (ent n S)⟩)) = .ok (isv 1) (gE n S far (some ⟨.shr, dI (ent n S)⟩) (some ⟨.own, dI W⟩) (some ⟨.own, dI []⟩) (some ⟨.shr, vCast (ent n S)⟩)) := e_pr (d := vCast (ent n S)) (r := .int 1) (a := .sl 6) rfl rfl rfl rfl v rfl
    have x1 : fLst (aEx (fProp "Cast" "places" true fn_Cast_places (rSl 6)) (aEx (fProp "Cast" "balls" true fn_Cast_balls (rSl 6)) aNil)) (gE n S far (some ⟨.shr, dI (ent n S)⟩) (some ⟨.own, dI W⟩) (some ⟨.own, dI []⟩) (some ⟨.shr, vCast (ent n S)⟩)) = .ok ⟨.own, dI [(n : Int), 1]⟩ (gE n S far (some ⟨.shr, dI (ent n S)⟩) (some ⟨.own, dI W⟩) (some ⟨.own, dI []⟩) (some ⟨.shr, vCast (ent n S)⟩)) := e_lst (e_aEx c rfl (e_aEx d rfl rfl)) rfl (Nat.le_of_ble_eq_true rfl)
    have x2 : fLst (aEx (fVar 0) (aEx (fC (.int 1)) aNil)) (gE n S far (some ⟨.shr, dI (ent n S)⟩) (some ⟨.own, dI W⟩) (some ⟨.own, dI []⟩) (some ⟨.shr, vCast (ent n S)⟩)) = .ok ⟨.own, dI [(n : Int), 1]⟩ (gE n S far (some ⟨.shr, dI (ent n S)⟩) (some ⟨.own, dI W⟩) (some ⟨.own, dI []⟩) (some ⟨.shr, vCast (ent n S)⟩)) := rfl
    have c2 := e_cl (pm := [.bor, .bor]) (rm := true) (fn := fn_l_is_list) (s := ⟨.shr, .bl true⟩) (as := [.ex ⟨.own, dI [(n : Int), 1]⟩, .ex ⟨.own, dI [(n : Int), 1]⟩]) (ds := [dI [(n : Int), 1], dI [(n : Int), 1]]) (e_aEx x1 rfl (e_aEx x2 rfl rfl)) rfl rfl (is_list_eq (by simp)) rfl rfl
    exact e_if_f (t_not (t_tru c2))
  have s14 : sRet (fCall [.bor, .bor, .bor, .shr] true fn_l_counts (aSl 6 (aSl 0 (aSl 1 (aSl 2 aNil))))) (gE n S far (some ⟨.shr, dI (ent n S)⟩) (some ⟨.own, dI W⟩) (some ⟨.own, dI []⟩) (some ⟨.shr, vCast (ent n S)⟩)) = .ret ⟨.shr, .bl true⟩ (gE n S far (some ⟨.shr, dI (ent n S)⟩) (some ⟨.own, dI W⟩) (some ⟨.own, dI []⟩) (some ⟨.shr, vCast (ent n S)⟩)) :=
    e_ret (e_cl (ds := [vCast (ent n S), .int n, dI S, .int far]) (e_aSl rfl (e_aSl rfl (e_aSl rfl (e_aSl rfl rfl)))) rfl rfl (counts_eq n1 n6 e f1 f2) rfl rfl)
  have hb : s_l_good (gE n S far none none none none) = .ret ⟨.shr, .bl true⟩ (gE n S far (some ⟨.shr, dI (ent n S)⟩) (some ⟨.own, dI W⟩) (some ⟨.own, dI []⟩) (some ⟨.shr, vCast (ent n S)⟩)) :=
    (e_seq s3).trans ((e_seq s4).trans ((e_seq s5).trans ((e_seq s6).trans ((e_seq s7).trans ((e_seq s8).trans ((e_seq s9).trans ((e_seq s10).trans ((e_seq s11).trans ((e_seq s12).trans ((e_seq s13).trans s14))))))))))
  exact e_run (pm := [.shr, .bor, .shr]) (rm := true) (n := 7) (ds := [.int n, dI S, .int far]) (outs := []) hb rfl rfl
/-! reason -/
abbrev zE (n : Int) (xs : List Int) (p2 : Option Sv) : En := [some (isv n), some ⟨.bor, dI xs⟩, p2]
theorem zT1 {n : Int} {xs : List Int} : fOr (fTst (fTwo true (fVar 0) (fC (.int 1)) (kS (gB bLt)))) (fTst (fTwo true (fVar 0) (fC (.int 6)) (kS (gB bGt)))) (zE n xs none) = .ok (decide (n < 1 ∨ 6 < n)) (zE n xs none) := by
  have a := e_ltT (f := bLt) (qb := true) (fa := fVar 0) (fb := fC (.int 1)) (ρ := zE n xs none) (x := n) (y := 1) (m := .shr) (m' := .shr) rfl rfl rfl
  have b := e_ltT (f := bGt) (qb := true) (fa := fVar 0) (fb := fC (.int 6)) (ρ := zE n xs none) (x := n) (y := 6) (m := .shr) (m' := .shr) rfl rfl rfl
  refine (t_or a b).trans ?_
  congr 1
  show (decide (n < 1) || decide (6 < n)) = _
  rw [Bool.decide_or]
theorem reason_size {n : Int} {xs : List Int} (h : n < 1 ∨ 6 < n) : fn_l_reason [.int n, dI xs] = .ret (vTold "size" n) [] := by
  have t := zT1 (n := n) (xs := xs)
  rw [decide_eq_true h] at t
  have hb : s_l_reason (zE n xs none) = .ret ⟨.own, vTold "size" n⟩ (zE n xs none) := e_seqR ((e_if_t t).trans rfl)
  exact e_run (pm := [.shr, .bor]) (rm := true) (n := 3) (ds := [.int n, dI xs]) (outs := []) hb rfl rfl
theorem reason_nil {n : Int} (h : ¬ (n < 1 ∨ 6 < n)) : fn_l_reason [.int n, dI []] = .ret (vTold "stands" 0) [] := by
  have t := zT1 (n := n) (xs := [])
  rw [decide_eq_false h] at t
  have hb : s_l_reason (zE n [] none) = .ret ⟨.own, vTold "stands" 0⟩ (zE n [] none) := (e_seq (e_if_f t)).trans (e_seqR rfl)
  exact e_run (pm := [.shr, .bor]) (rm := true) (n := 3) (ds := [.int n, dI []]) (outs := []) hb rfl rfl
def zB : SemS := (sSeq (sIf (fOr (fTst (fTwo true (fTwo true (fVar 1) (fVar 2) kIx) (fC (.int 0)) (kS (gB bLt)))) (fTst (fTwo true (fTwo true (fVar 1) (fVar 2) kIx) (fVar 0) (kS (gB bGe))))) (sRet (fLst (aEx (fC (.str "stands")) (aEx (fVar 2) aNil)))) sNil)
    (sIf (fAnd (fTst (fTwo true (fVar 2) (fC (.int 0)) (kS (gB bGt)))) (fTst (fTwo true (fTwo true (fVar 1) (fVar 2) kIx) (fTwo true (fVar 1) (fTwo true (fVar 2) (fC (.int 1)) (kS (gI fun i j => i - j))) kIx) (kS (gB bLe))))) (sRet (fLst (aEx (fC (.str "stands")) (aEx (fVar 2) aNil)))) sNil))
theorem zT2 {n : Int} {xs : List Int} {i : Nat} (hi : i < xs.length) : fOr (fTst (fTwo true (fTwo true (fVar 1) (fVar 2) kIx) (fC (.int 0)) (kS (gB bLt)))) (fTst (fTwo true (fTwo true (fVar 1) (fVar 2) kIx) (fVar 0) (kS (gB bGe)))) (zE n xs (some (isv i))) = .ok (decide (¬ (0 ≤ xs.getD i 0 ∧ xs.getD i 0 < n))) (zE n xs (some (isv i))) := by
  have a := e_ltT (f := bLt) (qb := true) (fb := fC (.int 0)) (y := 0) (m' := .shr) (cs_ix (n := n) hi) rfl rfl
  have b := e_ltT (f := bGe) (qb := true) (fb := fVar 0) (y := n) (m' := .shr) (cs_ix (n := n) hi) rfl rfl
  refine (t_or a b).trans ?_
  congr 1
  show (decide (xs.getD i 0 < 0) || decide (n ≤ xs.getD i 0)) = _
  rw [← Bool.decide_or]
  exact decide_eq_decide.mpr (by omega)
theorem zB_ok {n : Int} {xs : List Int} {i : Nat} (hi : i < xs.length) (h : ¬ bad n xs i) : zB (zE n xs (some (isv i))) = .next (zE n xs (some (isv i))) := by
  have t1 := zT2 (n := n) hi
  have t2 := cs_t2 (n := n) hi
  unfold bad at h
  rw [not_or] at h
  rw [decide_eq_false h.1] at t1
  rw [decide_eq_false h.2] at t2
  exact (e_seq (e_if_f t1)).trans (e_if_f t2)
theorem zB_bad {n : Int} {xs : List Int} {i : Nat} (hi : i < xs.length) (h : bad n xs i) : zB (zE n xs (some (isv i))) = .ret ⟨.own, vTold "stands" i⟩ (zE n xs (some (isv i))) := by
  have t1 := zT2 (n := n) hi
  have t2 := cs_t2 (n := n) hi
  by_cases c : ¬ (0 ≤ xs.getD i 0 ∧ xs.getD i 0 < n)
  · rw [decide_eq_true c] at t1
    exact e_seqR ((e_if_t t1).trans rfl)
  · rw [decide_eq_false c] at t1
    have h2 := h.resolve_left c
    rw [decide_eq_true h2] at t2
    exact (e_seq (e_if_f t1)).trans ((e_if_t t2).trans rfl)
theorem zH {n : Int} {xs : List Int} (h : xs ≠ []) : sIf (fTst (fTwo true (fVar 1) (fLst aNil) (kS gEq))) (sRet (fLst (aEx (fC (.str "stands")) (aEx (fC (.int 0)) aNil)))) sNil (zE n xs none) = .next (zE n xs none) := by
  have t := t_tst (e_eqL (qb := true) (fa := fVar 1) (fb := fLst aNil) (ρ := zE n xs none) (x := xs) (y := []) (m := .bor) (m' := .own) rfl rfl rfl)
  rw [decide_eq_false h] at t
  exact e_if_f t
theorem reason_good {n : Int} {xs : List Int} (hn : ¬ (n < 1 ∨ 6 < n)) (h0 : 0 < xs.length) (l : xs.length ≤ 1000) (h : ∀ i, i < xs.length → ¬ bad n xs i) : fn_l_reason [.int n, dI xs] = .ret (.lst []) [] := by
  have t := zT1 (n := n) (xs := xs)
  rw [decide_eq_false hn] at t
  have hne : xs ≠ [] := by intro e; rw [e] at h0; simp at h0
  obtain ⟨ρ', e1, p2, rfl, k2⟩ := for_int (k := 2) (src := iR1 (fOne (fVar 1) (kS1 gLen))) (body := zB) (ρ := zE n xs none) (fun _ ρ => ∃ p2, ρ = zE n xs p2 ∧ NIo p2) (e_r1 (e_lenI (hs := xs) (m := .bor) rfl) (c62_of (by omega) (by omega))) ⟨none, rfl, .non⟩ (by
    rintro j x ρ hx ⟨p2, rfl, k2⟩
    obtain ⟨hj, rfl⟩ := iv0_get hx
    have hj : j < xs.length := by rw [Int.toNat_natCast] at hj; exact hj
    exact ⟨noIo_of k2 rfl, zE n xs (some (isv j)), .inl (zB_ok hj (h j hj)), _, rfl, .some⟩)
  have hb : s_l_reason (zE n xs none) = .ret ⟨.own, .lst []⟩ (zE n xs p2) := (e_seq (e_if_f t)).trans ((e_seq (zH hne)).trans ((e_seq e1).trans rfl))
  exact e_run (pm := [.shr, .bor]) (rm := true) (n := 3) (ds := [.int n, dI xs]) (outs := []) hb rfl rfl
theorem reason_bad {n : Int} {xs : List Int} (hn : ¬ (n < 1 ∨ 6 < n)) (l : xs.length ≤ 1000) {i : Nat} (hi : i < xs.length) (hb : bad n xs i) (h : ∀ j, j < i → ¬ bad n xs j) : fn_l_reason [.int n, dI xs] = .ret (vTold "stands" i) [] := by
  have t := zT1 (n := n) (xs := xs)
  rw [decide_eq_false hn] at t
  have hne : xs ≠ [] := by intro e; rw [e] at hi; simp at hi
  have e1 : ∃ p2, sFor (iR1 (fOne (fVar 1) (kS1 gLen))) (gNm 2) zB (zE n xs none) = .ret ⟨.own, vTold "stands" i⟩ (zE n xs p2) :=
    for_exit (k := 2) (src := iR1 (fOne (fVar 1) (kS1 gLen))) (body := zB) (ρ := zE n xs none) (fun _ ρ => ∃ p2, ρ = zE n xs p2 ∧ NIo p2) (fun r => ∃ p2, r = .ret ⟨.own, vTold "stands" i⟩ (zE n xs p2)) (e_r1 (e_lenI (hs := xs) (m := .bor) rfl) (c62_of (by omega) (by omega))) ⟨none, rfl, .non⟩ (i := i) (by rw [iv_length, Int.toNat_natCast]; exact hi) (by
      rintro j x ρ hji hx ⟨p2, rfl, k2⟩
      obtain ⟨hj, rfl⟩ := iv0_get hx
      exact ⟨noIo_of k2 rfl, zE n xs (some (isv j)), .inl (zB_ok (by omega) (h j hji)), _, rfl, .some⟩) (by
      rintro x ρ hx ⟨p2, rfl, k2⟩
      obtain ⟨hj, rfl⟩ := iv0_get hx
      have := zB_bad (n := n) hi hb
      refine ⟨noIo_of k2 rfl, ?_, ?_⟩
      · show (zB (zE n xs (some (isv i)))).out = true
        rw [this]; rfl
      · show ∃ p2, zB (zE n xs (some (isv i))) = _
        exact ⟨_, this⟩)
  obtain ⟨p2, e1⟩ := e1
  have hb : s_l_reason (zE n xs none) = .ret ⟨.own, vTold "stands" i⟩ (zE n xs p2) := (e_seq (e_if_f t)).trans ((e_seq (zH hne)).trans (e_seqR e1))
  exact e_run (pm := [.shr, .bor]) (rm := true) (n := 3) (ds := [.int n, dI xs]) (outs := []) hb rfl rfl
end MV
namespace MV
open PySem PySem.Spec PyProof.Rows L2 He
/-! sets -/
abbrev sE (st : Vl) (n : Int) (p4 p5 p6 p7 p8 : Option Sv) : En := [some ⟨.io, st⟩, some (isv n), some (isv 1), some ⟨.shr, dI [1, 3, 7, 15, 31, 63]⟩, p4, p5, p6, p7, p8]
def sI : SemS := (sSeq (sIf (fTst (fTwo true (fTwo true (fOne (fVar 6) (kS1 gInt)) (fC (.int 2)) (kS (gIc cMod Int.fmod))) (fC (.int 1)) (kS gEq))) (sExpr (fApp 7 (fVar 8))) sNil)
    (sAsg 6 (fFrz (fTwo true (fOne (fVar 6) (kS1 gInt)) (fC (.int 2)) (kS (gIc cDiv Int.fdiv))))))
def sO : SemS := (sSeq (sAsg 6 (fFrz (fTwo false (fC (.int 1)) (fCall [.io, .bor] false fn_l_draw (aSl 0 (aEx (fTwo true (fVar 3) (fTwo true (fVar 1) (fC (.int 1)) (kS (gI fun i j => i - j))) kIx) aNil))) kAdd)))
    (sSeq (sAsg 7 (fLst aNil))
    (sSeq (sFor (iR1 (fVar 1)) (gNm 8) sI)
    (sFz 7 (sExpr (fApp 4 (fVar 7)))))))
abbrev bitK (code k : Nat) : List Int := (iv 0 k).filter fun p => decide ((code / 2 ^ p.toNat) % 2 = 1)
theorem sI_eq {st : Vl} {n : Int} {code k : Nat} {p4 p5 : Option Sv} (hk : k ≤ 100) : sI (sE st n p4 p5 (some (isv ((code / 2 ^ k : Nat) : Int))) (some ⟨.own, dI (bitK code k)⟩) (some (isv k))) = .next (sE st n p4 p5 (some (isv ((code / 2 ^ (k + 1) : Nat) : Int))) (some ⟨.own, dI (bitK code (k + 1))⟩) (some (isv k))) := by
  have d2 : ∀ (x : Nat) (w : List Int), sAsg 6 (fFrz (fTwo true (fOne (fVar 6) (kS1 gInt)) (fC (.int 2)) (kS (gIc cDiv Int.fdiv)))) (sE st n p4 p5 (some (isv (x : Int))) (some ⟨.own, dI w⟩) (some (isv k))) = .next (sE st n p4 p5 (some (isv ((x / 2 : Nat) : Int))) (some ⟨.own, dI w⟩) (some (isv k))) := fun x w => by
    have := e_fdiv (qb := true) (fa := fOne (fVar 6) (kS1 gInt)) (fb := fC (.int 2)) (ρ := sE st n p4 p5 (some (isv (x : Int))) (some ⟨.own, dI w⟩) (some (isv k))) (p := (x : Int)) (n := 2) (m := .shr) (m' := .shr) rfl rfl rfl (by omega) (by omega)
    rw [show (x : Int) / 2 = ((x / 2 : Nat) : Int) by omega] at this
    exact e_as (e_frz_shr this) rfl rfl rfl
  have hw : bitK code (k + 1) = bitK code k ++ (if (code / 2 ^ k) % 2 = 1 then [(k : Int)] else []) := by
    show (iv 0 (k + 1)).filter _ = _
    rw [iv_succ, List.filter_append]
    congr 1
    by_cases c : (code / 2 ^ k) % 2 = 1
    · rw [if_pos c, List.filter_cons_of_pos]
      · rw [Int.zero_add]; rfl
      · rw [Int.zero_add, Int.toNat_natCast]; exact decide_eq_true c
    · rw [if_neg c, List.filter_cons_of_neg]
      · rfl
      · rw [Int.zero_add, Int.toNat_natCast]
        intro h; exact c (of_decide_eq_true h)
  have hx : code / 2 ^ (k + 1) = code / 2 ^ k / 2 := by rw [Nat.pow_succ, Nat.div_div_eq_div_mul]
  have lw : (bitK code k).length ≤ 100 := Nat.le_trans (List.length_filter_le _ _) (by rw [iv_length]; exact hk)
  rw [hw, hx]
  generalize code / 2 ^ k = x
  generalize bitK code k = w at lw
  have x1 : fTwo true (fOne (fVar 6) (kS1 gInt)) (fC (.int 2)) (kS (gIc cMod Int.fmod)) (sE st n p4 p5 (some (isv (x : Int))) (some ⟨.own, dI w⟩) (some (isv k))) = .ok (isv ((x : Int) % 2)) (sE st n p4 p5 (some (isv (x : Int))) (some ⟨.own, dI w⟩) (some (isv k))) := e_mod (p := (x : Int)) (n := 2) (m := .shr) (m' := .shr) rfl rfl rfl (by omega)
  have t := t_eqI (qb := true) (fb := fC (.int 1)) (y := 1) (m' := .shr) x1 rfl rfl
  by_cases c : x % 2 = 1
  · rw [decide_eq_true (by omega)] at t
    rw [if_pos c]
    have a : sExpr (fApp 7 (fVar 8)) (sE st n p4 p5 (some (isv (x : Int))) (some ⟨.own, dI w⟩) (some (isv k))) = .next (sE st n p4 p5 (some (isv (x : Int))) (some ⟨.own, dI (w ++ [(k : Int)])⟩) (some (isv k))) :=
      e_expr (e_app (x := (k : Int)) (xs := w) (m := .own) rfl rfl rfl rfl (by omega) rfl)
    exact (e_seq ((e_if_t t).trans a)).trans (d2 x (w ++ [(k : Int)]))
  · rw [decide_eq_false (by omega)] at t
    rw [if_neg c, List.append_nil]
    exact (e_seq (e_if_f t)).trans (d2 x w)
theorem sets_spec {st : Vl} (d : DS st) {n : Nat} (n1 : 1 ≤ n) (n6 : n ≤ 6) : ∃ S st', fn_l_sets [st, .int n, .int 1] = .ret (.lst [dI S]) [st'] ∧ S ∈ subs n ∧ DS st' := by
  obtain ⟨lim, l0, l1, l2, hl⟩ : ∃ lim : Nat, 0 < lim ∧ lim < 100 ∧ lim = 2 ^ n - 1 ∧ atI ([1, 3, 7, 15, 31, 63].map Vl.int) ((n : Int) - 1) = some (.int (lim : Int)) := by
    have : n = 1 ∨ n = 2 ∨ n = 3 ∨ n = 4 ∨ n = 5 ∨ n = 6 := by omega
    rcases this with rfl | rfl | rfl | rfl | rfl | rfl
    · exact ⟨1, by omega, by omega, rfl, rfl⟩
    · exact ⟨3, by omega, by omega, rfl, rfl⟩
    · exact ⟨7, by omega, by omega, rfl, rfl⟩
    · exact ⟨15, by omega, by omega, rfl, rfl⟩
    · exact ⟨31, by omega, by omega, rfl, rfl⟩
    · exact ⟨63, by omega, by omega, rfl, rfl⟩
  obtain ⟨r, st', e, ra, rb, d'⟩ := draw_spec d (lim := (lim : Int)) (by omega) (by omega)
  have hm := bits_in n (in6 n1 n6) r.toNat (List.mem_range.mpr (by omega))
  refine ⟨bits n (r.toNat + 1), st', ?_, hm, d'⟩
  have s6 : sAsg 6 (fFrz (fTwo false (fC (.int 1)) (fCall [.io, .bor] false fn_l_draw (aSl 0 (aEx (fTwo true (fVar 3) (fTwo true (fVar 1) (fC (.int 1)) (kS (gI fun i j => i - j))) kIx) aNil))) kAdd)) (sE st n (some ⟨.own, .lst []⟩) (some (isv 0)) none none none) = .next (sE st' n (some ⟨.own, .lst []⟩) (some (isv 0)) (some (isv ((r.toNat + 1 : Nat) : Int))) none none) := by
    have x0 : fTwo true (fVar 3) (fTwo true (fVar 1) (fC (.int 1)) (kS (gI fun i j => i - j))) kIx (sE st n (some ⟨.own, .lst []⟩) (some (isv 0)) none none none) = .ok (isv lim) (sE st n (some ⟨.own, .lst []⟩) (some (isv 0)) none none none) := e_ixI (hs := [1, 3, 7, 15, 31, 63]) (m := .shr) (m' := .shr) (k := (n : Int) - 1) rfl rfl rfl hl
    have x1 : fCall [.io, .bor] false fn_l_draw (aSl 0 (aEx (fTwo true (fVar 3) (fTwo true (fVar 1) (fC (.int 1)) (kS (gI fun i j => i - j))) kIx) aNil)) (sE st n (some ⟨.own, .lst []⟩) (some (isv 0)) none none none) = .ok (isv r) (sE st' n (some ⟨.own, .lst []⟩) (some (isv 0)) none none none) := e_cl (ds := [st, .int lim]) (e_aSl rfl (e_aEx x0 rfl rfl)) rfl rfl e rfl rfl
    exact e_as (s := isv ((r.toNat + 1 : Nat) : Int)) (e_frz_shr (e_two (s := isv 1) rfl rfl x1 (by rw [show ((r.toNat + 1 : Nat) : Int) = 1 + r by omega]; rfl))) rfl rfl rfl
  have s7 : sAsg 7 (fLst aNil) (sE st' n (some ⟨.own, .lst []⟩) (some (isv 0)) (some (isv ((r.toNat + 1 : Nat) : Int))) none none) = .next (sE st' n (some ⟨.own, .lst []⟩) (some (isv 0)) (some (isv (((r.toNat + 1) / 2 ^ 0 : Nat) : Int))) (some ⟨.own, dI (bitK (r.toNat + 1) 0)⟩) none) := by
    rw [Nat.pow_zero, Nat.div_one]; rfl
  obtain ⟨ρ', e8, p8, rfl, k8⟩ := for_int (k := 8) (src := iR1 (fVar 1)) (body := sI) (ρ := sE st' n (some ⟨.own, .lst []⟩) (some (isv 0)) (some (isv (((r.toNat + 1) / 2 ^ 0 : Nat) : Int))) (some ⟨.own, dI (bitK (r.toNat + 1) 0)⟩) none)
    (fun k ρ => ∃ p8, ρ = sE st' n (some ⟨.own, .lst []⟩) (some (isv 0)) (some (isv (((r.toNat + 1) / 2 ^ k : Nat) : Int))) (some ⟨.own, dI (bitK (r.toNat + 1) k)⟩) p8 ∧ NIo p8) (e_r1 (m := .shr) (j := (n : Int)) rfl (c62_of (by omega) (by omega))) ⟨none, rfl, .non⟩ (by
    rintro j x ρ hx ⟨p8, rfl, k8⟩
    obtain ⟨hj, rfl⟩ := iv0_get hx
    exact ⟨noIo_of k8 rfl, _, .inl (sI_eq (by omega)), _, rfl, .some⟩)
  rw [iv_length, Int.toNat_natCast] at e8
  have s9 : sFz 7 (sExpr (fApp 4 (fVar 7))) (sE st' n (some ⟨.own, .lst []⟩) (some (isv 0)) (some (isv (((r.toNat + 1) / 2 ^ n : Nat) : Int))) (some ⟨.own, dI (bitK (r.toNat + 1) n)⟩) p8) = .next (sE st' n (some ⟨.own, .lst [dI (bitK (r.toNat + 1) n)]⟩) (some (isv 0)) (some (isv (((r.toNat + 1) / 2 ^ n : Nat) : Int))) (some ⟨.shr, dI (bitK (r.toNat + 1) n)⟩) p8) := rfl
  have hO : sO (sE st n (some ⟨.own, .lst []⟩) (some (isv 0)) none none none) = .next (sE st' n (some ⟨.own, .lst [dI (bitK (r.toNat + 1) n)]⟩) (some (isv 0)) (some (isv (((r.toNat + 1) / 2 ^ n : Nat) : Int))) (some ⟨.shr, dI (bitK (r.toNat + 1) n)⟩) p8) := (e_seq s6).trans ((e_seq s7).trans ((e_seq e8).trans s9))
  have hF : sFor (iR1 (fVar 2)) (gNm 5) sO (sE st n (some ⟨.own, .lst []⟩) none none none none) = .next (sE st' n (some ⟨.own, .lst [dI (bitK (r.toNat + 1) n)]⟩) (some (isv 0)) (some (isv (((r.toNat + 1) / 2 ^ n : Nat) : Int))) (some ⟨.shr, dI (bitK (r.toNat + 1) n)⟩) p8) := by
    refine e_for (ρ1 := sE st n (some ⟨.own, .lst []⟩) none none none none) (its := [isv 0]) rfl ?_
    show (match sO (sE st n (some ⟨.own, .lst []⟩) (some (isv 0)) none none none) with
      | .next ρ2 => loopL (gNm 5) sO [] ρ2
      | .cont ρ2 => loopL (gNm 5) sO [] ρ2
      | .brk ρ2 => .next ρ2
      | r => r) = _
    rw [hO]; rfl
  have s3 : sAsg 3 (fFrz (fLst (aEx (fC (.int 1)) (aEx (fC (.int 3)) (aEx (fC (.int 7)) (aEx (fC (.int 15)) (aEx (fC (.int 31)) (aEx (fC (.int 63)) aNil)))))))) [some ⟨.io, st⟩, some (isv n), some (isv 1), none, none, none, none, none, none] = .next [some ⟨.io, st⟩, some (isv n), some (isv 1), some ⟨.shr, dI [1, 3, 7, 15, 31, 63]⟩, none, none, none, none, none] := rfl
  have s4 : sAsg 4 (fLst aNil) [some ⟨.io, st⟩, some (isv n), some (isv 1), some ⟨.shr, dI [1, 3, 7, 15, 31, 63]⟩, none, none, none, none, none] = .next (sE st n (some ⟨.own, .lst []⟩) none none none none) := rfl
  have hb : s_l_sets [some ⟨.io, st⟩, some (isv n), some (isv 1), none, none, none, none, none, none] = .ret ⟨.own, .lst [dI (bits n (r.toNat + 1))]⟩ (sE st' n none (some (isv 0)) (some (isv (((r.toNat + 1) / 2 ^ n : Nat) : Int))) (some ⟨.shr, dI (bitK (r.toNat + 1) n)⟩) p8) := (e_seq s3).trans ((e_seq s4).trans ((e_seq hF).trans rfl))
  exact e_run (pm := [.io, .bor, .bor]) (rm := true) (n := 9) (ds := [st, .int n, .int 1]) (outs := [st']) hb rfl rfl
/-! wild -/
abbrev wE (st : Vl) (n : Int) (xs : List Int) (p3 p4 : Option Sv) : En := [some ⟨.io, st⟩, some (isv n), some ⟨.own, dI xs⟩, p3, p4]
def wB : SemS := (sSeq (sAsg 4 (fFrz (fTwo true (fCall [.io, .bor] false fn_l_draw (aSl 0 (aEx (fTwo true (fVar 1) (fC (.int 4)) kAdd) aNil))) (fC (.int 1)) (kS (gI fun i j => i - j)))))
    (sSeq (sIf (fTst (fTwo true (fVar 4) (fTwo true (fVar 1) (fC (.int 2)) kAdd) (kS gEq))) (sAsg 4 (fFrz (fTwo true (fCall [.io, .bor] false fn_l_draw (aSl 0 (aEx (fC (.int 2001)) aNil))) (fC (.int 1000)) (kS (gI fun i j => i - j))))) sNil)
    (sExpr (fApp 2 (fVar 4)))))
theorem wB_ok {st : Vl} (d : DS st) {n : Nat} (n6 : n ≤ 6) {xs : List Int} (l : xs.length ≤ 1000) {p3 p4 : Option Sv} (k4 : NIo p4) : ∃ st' x, wB (wE st n xs p3 p4) = .next (wE st' n (xs ++ [x]) p3 (some (isv x))) ∧ DS st' := by
  obtain ⟨r, st1, e, ra, rb, d1⟩ := draw_spec d (lim := (n : Int) + 4) (by omega) (by omega)
  have x0 : fTwo true (fVar 1) (fC (.int 4)) kAdd (wE st n xs p3 p4) = .ok (isv ((n : Int) + 4)) (wE st n xs p3 p4) := rfl
  have s1 : sAsg 4 (fFrz (fTwo true (fCall [.io, .bor] false fn_l_draw (aSl 0 (aEx (fTwo true (fVar 1) (fC (.int 4)) kAdd) aNil))) (fC (.int 1)) (kS (gI fun i j => i - j)))) (wE st n xs p3 p4) = .next (wE st1 n xs p3 (some (isv (r - 1)))) := by
    have c : fCall [.io, .bor] false fn_l_draw (aSl 0 (aEx (fTwo true (fVar 1) (fC (.int 4)) kAdd) aNil)) (wE st n xs p3 p4) = .ok (isv r) (wE st1 n xs p3 p4) := e_cl (ds := [st, .int ((n : Int) + 4)]) (e_aSl rfl (e_aEx x0 rfl rfl)) rfl rfl e rfl rfl
    exact e_as (e_frz_shr (e_two c rfl rfl rfl)) (noIo_of k4 rfl) rfl rfl
  have ap : ∀ (st' : Vl) (x : Int), sExpr (fApp 2 (fVar 4)) (wE st' n xs p3 (some (isv x))) = .next (wE st' n (xs ++ [x]) p3 (some (isv x))) := fun st' x =>
    e_expr (e_app (x := x) (xs := xs) (m := .own) rfl rfl rfl rfl (by omega) rfl)
  have t := t_eqI (qb := true) (fa := fVar 4) (fb := fTwo true (fVar 1) (fC (.int 2)) kAdd) (ρ := wE st1 n xs p3 (some (isv (r - 1)))) (x := r - 1) (y := (n : Int) + 2) (m := .shr) (m' := .shr) rfl rfl rfl
  by_cases c : r - 1 = (n : Int) + 2
  · obtain ⟨q, st2, e2, qa, qb, d2⟩ := draw_spec d1 (lim := 2001) (by omega) (by omega)
    rw [decide_eq_true c] at t
    have s2 : sAsg 4 (fFrz (fTwo true (fCall [.io, .bor] false fn_l_draw (aSl 0 (aEx (fC (.int 2001)) aNil))) (fC (.int 1000)) (kS (gI fun i j => i - j)))) (wE st1 n xs p3 (some (isv (r - 1)))) = .next (wE st2 n xs p3 (some (isv (q - 1000)))) := by
      have c : fCall [.io, .bor] false fn_l_draw (aSl 0 (aEx (fC (.int 2001)) aNil)) (wE st1 n xs p3 (some (isv (r - 1)))) = .ok (isv q) (wE st2 n xs p3 (some (isv (r - 1)))) := e_cl (ds := [st1, .int 2001]) (e_aSl rfl (e_aEx (s := isv 2001) rfl rfl rfl)) rfl rfl e2 rfl rfl
      exact e_as (e_frz_shr (e_two c rfl rfl rfl)) rfl rfl rfl
    exact ⟨st2, q - 1000, (e_seq s1).trans ((e_seq ((e_if_t t).trans s2)).trans (ap st2 _)), d2⟩
  · rw [decide_eq_false c] at t
    exact ⟨st1, r - 1, (e_seq s1).trans ((e_seq (e_if_f t)).trans (ap st1 _)), d1⟩
theorem wild_spec {st : Vl} (d : DS st) {n : Nat} (n6 : n ≤ 6) : ∃ xs st', fn_l_wild [st, .int n] = .ret (dI xs) [st'] ∧ xs.length ≤ 8 ∧ DS st' := by
  obtain ⟨r, st1, e, ra, rb, d1⟩ := draw_spec d (lim := 9) (by omega) (by omega)
  have c : fCall [.io, .bor] false fn_l_draw (aSl 0 (aEx (fC (.int 9)) aNil)) (wE st n [] none none) = .ok (isv r) (wE st1 n [] none none) := e_cl (ds := [st, .int 9]) (e_aSl rfl (e_aEx (s := isv 9) rfl rfl rfl)) rfl rfl e rfl rfl
  obtain ⟨ρ', e1, st', xs, p3, p4, rfl, d', hl, k3, k4⟩ := for_int (k := 3) (src := iR1 (fCall [.io, .bor] false fn_l_draw (aSl 0 (aEx (fC (.int 9)) aNil)))) (body := wB) (ρ := wE st n [] none none) (fun k ρ => ∃ st' xs p3 p4, ρ = wE st' n xs p3 p4 ∧ DS st' ∧ xs.length = k ∧ NIo p3 ∧ NIo p4) (e_r1 c (c62_of (by omega) (by omega))) ⟨st1, [], none, none, rfl, d1, rfl, .non, .non⟩ (by
    rintro j x ρ hx ⟨st', xs, p3, p4, rfl, d', hl, k3, k4⟩
    obtain ⟨hj, rfl⟩ := iv0_get hx
    obtain ⟨st2, y, e2, d2⟩ := wB_ok d' n6 (xs := xs) (by omega) (p3 := some (isv j)) k4
    exact ⟨noIo_of k3 rfl, _, .inl e2, st2, xs ++ [y], _, _, rfl, d2, by rw [List.length_append, hl]; rfl, .some, .some⟩)
  rw [iv_length] at hl
  refine ⟨xs, st', ?_, by omega, d'⟩
  have hb : s_l_wild [some ⟨.io, st⟩, some (isv n), none, none, none] = .ret ⟨.own, dI xs⟩ [some ⟨.io, st'⟩, some (isv n), none, p3, p4] := (e_seq (show sAsg 2 (fLst aNil) [some ⟨.io, st⟩, some (isv n), none, none, none] = .next (wE st n [] none none) from rfl)).trans ((e_seq e1).trans rfl)
  exact e_run (pm := [.io, .bor]) (rm := true) (n := 5) (ds := [st, .int n]) (outs := [st']) hb rfl rfl
/-! spoilt -/
abbrev pE (st : Vl) (n : Int) (S : List Int) (k r v : Int) : En := [some ⟨.io, st⟩, some (isv n), some ⟨.bor, dI S⟩, some (isv k), some (isv r), some (isv v), none]
def spP (n : Int) (S : List Int) (k r v : Int) (x : Sr) : Prop := ∃ xs st', x = .ret ⟨.own, dI xs⟩ (pE st' n S k r v) ∧ xs.length ≤ 30 ∧ DS st'
theorem sp_if {n k r v : Int} {S : List Int} {g : SemB} {a rest : SemS} {ρ : En} {b : Bool} (t : g ρ = .ok b ρ) (h1 : spP n S k r v (a ρ)) (h2 : spP n S k r v (rest ρ)) : spP n S k r v (sSeq (sIf g a sNil) rest ρ) := by
  cases b with
  | true =>
    obtain ⟨xs, st', e, l, d⟩ := h1
    exact ⟨xs, st', e_seqR ((e_if_t t).trans e), l, d⟩
  | false =>
    rw [show sSeq (sIf g a sNil) rest ρ = rest ρ from e_seq (e_if_f t)]
    exact h2
theorem sp_t {st : Vl} {n k r v : Int} {S : List Int} {c : Int} : fTst (fTwo true (fVar 3) (fC (.int c)) (kS gEq)) (pE st n S k r v) = .ok (decide (k = c)) (pE st n S k r v) := t_eqI (qb := true) (m := .shr) (m' := .shr) rfl rfl rfl
theorem sp_f {st : Vl} {n k r v : Int} {S : List Int} : fSl true true (fVar 2) fNoP (fPart (fVar 4)) (pE st n S k r v) = .ok ⟨.own, dI (cutD S none (some r))⟩ (pE st n S k r v) := e_sl (m := .bor) (xs := S) rfl rfl rfl rfl
theorem sp_b {st : Vl} {n k r v : Int} {S : List Int} : fSl true true (fVar 2) (fPart (fVar 4)) fNoP (pE st n S k r v) = .ok ⟨.own, dI (cutD S (some r) none)⟩ (pE st n S k r v) := e_sl (m := .bor) (xs := S) rfl rfl rfl rfl
theorem sp_b1 {st : Vl} {n k r v : Int} {S : List Int} : fSl true true (fVar 2) (fPart (fTwo true (fVar 4) (fC (.int 1)) kAdd)) fNoP (pE st n S k r v) = .ok ⟨.own, dI (cutD S (some (r + 1)) none)⟩ (pE st n S k r v) := e_sl (m := .bor) (xs := S) rfl rfl rfl rfl
theorem sp_v {st : Vl} {n k r v : Int} {S : List Int} : fLst (aEx (fVar 5) aNil) (pE st n S k r v) = .ok ⟨.own, dI [v]⟩ (pE st n S k r v) := rfl
theorem spoilt_spec {st : Vl} (d : DS st) {n : Nat} (n1 : 1 ≤ n) (n6 : n ≤ 6) {S : List Int} (h0 : 0 < S.length) (h6 : S.length ≤ 6) : ∃ xs st', fn_l_spoilt [st, .int n, dI S] = .ret (dI xs) [st'] ∧ xs.length ≤ 30 ∧ DS st' := by
  obtain ⟨k, st1, e1, ka, kb, d1⟩ := draw_spec d (lim := 16) (by omega) (by omega)
  obtain ⟨r, st2, e2, ra, rb, d2⟩ := draw_spec d1 (lim := (S.length : Int)) (by omega) (by omega)
  obtain ⟨q, st3, e3, qa, qb, d3⟩ := draw_spec d2 (lim := 8) (by omega) (by omega)
  have s1 : sAsg 3 (fFrz (fCall [.io, .bor] false fn_l_draw (aSl 0 (aEx (fC (.int 16)) aNil)))) [some ⟨.io, st⟩, some (isv n), some ⟨.bor, dI S⟩, none, none, none, none] = .next [some ⟨.io, st1⟩, some (isv n), some ⟨.bor, dI S⟩, some (isv k), none, none, none] :=
    e_as (e_frz_shr (e_cl (ds := [st, .int 16]) (e_aSl rfl (e_aEx (s := isv 16) rfl rfl rfl)) rfl rfl e1 rfl rfl)) rfl rfl rfl
  have s2 : sAsg 4 (fFrz (fCall [.io, .bor] false fn_l_draw (aSl 0 (aEx (fOne (fVar 2) (kS1 gLen)) aNil)))) [some ⟨.io, st1⟩, some (isv n), some ⟨.bor, dI S⟩, some (isv k), none, none, none] = .next [some ⟨.io, st2⟩, some (isv n), some ⟨.bor, dI S⟩, some (isv k), some (isv r), none, none] := by
    have x0 : fOne (fVar 2) (kS1 gLen) [some ⟨.io, st1⟩, some (isv n), some ⟨.bor, dI S⟩, some (isv k), none, none, none] = .ok (isv (S.length : Int)) [some ⟨.io, st1⟩, some (isv n), some ⟨.bor, dI S⟩, some (isv k), none, none, none] := e_lenI (hs := S) (m := .bor) rfl
    exact e_as (e_frz_shr (e_cl (ds := [st1, .int (S.length : Int)]) (e_aSl rfl (e_aEx x0 rfl rfl)) rfl rfl e2 rfl rfl)) rfl rfl rfl
  obtain ⟨v, hv⟩ : ∃ v : Int, atI ([(n : Int), -1, 0, (n : Int) - 1, (n : Int) + 1, -1000, 1000, 1].map Vl.int) q = some (.int v) := by
    have : q = 0 ∨ q = 1 ∨ q = 2 ∨ q = 3 ∨ q = 4 ∨ q = 5 ∨ q = 6 ∨ q = 7 := by omega
    rcases this with rfl | rfl | rfl | rfl | rfl | rfl | rfl | rfl <;> exact ⟨_, rfl⟩
  have s3 : sAsg 5 (fTwo false (fLst (aEx (fVar 1) (aEx (fOne (fC (.int 1)) (kS1 gNeg)) (aEx (fC (.int 0)) (aEx (fFrz (fTwo true (fVar 1) (fC (.int 1)) (kS (gI fun i j => i - j)))) (aEx (fFrz (fTwo true (fVar 1) (fC (.int 1)) kAdd)) (aEx (fOne (fC (.int 1000)) (kS1 gNeg)) (aEx (fC (.int 1000)) (aEx (fC (.int 1)) aNil))))))))) (fCall [.io, .bor] false fn_l_draw (aSl 0 (aEx (fC (.int 8)) aNil))) kIx) [some ⟨.io, st2⟩, some (isv n), some ⟨.bor, dI S⟩, some (isv k), some (isv r), none, none] = .next (pE st3 n S k r v) := by
    have c : fCall [.io, .bor] false fn_l_draw (aSl 0 (aEx (fC (.int 8)) aNil)) [some ⟨.io, st2⟩, some (isv n), some ⟨.bor, dI S⟩, some (isv k), some (isv r), none, none] = .ok (isv q) [some ⟨.io, st3⟩, some (isv n), some ⟨.bor, dI S⟩, some (isv k), some (isv r), none, none] := e_cl (ds := [st2, .int 8]) (e_aSl rfl (e_aEx (s := isv 8) rfl rfl rfl)) rfl rfl e3 rfl rfl
    exact e_as (e_ixI (hs := [(n : Int), -1, 0, (n : Int) - 1, (n : Int) + 1, -1000, 1000, 1]) (m := .own) (m' := .shr) rfl rfl c hv) rfl rfl rfl
  have C : ∀ l h, (cutD S l h).length ≤ 6 := fun l h => Nat.le_trans cut_len h6
  have fin : ∀ {x : Sr}, spP n S k r v x → ∀ (h : s_l_spoilt [some ⟨.io, st⟩, some (isv n), some ⟨.bor, dI S⟩, none, none, none, none] = x), ∃ xs st', fn_l_spoilt [st, .int n, dI S] = .ret (dI xs) [st'] ∧ xs.length ≤ 30 ∧ DS st' := by
    rintro x ⟨xs, st', rfl, l, d'⟩ h
    exact ⟨xs, st', e_run (pm := [.io, .shr, .bor]) (rm := true) (n := 7) (ds := [st, .int n, dI S]) (outs := [st']) h rfl rfl, l, d'⟩
  refine fin ?_ ((e_seq s1).trans ((e_seq s2).trans (e_seq s3)))
  refine sp_if sp_t ?_ (sp_if sp_t ?_ (sp_if sp_t ?_ (sp_if sp_t ?_ (sp_if sp_t ?_ (sp_if sp_t ?_ (sp_if sp_t ?_ (sp_if sp_t ?_ ?_)))))))
  · have a := e_addI (qb := true) (sp_f (st := st3) (n := n) (k := k) (r := r) (v := v) (S := S)) rfl sp_v (by have := C none (some r); simp; omega)
    have b := e_addI (qb := true) a rfl sp_b (by have := C none (some r); have := C (some r) none; simp; omega)
    exact ⟨_, st3, e_ret b, by have := C none (some r); have := C (some r) none; simp; omega, d3⟩
  · have a := e_addI (qb := true) (sp_f (st := st3) (n := n) (k := k) (r := r) (v := v) (S := S)) rfl sp_v (by have := C none (some r); simp; omega)
    have b := e_addI (qb := true) a rfl sp_b1 (by have := C none (some r); have := C (some (r + 1)) none; simp; omega)
    exact ⟨_, st3, e_ret b, by have := C none (some r); have := C (some (r + 1)) none; simp; omega, d3⟩
  · have a := e_addI (qb := true) (fa := fVar 2) (xs := S) (m := .bor) (ρ := pE st3 n S k r v) rfl rfl (sp_v (st := st3) (n := n) (k := k) (r := r) (v := v) (S := S)) (by simp; omega)
    exact ⟨_, st3, e_ret a, by simp; omega, d3⟩
  · have a := e_addI (qb := true) (sp_f (st := st3) (n := n) (k := k) (r := r) (v := v) (S := S)) rfl sp_b1 (by have := C none (some r); have := C (some (r + 1)) none; omega)
    exact ⟨_, st3, e_ret a, by have := C none (some r); have := C (some (r + 1)) none; simp; omega, d3⟩
  · have x0 : fTwo true (fVar 2) (fVar 4) kIx (pE st3 n S k r v) = .ok (isv (S.getD r.toNat 0)) (pE st3 n S k r v) := e_ixI (hs := S) (m := .bor) (m' := .shr) (k := r) rfl rfl rfl (by have := atI_d (hs := S) (i := r.toNat) (by omega); rw [show ((r.toNat : Nat) : Int) = r by omega] at this; exact this)
    have x1 : fLst (aEx (fTwo true (fVar 2) (fVar 4) kIx) aNil) (pE st3 n S k r v) = .ok ⟨.own, dI [S.getD r.toNat 0]⟩ (pE st3 n S k r v) := e_lst (e_aEx x0 rfl rfl) rfl (Nat.le_of_ble_eq_true rfl)
    have a := e_addI (qb := true) (sp_f (st := st3) (n := n) (k := k) (r := r) (v := v) (S := S)) rfl x1 (by have := C none (some r); simp; omega)
    have b := e_addI (qb := true) a rfl sp_b (by have := C none (some r); have := C (some r) none; simp; omega)
    exact ⟨_, st3, e_ret b, by have := C none (some r); have := C (some r) none; simp; omega, d3⟩
  · have hr : iR1 (fOne (fVar 2) (kS1 gLen)) (pE st3 n S k r v) = .ok (true, (iv 0 (S.length : Int).toNat).map isv) (pE st3 n S k r v) := e_r1 (m := .shr) (e_lenI (hs := S) (m := .bor) rfl) (c62_of (by omega) (by omega))
    have := lc_id (q := true) (k := 6) (b := fun _ => true) (cond := bYes) (elt := fTwo true (fVar 2) (fTwo true (fTwo true (fOne (fVar 2) (kS1 gLen)) (fC (.int 1)) (kS (gI fun i j => i - j))) (fVar 6) (kS (gI fun i j => i - j))) kIx) (fun p => S.getD ((S.length : Int) - 1 - p).toNat 0) hr rfl rfl (by rw [iv_length]; omega) (fun _ _ => rfl) (fun p hp _ => by
      have hp := mem_iv.mp hp
      have y0 := e_lenI (hs := S) (m := .bor) (fa := fVar 2) (ρ := (pE st3 n S k r v).set 6 (some (isv p))) (ρ1 := (pE st3 n S k r v).set 6 (some (isv p))) rfl
      have y1 := e_two (qb := true) (fb := fC (.int 1)) (k := kS (gI fun i j => i - j)) (r := .ok (isv ((S.length : Int) - 1)) ((pE st3 n S k r v).set 6 (some (isv p)))) y0 rfl rfl rfl
      have y2 := e_two (qb := true) (fb := fVar 6) (k := kS (gI fun i j => i - j)) (t := isv p) (ρ2 := (pE st3 n S k r v).set 6 (some (isv p))) (r := .ok (isv ((S.length : Int) - 1 - p)) ((pE st3 n S k r v).set 6 (some (isv p)))) y1 rfl rfl rfl
      exact e_ixI (hs := S) (m := .bor) (m' := .shr) rfl rfl y2 (by have := atI_d (hs := S) (i := ((S.length : Int) - 1 - p).toNat) (by omega); rw [show ((((S.length : Int) - 1 - p).toNat : Nat) : Int) = (S.length : Int) - 1 - p by omega] at this; exact this))
    refine ⟨_, st3, e_ret this, ?_, d3⟩
    rw [List.length_map]
    refine Nat.le_trans (List.length_filter_le _ _) ?_
    rw [iv_length]; omega
  · exact ⟨[], st3, rfl, by simp, d3⟩
  · obtain ⟨xs, st', e, l, d'⟩ := wild_spec d3 n6
    have c : fCall [.io, .bor] true fn_l_wild (aSl 0 (aSl 1 aNil)) (pE st3 n S k r v) = .ok ⟨.own, dI xs⟩ (pE st' n S k r v) := e_cl (ds := [st3, .int n]) (e_aSl rfl (e_aSl rfl rfl)) rfl rfl e rfl rfl
    exact ⟨xs, st', e_ret c, by omega, d'⟩
  · exact ⟨S, st3, e_ret (e_listI (hs := S) (m := .bor) rfl), by omega, d3⟩
end MV
namespace MV
open PySem PySem.Spec PyProof.Rows L2 He
theorem DS.own {st : Vl} (d : DS st) : resM true st = ⟨.own, st⟩ := by
  obtain ⟨v, p, cs, rfl, _⟩ := d
  rfl
/-! what is told, compared -/
theorem shaped_told {s : Str} {i : Int} (hs : PyData.canLay0 (.str s) = true) : SeqAt.shaped (toD (vTold s i)) = true := by
  show (PyData.canLayAll0 (toDs [.str s, .int i]) && decide (PyData.depth (.list (toDs [.str s, .int i])) ≤ 64)) = true
  have h : PyData.depth (.list (toDs [.str s, .int i])) ≤ 64 := by
    simp [toDs, toD, PyData.depth, PyData.depthAll]
  rw [decide_eq_true h]
  show ((PyData.canLay0 (.str s) && true) && true) = true
  rw [hs]; rfl
theorem shaped_nil : SeqAt.shaped (toD (.lst [])) = true := by
  show (PyData.canLayAll0 (toDs []) && decide (PyData.depth (.list (toDs [])) ≤ 64)) = true
  have h : PyData.depth (.list (toDs [])) ≤ 64 := by
    simp [toDs, toD, PyData.depth, PyData.depthAll]
  rw [decide_eq_true h]; rfl
theorem ne_told {s : Str} {i : Int} (hs : PyData.canLay0 (.str s) = true) : gNe (vTold s i) (vTold s i) = some (.bl false) := by
  have e : veq (vTold s i) (vTold s i) = true := by
    show PyData.eqv (toD (vTold s i)) (toD (vTold s i)) = true
    simp [toD, toDs, PyData.eqv, PyData.eqvAll]
  unfold gNe cEq
  rw [shaped_told hs, e]; rfl
theorem eq_told {s : Str} {i : Int} (hs : PyData.canLay0 (.str s) = true) : gEq (vTold s i) (.lst []) = some (.bl false) := by
  have e : veq (vTold s i) (.lst []) = false := by
    show PyData.eqv (toD (vTold s i)) (toD (.lst [])) = false
    simp [toD, toDs, PyData.eqv, PyData.eqvAll]
  unfold gEq cEq
  rw [shaped_told hs, shaped_nil, e]; rfl
theorem ne_nil : gNe (.lst []) (.lst []) = some (.bl false) := gNe_ints (xs := []) (ys := [])
theorem eq_nil : gEq (.lst []) (.lst []) = some (.bl true) := gEq_ints (xs := []) (ys := [])
theorem lay_size : PyData.canLay0 (.str "size") = true := by
  simp [PyData.canLay0]
  decide +kernel
theorem lay_stands : PyData.canLay0 (.str "stands") = true := by
  simp [PyData.canLay0]
  decide +kernel
/-- what is asked of a list behind a number of places -/
structure Due (m : Int) (xs : List Int) (far : Int) (d : Vl) (e : Bool) : Prop where
  own : resM true d = ⟨.own, d⟩
  out : ∀ b, fn_l_outcome [.int m, dI xs, .bl b] = .ret d []
  rea : fn_l_reason [.int m, dI xs] = .ret d []
  ne : gNe d d = some (.bl false)
  eq : gEq d (.lst []) = some (.bl e)
  good : e = true → fn_l_good [.int m, dI xs, .int far] = .ret (.bl true) []
  base : e = false → fn_l_base [.int m, dI xs] = .ret (.bl true) []
theorem due_of {m : Int} {xs : List Int} (l : xs.length ≤ 1000) {far : Int} (f1 : -10000 ≤ far) (f2 : far ≤ 10000) : ∃ d e, Due m xs far d e := by
  cases kd_of m xs with
  | size h =>
    have x := entry_p (xs := xs) h
    exact ⟨_, _, rfl, fun b => out_size x, reason_size h, ne_told lay_size, eq_told lay_size, fun z => (by cases z), fun _ => base_size x⟩
  | nil n e n1 n6 h =>
    subst e; subst h
    have x : fn_one_entry [.int n, dI []] = .exc "BadStands" [("index", .int ((0 : Nat) : Int))] [] := entry_s (i := 0) n1 n6 stands_nil
    exact ⟨_, _, rfl, fun b => out_stands x, reason_nil (by omega), ne_told lay_stands, eq_told lay_stands, fun z => (by cases z), fun _ => base_stands x⟩
  | bad n e n1 n6 i hi hb h =>
    subst e
    have x := entry_s n1 n6 (stands_bad l hi hb h)
    exact ⟨_, _, rfl, fun b => out_stands x, reason_bad (by omega) l hi hb h, ne_told lay_stands, eq_told lay_stands, fun z => (by cases z), fun _ => base_stands x⟩
  | good n e n1 n6 h0 h =>
    subst e
    exact ⟨.lst [], true, rfl, fun b => out_ok n1 n6 h0 l h, reason_good (by omega) h0 l h, ne_nil, eq_nil, fun _ => good_eq n1 n6 h0 l h f1 f2, fun z => (by cases z)⟩
def lB : SemS := (sSeq (sAsg 9 (fFrz (fOne (fVar 3) kListOf)))
    (sIf (fOr (fTst (fTwo true (fCall [.shr, .bor, .bor] true fn_l_outcome (aSl 2 (aSl 9 (aSl 8 aNil)))) (fVar 7) (kS gNe))) (fTst (fTwo true (fVar 9) (fVar 3) (kS gNe)))) (sRet (fC (.bl false))) sNil))
abbrev lE (ns : List Int) (st : Vl) (n : Int) (xs : List Int) (spot far : Int) (c : Vl) (p7 p8 p9 : Option Sv) : En := [some ⟨.bor, .scr ns⟩, some ⟨.own, st⟩, some (isv n), some ⟨.shr, dI xs⟩, some (isv spot), some (isv far), some ⟨.shr, c⟩, p7, p8, p9]
theorem main_k03 (ns : List Int) (hl : ns.length ≤ 63) : fn_law [.scr ns] = .ret (.bl true) [] := by
  obtain ⟨st, e1, d⟩ := begin_spec hl
  have h1 : sAsg 1 (fCall [.bor] true fn_l_begin (aSl 0 aNil)) [some ⟨.bor, .scr ns⟩, none, none, none, none, none, none, none, none, none] = .next [some ⟨.bor, .scr ns⟩, some ⟨.own, st⟩, none, none, none, none, none, none, none, none] :=
    e_as (e_cl (ds := [.scr ns]) (e_aSl rfl rfl) rfl rfl e1 d.own rfl) rfl rfl rfl
  obtain ⟨r2, st2, e2, a2, b2, d2⟩ := draw_spec d (lim := 6) (by omega) (by omega)
  obtain ⟨n, n1, n6, hn⟩ : ∃ n : Nat, 1 ≤ n ∧ n ≤ 6 ∧ atI ([3, 2, 4, 1, 5, 6].map Vl.int) r2 = some (.int (n : Int)) := by
    have : r2 = 0 ∨ r2 = 1 ∨ r2 = 2 ∨ r2 = 3 ∨ r2 = 4 ∨ r2 = 5 := by omega
    rcases this with rfl | rfl | rfl | rfl | rfl | rfl
    · exact ⟨3, by omega, by omega, rfl⟩
    · exact ⟨2, by omega, by omega, rfl⟩
    · exact ⟨4, by omega, by omega, rfl⟩
    · exact ⟨1, by omega, by omega, rfl⟩
    · exact ⟨5, by omega, by omega, rfl⟩
    · exact ⟨6, by omega, by omega, rfl⟩
  have h2 : sAsg 2 (fTwo false (fLst (aEx (fC (.int 3)) (aEx (fC (.int 2)) (aEx (fC (.int 4)) (aEx (fC (.int 1)) (aEx (fC (.int 5)) (aEx (fC (.int 6)) aNil))))))) (fCall [.io, .bor] false fn_l_draw (aSl 1 (aEx (fC (.int 6)) aNil))) kIx) [some ⟨.bor, .scr ns⟩, some ⟨.own, st⟩, none, none, none, none, none, none, none, none] = .next [some ⟨.bor, .scr ns⟩, some ⟨.own, st2⟩, some (isv n), none, none, none, none, none, none, none] := by
    have hd : fCall [.io, .bor] false fn_l_draw (aSl 1 (aEx (fC (.int 6)) aNil)) [some ⟨.bor, .scr ns⟩, some ⟨.own, st⟩, none, none, none, none, none, none, none, none] = .ok (isv r2) [some ⟨.bor, .scr ns⟩, some ⟨.own, st2⟩, none, none, none, none, none, none, none, none] := e_cl (ds := [st, .int 6]) (e_aSl rfl (e_aEx (s := isv 6) rfl rfl rfl)) rfl rfl e2 rfl rfl
    exact e_as (e_ixI (hs := [3, 2, 4, 1, 5, 6]) (m := .own) (m' := .shr) rfl rfl hd hn) rfl rfl rfl
  obtain ⟨S, st3, e3, hS, d3⟩ := sets_spec d2 n1 n6
  have hSl : 0 < S.length ∧ S.length ≤ 6 := by
    have e := ent_of n1 n6 hS
    have u := e.used
    refine ⟨?_, ?_⟩
    · have : S ≠ [] := by
        intro hz
        have hs := e.sum
        rw [hz] at u hs
        have z : ∀ x ∈ ent n [], x = 0 := by
          intro x hx
          obtain ⟨i, hi, rfl⟩ := List.getElem_of_mem hx
          have hl := e.len
          rw [hz] at hl
          have := List.filter_eq_nil_iff.mp u (i : Int) (mem_iv.mpr (by omega))
          rw [Int.toNat_natCast, List.getD_eq_getElem?_getD, List.getElem?_eq_getElem hi] at this
          simpa using this
        have : (ent n []).sum = 0 := by
          have gen : ∀ l : List Int, (∀ x ∈ l, x = 0) → l.sum = 0 := by
            intro l
            induction l with
            | nil => exact fun _ => rfl
            | cons a l ih =>
              intro h
              rw [List.sum_cons, h a List.mem_cons_self, ih fun x hx => h x (List.mem_cons_of_mem _ hx)]; rfl
          exact gen _ z
        omega
      exact List.length_pos_iff.mpr this
    · rw [← u]
      refine Nat.le_trans (List.length_filter_le _ _) ?_
      rw [iv_length]; exact n6
  obtain ⟨xs, st4, e4, lx, d4⟩ := spoilt_spec d3 n1 n6 hSl.1 hSl.2
  have h3 : sAsg 3 (fFrz (fCall [.io, .shr, .bor] true fn_l_spoilt (aSl 1 (aSl 2 (aEx (fTwo true (fCall [.io, .bor, .bor] true fn_l_sets (aSl 1 (aSl 2 (aEx (fC (.int 1)) aNil)))) (fC (.int 0)) kIx) aNil))))) [some ⟨.bor, .scr ns⟩, some ⟨.own, st2⟩, some (isv n), none, none, none, none, none, none, none] = .next [some ⟨.bor, .scr ns⟩, some ⟨.own, st4⟩, some (isv n), some ⟨.shr, dI xs⟩, none, none, none, none, none, none] := by
    have c1 : fCall [.io, .bor, .bor] true fn_l_sets (aSl 1 (aSl 2 (aEx (fC (.int 1)) aNil))) [some ⟨.bor, .scr ns⟩, some ⟨.own, st2⟩, some (isv n), none, none, none, none, none, none, none] = .ok ⟨.own, .lst [dI S]⟩ [some ⟨.bor, .scr ns⟩, some ⟨.own, st3⟩, some (isv n), none, none, none, none, none, none, none] := e_cl (ds := [st2, .int n, .int 1]) (e_aSl rfl (e_aSl rfl (e_aEx (s := isv 1) rfl rfl rfl))) rfl rfl e3 rfl rfl
    have c2 : fTwo true (fCall [.io, .bor, .bor] true fn_l_sets (aSl 1 (aSl 2 (aEx (fC (.int 1)) aNil)))) (fC (.int 0)) kIx [some ⟨.bor, .scr ns⟩, some ⟨.own, st2⟩, some (isv n), none, none, none, none, none, none, none] = .ok ⟨.shr, dI S⟩ [some ⟨.bor, .scr ns⟩, some ⟨.own, st3⟩, some (isv n), none, none, none, none, none, none, none] := e_two (t := isv 0) c1 rfl rfl rfl
    exact e_as (e_frz_own (e_cl (s := ⟨.own, dI xs⟩) (ds := [st3, .int n, dI S]) (as := [.sl 1, .sl 2, .ex ⟨.shr, dI S⟩]) (e_aSl rfl (e_aSl rfl (e_aEx c2 rfl rfl))) rfl rfl e4 rfl rfl)) rfl rfl rfl
  obtain ⟨spot, st5, e5, pa, pb, d5⟩ := draw_spec d4 (lim := (n : Int)) (by omega) (by omega)
  obtain ⟨r6, st6, e6, fa, fb, d6⟩ := draw_spec d5 (lim := 1961) (by omega) (by omega)
  have h4 : sAsg 4 (fFrz (fCall [.io, .bor] false fn_l_draw (aSl 1 (aSl 2 aNil)))) [some ⟨.bor, .scr ns⟩, some ⟨.own, st4⟩, some (isv n), some ⟨.shr, dI xs⟩, none, none, none, none, none, none] = .next [some ⟨.bor, .scr ns⟩, some ⟨.own, st5⟩, some (isv n), some ⟨.shr, dI xs⟩, some (isv spot), none, none, none, none, none] :=
    e_as (e_frz_shr (e_cl (ds := [st4, .int n]) (e_aSl rfl (e_aSl rfl rfl)) rfl rfl e5 rfl rfl)) rfl rfl rfl
  have h5 : sAsg 5 (fFrz (fTwo true (fCall [.io, .bor] false fn_l_draw (aSl 1 (aEx (fC (.int 1961)) aNil))) (fC (.int 1000)) (kS (gI fun i j => i - j)))) [some ⟨.bor, .scr ns⟩, some ⟨.own, st5⟩, some (isv n), some ⟨.shr, dI xs⟩, some (isv spot), none, none, none, none, none] = .next [some ⟨.bor, .scr ns⟩, some ⟨.own, st6⟩, some (isv n), some ⟨.shr, dI xs⟩, some (isv spot), some (isv (r6 - 1000)), none, none, none, none] := by
    have c : fCall [.io, .bor] false fn_l_draw (aSl 1 (aEx (fC (.int 1961)) aNil)) [some ⟨.bor, .scr ns⟩, some ⟨.own, st5⟩, some (isv n), some ⟨.shr, dI xs⟩, some (isv spot), none, none, none, none, none] = .ok (isv r6) [some ⟨.bor, .scr ns⟩, some ⟨.own, st6⟩, some (isv n), some ⟨.shr, dI xs⟩, some (isv spot), none, none, none, none, none] := e_cl (ds := [st5, .int 1961]) (e_aSl rfl (e_aEx (s := isv 1961) rfl rfl rfl)) rfl rfl e6 rfl rfl
    exact e_as (e_frz_shr (e_two c rfl rfl rfl)) rfl rfl rfl
  generalize hfar : r6 - 1000 = far at h5
  have f1 : -10000 ≤ far := by omega
  have f2 : far ≤ 10000 := by omega
  have h6 : sAsg 6 (fFrz (fCall [.shr, .shr, .shr] true fn_Cast_single (aSl 2 (aSl 4 (aEx (fC (.int 1)) aNil))))) [some ⟨.bor, .scr ns⟩, some ⟨.own, st6⟩, some (isv n), some ⟨.shr, dI xs⟩, some (isv spot), some (isv far), none, none, none, none] = .next (lE ns st6 n xs spot far (vCast (ent n [spot])) none none none) :=
    e_as (e_frz_own (e_cl (s := ⟨.own, vCast (ent n [spot])⟩) (ds := [.int n, .int spot, .int 1]) (e_aSl rfl (e_aSl rfl (e_aEx (s := isv 1) rfl rfl rfl))) rfl rfl (single_eq n1 n6 pa pb) rfl rfl)) rfl rfl rfl
  have E := ent_of n1 n6 (sgl_ent n (in6 n1 n6) spot (mem_iv.mpr (by omega))).2
  have oe : fn_l_one_cast [.int n, dI [spot]] = .ret (dI (ent n [spot])) [] := by
    rw [one_cast_eq n1 n6 (fun x hx => by rw [List.mem_singleton.mp hx]; exact ⟨pa, pb⟩), E.oc]
  have h7 : sIf (fNot (fTru (fCall [.bor, .bor] true fn_l_is_list (aEx (fProp "Cast" "heights" true fn_Cast_heights (rSl 6)) (aEx (fCall [.bor, .bor] true fn_l_one_cast (aSl 2 (aEx (fLst (aEx (fVar 4) aNil)) aNil))) aNil))))) (sRet (fC (.bl false))) sNil (lE ns st6 n xs spot far (vCast (ent n [spot])) none none none) = .next (lE ns st6 n xs spot far (vCast (ent n [spot])) none none none) := by
    have c : fProp "Cast" "heights" true fn_Cast_heights (rSl 6) (lE ns st6 n xs spot far (vCast (ent n [spot])) none none none) = .ok ⟨.own, dI (ent n [spot])⟩ (lE ns st6 n xs spot far (vCast (ent n [spot])) none none none) := e_pr (d := vCast (ent n [spot])) (r := dI (ent n [spot])) (a := .sl 6) rfl rfl rfl rfl heights_eq rfl
    have x0 : fLst (aEx (fVar 4) aNil) (lE ns st6 n xs spot far (vCast (ent n [spot])) none none none) = .ok ⟨.own, dI [spot]⟩ (lE ns st6 n xs spot far (vCast (ent n [spot])) none none none) := rfl
    have c2 : fCall [.bor, .bor] true fn_l_one_cast (aSl 2 (aEx (fLst (aEx (fVar 4) aNil)) aNil)) (lE ns st6 n xs spot far (vCast (ent n [spot])) none none none) = .ok ⟨.own, dI (ent n [spot])⟩ (lE ns st6 n xs spot far (vCast (ent n [spot])) none none none) := e_cl (ds := [.int n, dI [spot]]) (e_aSl rfl (e_aEx x0 rfl rfl)) rfl rfl oe rfl rfl
    have c3 : fCall [.bor, .bor] true fn_l_is_list (aEx (fProp "Cast" "heights" true fn_Cast_heights (rSl 6)) (aEx (fCall [.bor, .bor] true fn_l_one_cast (aSl 2 (aEx (fLst (aEx (fVar 4) aNil)) aNil))) aNil)) (lE ns st6 n xs spot far (vCast (ent n [spot])) none none none) = .ok ⟨.shr, .bl true⟩ (lE ns st6 n xs spot far (vCast (ent n [spot])) none none none) := e_cl (as := [.ex ⟨.own, dI (ent n [spot])⟩, .ex ⟨.own, dI (ent n [spot])⟩]) (ds := [dI (ent n [spot]), dI (ent n [spot])]) (e_aEx c rfl (e_aEx c2 rfl rfl)) rfl rfl (is_list_eq (by rw [E.len]; omega)) rfl rfl
    exact e_if_f (t_not (t_tru c3))
  have h8 : sIf (fNot (fTru (fCall [.bor, .bor, .bor, .shr] true fn_l_counts (aSl 6 (aSl 2 (aEx (fLst (aEx (fVar 4) aNil)) (aSl 5 aNil))))))) (sRet (fC (.bl false))) sNil (lE ns st6 n xs spot far (vCast (ent n [spot])) none none none) = .next (lE ns st6 n xs spot far (vCast (ent n [spot])) none none none) := by
    have x0 : fLst (aEx (fVar 4) aNil) (lE ns st6 n xs spot far (vCast (ent n [spot])) none none none) = .ok ⟨.own, dI [spot]⟩ (lE ns st6 n xs spot far (vCast (ent n [spot])) none none none) := rfl
    have c : fCall [.bor, .bor, .bor, .shr] true fn_l_counts (aSl 6 (aSl 2 (aEx (fLst (aEx (fVar 4) aNil)) (aSl 5 aNil)))) (lE ns st6 n xs spot far (vCast (ent n [spot])) none none none) = .ok ⟨.shr, .bl true⟩ (lE ns st6 n xs spot far (vCast (ent n [spot])) none none none) :=
      e_cl (ds := [vCast (ent n [spot]), .int n, dI [spot], .int far]) (e_aSl rfl (e_aSl rfl (e_aEx x0 rfl (e_aSl rfl rfl)))) rfl rfl (counts_eq n1 n6 E f1 f2) rfl rfl
    exact e_if_f (t_not (t_tru c))
  have h9 : ∃ m st', sIf (fTst (fTwo true (fCall [.io, .bor] false fn_l_draw (aSl 1 (aEx (fC (.int 8)) aNil))) (fC (.int 7)) (kS gEq))) (sAsg 2 (fTwo false (fLst (aEx (fC (.int 0)) (aEx (fC (.int 7)) (aEx (fOne (fC (.int 1)) (kS1 gNeg)) (aEx (fC (.int 8)) (aEx (fOne (fC (.int 1000)) (kS1 gNeg)) (aEx (fC (.int 1000)) aNil))))))) (fCall [.io, .bor] false fn_l_draw (aSl 1 (aEx (fC (.int 6)) aNil))) kIx)) sNil (lE ns st6 n xs spot far (vCast (ent n [spot])) none none none) = .next (lE ns st' m xs spot far (vCast (ent n [spot])) none none none) := by
    obtain ⟨r7, st7, e7, a7, b7, d7⟩ := draw_spec d6 (lim := 8) (by omega) (by omega)
    have c : fCall [.io, .bor] false fn_l_draw (aSl 1 (aEx (fC (.int 8)) aNil)) (lE ns st6 n xs spot far (vCast (ent n [spot])) none none none) = .ok (isv r7) (lE ns st7 n xs spot far (vCast (ent n [spot])) none none none) := e_cl (ds := [st6, .int 8]) (e_aSl rfl (e_aEx (s := isv 8) rfl rfl rfl)) rfl rfl e7 rfl rfl
    have t := t_eqI (qb := true) (fb := fC (.int 7)) (y := 7) (m' := .shr) c rfl rfl
    by_cases q : r7 = 7
    · obtain ⟨r8, st8, e8, a8, b8, d8⟩ := draw_spec d7 (lim := 6) (by omega) (by omega)
      rw [decide_eq_true q] at t
      obtain ⟨v, hv⟩ : ∃ v : Int, atI ([0, 7, -1, 8, -1000, 1000].map Vl.int) r8 = some (.int v) := by
        have : r8 = 0 ∨ r8 = 1 ∨ r8 = 2 ∨ r8 = 3 ∨ r8 = 4 ∨ r8 = 5 := by omega
        rcases this with rfl | rfl | rfl | rfl | rfl | rfl <;> exact ⟨_, rfl⟩
      have c8 : fCall [.io, .bor] false fn_l_draw (aSl 1 (aEx (fC (.int 6)) aNil)) (lE ns st7 n xs spot far (vCast (ent n [spot])) none none none) = .ok (isv r8) (lE ns st8 n xs spot far (vCast (ent n [spot])) none none none) := e_cl (ds := [st7, .int 6]) (e_aSl rfl (e_aEx (s := isv 6) rfl rfl rfl)) rfl rfl e8 rfl rfl
      exact ⟨v, st8, (e_if_t t).trans (e_as (e_ixI (hs := [0, 7, -1, 8, -1000, 1000]) (m := .own) (m' := .shr) rfl rfl c8 hv) rfl rfl rfl)⟩
    · rw [decide_eq_false q] at t
      exact ⟨n, st7, e_if_f t⟩
  obtain ⟨m, st7, h9⟩ := h9
  obtain ⟨w, b, D⟩ := due_of (m := m) (xs := xs) (by omega) f1 f2
  generalize vCast (ent n [spot]) = cv at *
  have h10 : sAsg 7 (fFrz (fCall [.shr, .bor] true fn_l_reason (aSl 2 (aSl 3 aNil)))) (lE ns st7 m xs spot far cv none none none) = .next (lE ns st7 m xs spot far cv (some ⟨.shr, w⟩) none none) :=
    e_as (e_frz_own (e_cl (s := ⟨.own, w⟩) (ds := [.int m, dI xs]) (e_aSl rfl (e_aSl rfl rfl)) rfl rfl D.rea D.own rfl)) rfl rfl rfl
  have h11 : ∃ p8 p9, sFor (iSrc (fLst (aEx (fC (.bl false)) (aEx (fC (.bl true)) aNil))) kItL) (gNm 8) lB (lE ns st7 m xs spot far cv (some ⟨.shr, w⟩) none none) = .next (lE ns st7 m xs spot far cv (some ⟨.shr, w⟩) p8 p9) := by
    have bd : ∀ (x : Bool) (p9 : Option Sv), NIo p9 → lB (lE ns st7 m xs spot far cv (some ⟨.shr, w⟩) (some ⟨.shr, .bl x⟩) p9) = .next (lE ns st7 m xs spot far cv (some ⟨.shr, w⟩) (some ⟨.shr, .bl x⟩) (some ⟨.shr, dI xs⟩)) := fun x p9 k9 => by
      have s1 : sAsg 9 (fFrz (fOne (fVar 3) kListOf)) (lE ns st7 m xs spot far cv (some ⟨.shr, w⟩) (some ⟨.shr, .bl x⟩) p9) = .next (lE ns st7 m xs spot far cv (some ⟨.shr, w⟩) (some ⟨.shr, .bl x⟩) (some ⟨.shr, dI xs⟩)) := e_as (e_frz_own (e_listI (hs := xs) (m := .shr) rfl)) (noIo_of k9 rfl) rfl rfl
      have c : fCall [.shr, .bor, .bor] true fn_l_outcome (aSl 2 (aSl 9 (aSl 8 aNil))) (lE ns st7 m xs spot far cv (some ⟨.shr, w⟩) (some ⟨.shr, .bl x⟩) (some ⟨.shr, dI xs⟩)) = .ok ⟨.own, w⟩ (lE ns st7 m xs spot far cv (some ⟨.shr, w⟩) (some ⟨.shr, .bl x⟩) (some ⟨.shr, dI xs⟩)) := e_cl (ds := [.int m, dI xs, .bl x]) (e_aSl rfl (e_aSl rfl (e_aSl rfl rfl))) rfl rfl (D.out x) D.own rfl
      have t1 : fTst (fTwo true (fCall [.shr, .bor, .bor] true fn_l_outcome (aSl 2 (aSl 9 (aSl 8 aNil)))) (fVar 7) (kS gNe)) (lE ns st7 m xs spot far cv (some ⟨.shr, w⟩) (some ⟨.shr, .bl x⟩) (some ⟨.shr, dI xs⟩)) = .ok false (lE ns st7 m xs spot far cv (some ⟨.shr, w⟩) (some ⟨.shr, .bl x⟩) (some ⟨.shr, dI xs⟩)) :=
        t_tst (m := .shr) (e_two (t := ⟨.shr, w⟩) c rfl rfl (by
          show (match gNe w w with | some d => if isSc d then Rs.ok (Sv.mk .shr d) _ else .bad | none => .bad) = _
          rw [D.ne]; rfl))
      have t2 := t_neL (qb := true) (fa := fVar 9) (fb := fVar 3) (ρ := lE ns st7 m xs spot far cv (some ⟨.shr, w⟩) (some ⟨.shr, .bl x⟩) (some ⟨.shr, dI xs⟩)) (x := xs) (y := xs) (m := .shr) (m' := .shr) rfl rfl rfl
      rw [decide_eq_true rfl] at t2
      exact (e_seq s1).trans (e_if_f (t_or_f t1 t2))
    refine ⟨some ⟨.shr, .bl true⟩, some ⟨.shr, dI xs⟩, e_for (its := [⟨.shr, .bl false⟩, ⟨.shr, .bl true⟩]) rfl ?_⟩
    have b1 := bd false none .non
    have b2 := bd true (some ⟨.shr, dI xs⟩) .some
    show (match lB (lE ns st7 m xs spot far cv (some ⟨.shr, w⟩) (some ⟨.shr, .bl false⟩) none) with
      | .next ρ2 => loopL (gNm 8) lB [⟨.shr, .bl true⟩] ρ2
      | .cont ρ2 => loopL (gNm 8) lB [⟨.shr, .bl true⟩] ρ2
      | .brk ρ2 => .next ρ2
      | r => r) = _
    rw [b1]
    show (match lB (lE ns st7 m xs spot far cv (some ⟨.shr, w⟩) (some ⟨.shr, .bl true⟩) (some ⟨.shr, dI xs⟩)) with
      | .next ρ2 => loopL (gNm 8) lB [] ρ2
      | .cont ρ2 => loopL (gNm 8) lB [] ρ2
      | .brk ρ2 => .next ρ2
      | r => r) = _
    rw [b2]; rfl
  obtain ⟨p8, p9, h11⟩ := h11
  have t12 : fTst (fTwo true (fVar 7) (fLst aNil) (kS gEq)) (lE ns st7 m xs spot far cv (some ⟨.shr, w⟩) p8 p9) = .ok b (lE ns st7 m xs spot far cv (some ⟨.shr, w⟩) p8 p9) :=
    t_tst (m := .shr) (e_two (s := ⟨.shr, w⟩) (t := ⟨.own, .lst []⟩) rfl rfl rfl (by
      show (match gEq w (.lst []) with | some d => if isSc d then Rs.ok (Sv.mk .shr d) _ else .bad | none => .bad) = _
      rw [D.eq]; rfl))
  have h12 : (sSeq (sIf (fTst (fTwo true (fVar 7) (fLst aNil) (kS gEq))) (sRet (fCall [.shr, .bor, .shr] true fn_l_good (aSl 2 (aSl 3 (aSl 5 aNil))))) sNil)
    (sRet (fAndV (fCall [.shr, .bor] true fn_l_base (aSl 2 (aEx (fOne (fVar 3) kListOf) aNil))) (fCall [.shr, .bor, .shr] true fn_l_good (aEx (fC (.int 4)) (aEx (fLst (aEx (fC (.int 1)) (aEx (fC (.int 3)) aNil))) (aSl 5 aNil))))))) (lE ns st7 m xs spot far cv (some ⟨.shr, w⟩) p8 p9) = .ret ⟨.shr, .bl true⟩ (lE ns st7 m xs spot far cv (some ⟨.shr, w⟩) p8 p9) := by
    cases b with
    | true => exact e_seqR ((e_if_t t12).trans (e_ret (e_cl (ds := [.int m, dI xs, .int far]) (e_aSl rfl (e_aSl rfl (e_aSl rfl rfl))) rfl rfl (D.good rfl) rfl rfl)))
    | false =>
      have x0 : fOne (fVar 3) kListOf (lE ns st7 m xs spot far cv (some ⟨.shr, w⟩) p8 p9) = .ok ⟨.own, dI xs⟩ (lE ns st7 m xs spot far cv (some ⟨.shr, w⟩) p8 p9) := e_listI (hs := xs) (m := .shr) rfl
      have c1 : fCall [.shr, .bor] true fn_l_base (aSl 2 (aEx (fOne (fVar 3) kListOf) aNil)) (lE ns st7 m xs spot far cv (some ⟨.shr, w⟩) p8 p9) = .ok ⟨.shr, .bl true⟩ (lE ns st7 m xs spot far cv (some ⟨.shr, w⟩) p8 p9) := e_cl (ds := [.int m, dI xs]) (e_aSl rfl (e_aEx x0 rfl rfl)) rfl rfl (D.base rfl) rfl rfl
      have g := good_eq (n := 4) (S := [1, 3]) (by omega) (by omega) (by simp) (by simp) (fun i hi => by
        have : i = 0 ∨ i = 1 := by simp at hi; omega
        rcases this with rfl | rfl <;> unfold bad <;> decide) f1 f2
      have x1 : fLst (aEx (fC (.int 1)) (aEx (fC (.int 3)) aNil)) (lE ns st7 m xs spot far cv (some ⟨.shr, w⟩) p8 p9) = .ok ⟨.own, dI [1, 3]⟩ (lE ns st7 m xs spot far cv (some ⟨.shr, w⟩) p8 p9) := rfl
      have c2 : fCall [.shr, .bor, .shr] true fn_l_good (aEx (fC (.int 4)) (aEx (fLst (aEx (fC (.int 1)) (aEx (fC (.int 3)) aNil))) (aSl 5 aNil))) (lE ns st7 m xs spot far cv (some ⟨.shr, w⟩) p8 p9) = .ok ⟨.shr, .bl true⟩ (lE ns st7 m xs spot far cv (some ⟨.shr, w⟩) p8 p9) := e_cl (as := [.ex (isv 4), .ex ⟨.own, dI [1, 3]⟩, .sl 5]) (ds := [.int ((4 : Nat) : Int), dI [1, 3], .int far]) (e_aEx (s := isv 4) rfl rfl (e_aEx x1 rfl (e_aSl rfl rfl))) rfl rfl g rfl rfl
      exact (e_seq (e_if_f t12)).trans (e_ret (e_andT c1 c2))
  have hb : s_law [some ⟨.bor, .scr ns⟩, none, none, none, none, none, none, none, none, none] = .ret ⟨.shr, .bl true⟩ (lE ns st7 m xs spot far cv (some ⟨.shr, w⟩) p8 p9) :=
    (e_seq h1).trans ((e_seq h2).trans ((e_seq h3).trans ((e_seq h4).trans ((e_seq h5).trans ((e_seq h6).trans ((e_seq h7).trans ((e_seq h8).trans ((e_seq h9).trans ((e_seq h10).trans ((e_seq h11).trans h12))))))))))
  exact e_run (pm := [.bor]) (rm := true) (n := 10) (ds := [.scr ns]) (outs := []) hb rfl rfl
end MV

theorem PySem.Challenge.cw_datelessrolls_k03_one_entry_holds : PySem.Challenge.rw_datelessrolls_k03_one_entry.Holds := by
  exact law_holds_of MV.main_k03
