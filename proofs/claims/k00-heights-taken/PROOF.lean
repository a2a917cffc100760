import PyProof.Rows.All
import Wide.All
import OpenK.AllK
import Wide.FinOn
import KE.KStateDown
import HandS.ForMost
import HandS.ForExc
import HandS.Defaults
import HandS.Property
import HandS.HeadHook1
import HandS.HeadHook2
import KE.KTupSum
import HandS.ExcCtx
import HandS.Style
import HandS.IsInst
import HandS.Text
import HandS.Iter
import HandS.Zip
import HandS.CallSlots
import HandS.HotCalls
import HandS.TryMany
import HandS.ExcInit
import HandS.ExcField
import HandS.ExcIs
import HandS.Head0
import HandS.Head1
import HandS.Head2
import HandS.HeadEnd
import HandS.ClsMeth
import HandS.SortInts
import HandS.Ends
import HandS.SlotsOwn
import KE.KOpsOwn
import HandS.Conv
import HandS.NoneIn
import HandS.OwnIter
import HandS.IterVal
import PyProof.Rows.StrRev
import PySem.Challenge.RW_datelessrolls_k00_heights_taken
set_option Elab.async false
set_option linter.all false
set_option maxRecDepth 100000
set_option maxHeartbeats 0
namespace MV
open PySem PySem.Spec PyProof.Rows L2
inductive Vl where
  | non | bl (b : Bool) | int (i : Int) | str (s : Str)
  | lst (xs : List Vl) | tup (xs : List Vl)
  | ins (c : Str) (fs : List (Str × Vl))
  | scr (ns : List Int)
inductive Md where
  | own | io | tmp | bor | shr
  deriving DecidableEq
structure Sv where
  m : Md
  d : Vl
abbrev En := List (Option Sv)
def isSc : Vl → Bool
  | .non => true
  | .bl _ => true
  | .int _ => true
  | .str _ => true
  | _ => false
def mk (m : Md) (d : Vl) : Sv := if isSc d then ⟨.shr, d⟩ else ⟨m, d⟩
def Md.kid : Md → Md
  | .bor => .bor
  | _ => .shr
mutual
def Rep (K : PySem.W.Frag) (G : Hp) : Vl → V → Prop
  | .non, v => v = .non
  | .bl b, v => v = .bl b
  | .int i, v => v = .int i
  | .str s, v => v = .str s
  | .lst xs, v => ∃ a vs, v = .ref a ∧ G a = some (.lst vs) ∧ RepL K G xs vs
  | .tup xs, v => ∃ a vs, v = .ref a ∧ G a = some (.tup vs) ∧ RepL K G xs vs
  | .ins c fs, v => ∃ a dx ws, v = .ref a ∧ G a = some (.ins (He.ga K c) dx ws) ∧ RepF K G fs ws
  | .scr ns, v => ∃ a, v = .ref a ∧ SqL K G a (ns.map V.int)
def RepL (K : PySem.W.Frag) (G : Hp) : List Vl → List V → Prop
  | [], vs => vs = []
  | x :: xs, vs => ∃ v r, vs = v :: r ∧ Rep K G x v ∧ RepL K G xs r
def RepF (K : PySem.W.Frag) (G : Hp) : List (Str × Vl) → List (Str × V) → Prop
  | [], ws => ws = []
  | (f, x) :: xs, ws => ∃ v r, ws = (f, v) :: r ∧ Rep K G x v ∧ RepF K G xs r
end
abbrev Sub (G G' : Hp) : Prop := ∀ b o, G b = some o → G' b = some o
mutual
theorem Rep.mono {K : PySem.W.Frag} {G G' : Hp} (s : Sub G G') : ∀ {d : Vl} {v : V}, Rep K G d v → Rep K G' d v
  | .non, _, h => h
  | .bl _, _, h => h
  | .int _, _, h => h
  | .str _, _, h => h
  | .lst xs, v, ⟨a, vs, e, g, r⟩ => ⟨a, vs, e, s _ _ g, RepL.mono s r⟩
  | .tup xs, v, ⟨a, vs, e, g, r⟩ => ⟨a, vs, e, s _ _ g, RepL.mono s r⟩
  | .ins c fs, v, ⟨a, dx, ws, e, g, r⟩ => ⟨a, dx, ws, e, s _ _ g, RepF.mono s r⟩
  | .scr ns, v, ⟨a, e, g⟩ => ⟨a, e, g.elim (fun h => .inl (h.elim (fun h => .inl (s _ _ h)) fun ⟨o, h⟩ => .inr ⟨o, s _ _ h⟩)) .inr⟩
theorem RepL.mono {K : PySem.W.Frag} {G G' : Hp} (s : Sub G G') : ∀ {xs : List Vl} {vs : List V}, RepL K G xs vs → RepL K G' xs vs
  | [], _, h => h
  | x :: xs, _, ⟨v, r, e, h, t⟩ => ⟨v, r, e, Rep.mono s h, RepL.mono s t⟩
theorem RepF.mono {K : PySem.W.Frag} {G G' : Hp} (s : Sub G G') : ∀ {xs : List (Str × Vl)} {vs : List (Str × V)}, RepF K G xs vs → RepF K G' xs vs
  | [], _, h => h
  | (f, x) :: xs, _, ⟨v, r, e, h, t⟩ => ⟨v, r, e, Rep.mono s h, RepF.mono s t⟩
end
section
variable {K : PySem.W.Frag} {G G' : Hp}
theorem Rep.sc {d : Vl} {v : V} (h : Rep K G d v) (s : isSc d = true) : Rep K G' d v := by
  cases d <;> first | exact h | cases s
theorem RepL.len : ∀ {xs : List Vl} {vs : List V}, RepL K G xs vs → vs.length = xs.length
  | [], _, h => by rw [show _ = [] from h]; rfl
  | x :: xs, _, ⟨v, r, e, _, t⟩ => by rw [e, List.length_cons, List.length_cons, RepL.len t]
theorem RepL.get : ∀ {xs : List Vl} {vs : List V} {i : Nat} {x : Vl}, RepL K G xs vs → xs[i]? = some x → ∃ v, vs[i]? = some v ∧ Rep K G x v
  | [], _, _, _, _, e => by simp at e
  | y :: xs, _, 0, x, ⟨v, r, e, h, t⟩, q => by
    simp at q; subst q
    exact ⟨v, by rw [e]; rfl, h⟩
  | y :: xs, _, i + 1, x, ⟨v, r, e, h, t⟩, q => by
    obtain ⟨u, h1, h2⟩ := RepL.get (i := i) t (by simpa using q)
    exact ⟨u, by rw [e]; simpa using h1, h2⟩
theorem RepL.nil : RepL K G [] [] := rfl
theorem RepL.cons {x : Vl} {v : V} {xs : List Vl} {vs : List V} (h : Rep K G x v) (t : RepL K G xs vs) : RepL K G (x :: xs) (v :: vs) := ⟨v, vs, rfl, h, t⟩
theorem RepL.app : ∀ {xs ys : List Vl} {vs ws : List V}, RepL K G xs vs → RepL K G ys ws → RepL K G (xs ++ ys) (vs ++ ws)
  | [], _, _, _, h, k => by rw [show _ = [] from h]; exact k
  | x :: xs, _, _, _, ⟨v, r, e, h, t⟩, k => by rw [e]; exact ⟨v, r ++ _, rfl, h, RepL.app t k⟩
theorem RepL.take : ∀ (n : Nat) {xs : List Vl} {vs : List V}, RepL K G xs vs → RepL K G (xs.take n) (vs.take n)
  | 0, _, _, _ => rfl
  | n + 1, [], _, h => by rw [show _ = [] from h]; rfl
  | n + 1, x :: xs, _, ⟨v, r, e, h, t⟩ => by rw [e]; exact ⟨v, r.take n, rfl, h, RepL.take n t⟩
theorem RepL.drop : ∀ (n : Nat) {xs : List Vl} {vs : List V}, RepL K G xs vs → RepL K G (xs.drop n) (vs.drop n)
  | 0, _, _, h => h
  | n + 1, [], _, h => by rw [show _ = [] from h]; rfl
  | n + 1, x :: xs, _, ⟨v, r, e, h, t⟩ => by rw [e]; exact RepL.drop n t
theorem RepL.set {x : Vl} {v : V} (hx : Rep K G x v) : ∀ (i : Nat) {xs : List Vl} {vs : List V}, RepL K G xs vs → RepL K G (xs.set i x) (vs.set i v)
  | _, [], _, h => by rw [show _ = [] from h]; rfl
  | 0, y :: xs, _, ⟨u, r, e, h, t⟩ => by rw [e]; exact ⟨v, r, rfl, hx, t⟩
  | i + 1, y :: xs, _, ⟨u, r, e, h, t⟩ => by rw [e]; exact ⟨u, r.set i v, rfl, h, RepL.set hx i t⟩
theorem RepL.eraseIdx : ∀ (i : Nat) {xs : List Vl} {vs : List V}, RepL K G xs vs → RepL K G (xs.eraseIdx i) (vs.eraseIdx i)
  | _, [], _, h => by rw [show _ = [] from h]; rfl
  | 0, y :: xs, _, ⟨u, r, e, h, t⟩ => by rw [e]; exact t
  | i + 1, y :: xs, _, ⟨u, r, e, h, t⟩ => by rw [e]; exact ⟨u, r.eraseIdx i, rfl, h, RepL.eraseIdx i t⟩
theorem RepL.rep {xs : List Vl} {vs : List V} (h : RepL K G xs vs) : ∀ k : Nat, RepL K G (List.replicate k xs).flatten (List.replicate k vs).flatten
  | 0 => rfl
  | k + 1 => by rw [List.replicate_succ, List.replicate_succ, List.flatten_cons, List.flatten_cons]; exact h.app (RepL.rep h k)
theorem RepL.scs : ∀ {xs : List Vl} {vs : List V}, RepL K G xs vs → xs.all isSc = true → RepL K G' xs vs
  | [], _, h, _ => h
  | x :: xs, _, ⟨v, r, e, h, t⟩, q => by
    rw [List.all_cons, Bool.and_eq_true] at q
    exact ⟨v, r, e, h.sc q.1, RepL.scs t q.2⟩
theorem RepF.look {f : Str} {x : Vl} : ∀ {xs : List (Str × Vl)} {ws : List (Str × V)}, RepF K G xs ws → xs.lookup f = some x → ∃ v, ws.lookup f = some v ∧ Rep K G x v
  | [], _, _, q => by simp at q
  | (g, y) :: xs, _, ⟨v, r, e, h, t⟩, q => by
    rw [e]
    rw [List.lookup_cons] at q ⊢
    cases c : f == g with
    | true => rw [c] at q; exact ⟨v, rfl, by rw [← Option.some.inj q]; exact h⟩
    | false => rw [c] at q; exact RepF.look t q
theorem RepF.lookN {f : Str} : ∀ {xs : List (Str × Vl)} {ws : List (Str × V)}, RepF K G xs ws → xs.lookup f = none → ws.lookup f = none
  | [], _, h, _ => by rw [show _ = [] from h]; rfl
  | (g, y) :: xs, _, ⟨v, r, e, h, t⟩, q => by
    rw [e]
    rw [List.lookup_cons] at q ⊢
    cases c : f == g with
    | true => rw [c] at q; cases q
    | false => rw [c] at q; exact RepF.lookN t q
theorem RepF.len : ∀ {xs : List (Str × Vl)} {vs : List (Str × V)}, RepF K G xs vs → vs.length = xs.length
  | [], _, h => by rw [show _ = [] from h]; rfl
  | (f, x) :: xs, _, ⟨v, r, e, _, t⟩ => by rw [e, List.length_cons, List.length_cons, RepF.len t]
def putFV (f : Str) (v : Vl) : List (Str × Vl) → List (Str × Vl)
  | [] => [(f, v)]
  | (g, w) :: r => if g = f then (g, v) :: r else (g, w) :: putFV f v r
theorem RepF.put {f : Str} {x : Vl} {v : V} (hx : Rep K G x v) : ∀ {xs : List (Str × Vl)} {ws : List (Str × V)}, RepF K G xs ws → RepF K G (putFV f x xs) (putF f v ws)
  | [], _, h => by rw [show _ = [] from h]; exact ⟨v, [], rfl, hx, rfl⟩
  | (g, y) :: xs, _, ⟨u, r, e, h, t⟩ => by
    rw [e]
    show RepF K G (if g = f then (g, x) :: xs else (g, y) :: putFV f x xs) (if g = f then (g, v) :: r else (g, u) :: putF f v r)
    by_cases c : g = f
    · rw [if_pos c, if_pos c]; exact ⟨v, r, rfl, hx, t⟩
    · rw [if_neg c, if_neg c]; exact ⟨u, _, rfl, h, RepF.put hx t⟩
theorem repL_ints : ∀ {ns : List Int} {vs : List V}, RepL K G (ns.map Vl.int) vs → vs = ns.map V.int
  | [], _, h => h
  | n :: ns, _, ⟨v, r, e, h, t⟩ => by
    have h' : v = .int n := h
    rw [e, h', repL_ints t]; rfl
theorem repL_of_ints : ∀ (ns : List Int), RepL K G (ns.map Vl.int) (ns.map V.int)
  | [] => rfl
  | n :: ns => ⟨.int n, _, rfl, rfl, repL_of_ints ns⟩
end
end MV
namespace MV
open PySem PySem.Spec PyProof.Rows L2
abbrev St := L2.St
abbrev Takes (X : Cx) (W : WX) : Prop := L2N.Takes X W
theorem takes_none5 {X : Cx} : Takes X (fun _ _ _ _ => False) := fun _ _ ⟨_, _, _, _, _, _, _, _, _, _, _, _, _, _, _, _, w⟩ => w.elim
theorem passAt {X : Cx} {W : WX} (tk : Takes X W) (σ : St) : PassesAt (L2N.CX X.prog X.w) X σ (WE W σ) := L2N.passAt tk σ
structure Jx where
  K : PySem.W.Frag
  H0 : Hp
  F0 : Hp
  ios : List (Nat × Addr)
  fx : Option (Nat × V)
abbrev Jx.io (J : Jx) : List Addr := J.ios.map (·.2)
theorem lookup_io {l : List (Nat × Addr)} {i : Nat} {a : Addr} (h : l.lookup i = some a) : a ∈ l.map (·.2) := by
  induction l with
  | nil => cases h
  | cons x l ih =>
    rw [List.lookup_cons] at h
    cases c : i == x.1 with
    | true => rw [c] at h; rw [← Option.some.inj h]; exact List.mem_cons_self
    | false => rw [c] at h; exact List.mem_cons_of_mem _ (ih h)
abbrev Ow := Sum Nat Nat
def OwnO (K : PySem.W.Frag) (F : Hp) : Vl → HO → Prop
  | .lst xs, o => ∃ vs, o = .lst vs ∧ RepL K F xs vs
  | .ins c fs, o => ∃ dx ws, o = .ins (He.ga K c) dx ws ∧ RepF K F fs ws
  | _, _ => False
def SR (J : Jx) (F B H : Hp) (O : Addr → Option Ow) (ow : Ow) (s : Sv) (v : V) : Prop := match s.m with
  | .shr => Rep J.K F s.d v
  | .bor => Rep J.K B s.d v
  | .tmp => ∃ a o, v = .ref a ∧ H a = some o ∧ OwnO J.K F s.d o ∧ ∃ i, O a = some (.inl i)
  | .own => ∃ a o, v = .ref a ∧ H a = some o ∧ OwnO J.K F s.d o ∧ O a = some ow ∧ B a = none ∧ J.H0 a = none
  | .io => ∃ a o, v = .ref a ∧ H a = some o ∧ OwnO J.K F s.d o ∧ O a = some ow ∧ B a = none ∧ ∃ i, ow = .inl i ∧ J.ios.lookup i = some a
def TOk (J : Jx) (F B H : Hp) (O : Addr → Option Ow) : List (Sv × V) → Prop
  | [] => True
  | (s, v) :: t => SR J F B H O (.inr t.length) s v ∧ TOk J F B H O t
structure Base (J : Jx) (F B H : Hp) : Prop where
  fb : Sub F B
  bh : Sub B H
  f0 : Sub J.F0 F
  new : ∀ b o, F b = some o → J.F0 b = some o ∨ J.H0 b = none
  keep : ∀ b o, J.H0 b = some o → b ∉ J.io → H b = some o
  iot : ∀ b, b ∈ J.io → ∃ o, H b = some o
def NF (J : Jx) (i : Nat) : Prop := ∀ v, J.fx ≠ some (i, v)
theorem nf_none {J : Jx} {i : Nat} (h : J.fx = none) : NF J i := fun v e => by rw [h] at e; cases e
theorem nf_ne {J : Jx} {i k : Nat} {u : V} (h : J.fx = some (k, u)) (n : (k == i) = false) : NF J i := fun v e => by
  rw [h] at e
  cases e
  simp at n
theorem nfs_ne {J : Jx} {is : List Nat} {k : Nat} {u : V} (h : J.fx = some (k, u)) (n : is.contains k = false) : ∀ i ∈ is, NF J i := fun i hi v e => by
  rw [h] at e
  cases e
  rw [List.contains_iff_mem.mpr hi] at n
  cases n
structure LenOk (J : Jx) (ρ : En) (σ : St) : Prop where
  eq : ρ.length = σ.length
  fx : ∀ i v, J.fx = some (i, v) → σ[i]? = some (some v)
theorem LenOk.of {J : Jx} {ρ ρ' : En} {σ : St} (h : LenOk J ρ σ) (e : ρ'.length = ρ.length) : LenOk J ρ' σ := ⟨e.trans h.eq, h.fx⟩
theorem LenOk.set {J : Jx} {ρ : En} {σ : St} {i : Nat} {x : Option Sv} (h : LenOk J ρ σ) : LenOk J (ρ.set i x) σ := h.of List.length_set
theorem LenOk.set2 {J : Jx} {ρ : En} {σ : St} {i : Nat} {x : Option Sv} {y : Option V} (h : LenOk J ρ σ) (n : NF J i) : LenOk J (ρ.set i x) (σ.set i y) := ⟨by rw [List.length_set, List.length_set]; exact h.eq, fun j v e => by
  by_cases c : i = j
  · subst c; exact absurd e (n v)
  · rw [List.getElem?_set_ne c]; exact h.fx j v e⟩
structure IvW (J : Jx) (F B : Hp) (O : Addr → Option Ow) (ρ : En) (τ : List (Sv × V)) (σ : St) (H : Hp) : Prop where
  base : Base J F B H
  len : LenOk J ρ σ
  slot : ∀ (i : Nat) s, ρ[i]? = some (some s) → s.m ≠ .tmp ∧ ∃ v, σ[i]? = some (some v) ∧ SR J F B H O (.inl i) s v
  temp : TOk J F B H O τ
def Iv (J : Jx) (ρ : En) (τ : List (Sv × V)) (σ : St) (H : Hp) : Prop := ∃ F B O, IvW J F B O ρ τ σ H
def NoTmp (τ : List (Sv × V)) : Prop := ∀ x ∈ τ, x.1.m ≠ .tmp
section
variable {J : Jx} {F B H : Hp} {O : Addr → Option Ow} {ρ : En} {τ : List (Sv × V)} {σ : St} {ow : Ow} {s : Sv} {v : V}
theorem OwnO.mono {K : PySem.W.Frag} {F F' : Hp} (q : Sub F F') {d : Vl} {o : HO} (h : OwnO K F d o) : OwnO K F' d o := by
  cases d with
  | lst xs => obtain ⟨vs, e, r⟩ := h; exact ⟨vs, e, r.mono q⟩
  | ins c fs => obtain ⟨dx, ws, e, r⟩ := h; exact ⟨dx, ws, e, r.mono q⟩
  | _ => exact h.elim
theorem OwnO.rep {K : PySem.W.Frag} {F G : Hp} (q : Sub F G) {d : Vl} {o : HO} {a : Addr} (h : OwnO K F d o) (g : G a = some o) : Rep K G d (.ref a) := by
  cases d with
  | lst xs => obtain ⟨vs, e, r⟩ := h; subst e; exact ⟨a, vs, rfl, g, r.mono q⟩
  | ins c fs => obtain ⟨dx, ws, e, r⟩ := h; subst e; exact ⟨a, dx, ws, rfl, g, r.mono q⟩
  | _ => exact h.elim
theorem SR.rep (b : Base J F B H) (h : SR J F B H O ow s v) : Rep J.K H s.d v := by
  obtain ⟨m, d⟩ := s
  cases m with
  | shr => exact Rep.mono (fun _ _ e => b.bh _ _ (b.fb _ _ e)) h
  | bor => exact Rep.mono b.bh h
  | tmp => obtain ⟨a, o, e, g, r, _⟩ := h; subst e; exact r.rep (fun _ _ e => b.bh _ _ (b.fb _ _ e)) g
  | own => obtain ⟨a, o, e, g, r, _⟩ := h; subst e; exact r.rep (fun _ _ e => b.bh _ _ (b.fb _ _ e)) g
  | io => obtain ⟨a, o, e, g, r, _⟩ := h; subst e; exact r.rep (fun _ _ e => b.bh _ _ (b.fb _ _ e)) g
theorem SR.sc {d : Vl} (h : Rep J.K H d v) (q : isSc d = true) : SR J F B H O ow ⟨.shr, d⟩ v := Rep.sc (G' := F) h q
theorem SR.mk {m : Md} {d : Vl} (h : SR J F B H O ow ⟨m, d⟩ v) (b : Base J F B H) : SR J F B H O ow (mk m d) v := by
  unfold MV.mk
  split
  · rename_i q
    exact SR.sc (h.rep b) q
  · exact h
def reg (F B : Hp) (m : Md) : Hp := match m with
  | .bor => B
  | _ => F
theorem reg_kid {d : Vl} {m : Md} (h : Rep J.K (reg F B m) d v) (H' : Hp) : SR J F B H' O ow ⟨m.kid, d⟩ v := by
  cases m <;> exact h
theorem SR.list {m : Md} {xs : List Vl} (b : Base J F B H) (h : SR J F B H O ow ⟨m, .lst xs⟩ v) : ∃ a vs, v = .ref a ∧ H a = some (.lst vs) ∧ RepL J.K (reg F B m) xs vs := by
  cases m with
  | shr => obtain ⟨a, vs, e, g, r⟩ := h; exact ⟨a, vs, e, b.bh _ _ (b.fb _ _ g), r⟩
  | bor => obtain ⟨a, vs, e, g, r⟩ := h; exact ⟨a, vs, e, b.bh _ _ g, r⟩
  | tmp => obtain ⟨a, o, e, g, ⟨vs, eo, r⟩, _⟩ := h; subst eo; exact ⟨a, vs, e, g, r⟩
  | own => obtain ⟨a, o, e, g, ⟨vs, eo, r⟩, _⟩ := h; subst eo; exact ⟨a, vs, e, g, r⟩
  | io => obtain ⟨a, o, e, g, ⟨vs, eo, r⟩, _⟩ := h; subst eo; exact ⟨a, vs, e, g, r⟩
theorem SR.tup {m : Md} {xs : List Vl} (b : Base J F B H) (h : SR J F B H O ow ⟨m, .tup xs⟩ v) : ∃ a vs, v = .ref a ∧ H a = some (.tup vs) ∧ RepL J.K (reg F B m) xs vs := by
  cases m with
  | shr => obtain ⟨a, vs, e, g, r⟩ := h; exact ⟨a, vs, e, b.bh _ _ (b.fb _ _ g), r⟩
  | bor => obtain ⟨a, vs, e, g, r⟩ := h; exact ⟨a, vs, e, b.bh _ _ g, r⟩
  | tmp => obtain ⟨a, o, e, g, r, _⟩ := h; exact r.elim
  | own => obtain ⟨a, o, e, g, r, _⟩ := h; exact r.elim
  | io => obtain ⟨a, o, e, g, r, _⟩ := h; exact r.elim
theorem SR.ins {m : Md} {c : Str} {fs : List (Str × Vl)} (b : Base J F B H) (h : SR J F B H O ow ⟨m, .ins c fs⟩ v) : ∃ a dx ws, v = .ref a ∧ H a = some (.ins (He.ga J.K c) dx ws) ∧ RepF J.K (reg F B m) fs ws := by
  cases m with
  | shr => obtain ⟨a, dx, ws, e, g, r⟩ := h; exact ⟨a, dx, ws, e, b.bh _ _ (b.fb _ _ g), r⟩
  | bor => obtain ⟨a, dx, ws, e, g, r⟩ := h; exact ⟨a, dx, ws, e, b.bh _ _ g, r⟩
  | tmp => obtain ⟨a, o, e, g, ⟨dx, ws, eo, r⟩, _⟩ := h; subst eo; exact ⟨a, dx, ws, e, g, r⟩
  | own => obtain ⟨a, o, e, g, ⟨dx, ws, eo, r⟩, _⟩ := h; subst eo; exact ⟨a, dx, ws, e, g, r⟩
  | io => obtain ⟨a, o, e, g, ⟨dx, ws, eo, r⟩, _⟩ := h; subst eo; exact ⟨a, dx, ws, e, g, r⟩
theorem SR.int {m : Md} {i : Int} (b : Base J F B H) (h : SR J F B H O ow ⟨m, .int i⟩ v) : v = .int i := h.rep b
theorem TOk.imp {F' B' H' : Hp} {O' : Addr → Option Ow} : ∀ {τ : List (Sv × V)}, TOk J F B H O τ → (∀ s v k, (s, v) ∈ τ → k < τ.length → SR J F B H O (.inr k) s v → SR J F' B' H' O' (.inr k) s v) → TOk J F' B' H' O' τ
  | [], _, _ => trivial
  | (s, v) :: t, ⟨h, r⟩, f => ⟨f s v t.length List.mem_cons_self (Nat.lt_succ_self _) h, TOk.imp r fun s v k m l => f s v k (List.mem_cons_of_mem _ m) (Nat.lt_succ_of_lt l)⟩
theorem IvW.push (I : IvW J F B O ρ τ σ H) (h : SR J F B H O (.inr τ.length) s v) : Iv J ρ ((s, v) :: τ) σ H := ⟨F, B, O, I.base, I.len, I.slot, h, I.temp⟩
theorem IvW.pushSc {d : Vl} (I : IvW J F B O ρ τ σ H) (h : Rep J.K H d v) (q : isSc d = true) : Iv J ρ ((⟨.shr, d⟩, v) :: τ) σ H := I.push (SR.sc h q)
theorem IvW.drop1 {x : Sv × V} (I : IvW J F B O ρ (x :: τ) σ H) : IvW J F B O ρ τ σ H := ⟨I.base, I.len, I.slot, I.temp.2⟩
theorem Iv.drop1 {x : Sv × V} (I : Iv J ρ (x :: τ) σ H) : Iv J ρ τ σ H := let ⟨F, B, O, I⟩ := I; ⟨F, B, O, I.drop1⟩
theorem IvW.top (I : IvW J F B O ρ ((s, v) :: τ) σ H) : SR J F B H O (.inr τ.length) s v := I.temp.1
theorem upd_sub {G : Hp} {p : Addr} {o : HO} (n : G p = none) : Sub G (upd G p o) := fun b u e => by
  rw [upd_ne (ne_of_none e n)]; exact e
theorem Base.freeH0 (b : Base J F B H) {p : Addr} (np : H p = none) : J.H0 p = none := by
  cases e : J.H0 p with
  | none => rfl
  | some u =>
    by_cases q : p ∈ J.io
    · obtain ⟨u, z⟩ := b.iot p q; rw [np] at z; cases z
    · rw [b.keep _ _ e q] at np; cases np
theorem Base.freeB (b : Base J F B H) {p : Addr} (np : H p = none) : B p = none := by
  cases e : B p with
  | none => rfl
  | some u => rw [b.bh _ _ e] at np; cases np
theorem Base.freeF (b : Base J F B H) {p : Addr} (np : B p = none) : F p = none := by
  cases e : F p with
  | none => rfl
  | some u => rw [b.fb _ _ e] at np; cases np
theorem IvW.new {d : Vl} {o : HO} {p : Addr} (I : IvW J F B O ρ τ σ H) (np : H p = none) (r : OwnO J.K F d o) : Iv J ρ ((⟨.own, d⟩, .ref p) :: τ) σ (upd H p o) := by
  have nB := I.base.freeB np
  have hs := upd_sub (o := o) np
  have hO : ∀ (ow : Ow) s v, SR J F B H O ow s v → SR J F B (upd H p o) (fun b => if b = p then some (.inr τ.length) else O b) ow s v := fun ow s v h => by
    obtain ⟨m, d⟩ := s
    cases m with
    | shr => exact h
    | bor => exact h
    | tmp => obtain ⟨a, u, e, g, r, j, q⟩ := h; exact ⟨a, u, e, hs _ _ g, r, j, (if_neg (ne_of_none g np)).trans q⟩
    | own =>
      obtain ⟨a, u, e, g, r, q, n, z⟩ := h
      exact ⟨a, u, e, hs _ _ g, r, (if_neg (ne_of_none g np)).trans q, n, z⟩
    | io =>
      obtain ⟨a, u, e, g, r, q, n, z⟩ := h
      exact ⟨a, u, e, hs _ _ g, r, (if_neg (ne_of_none g np)).trans q, n, z⟩
  refine ⟨F, B, fun b => if b = p then some (.inr τ.length) else O b, ⟨I.base.fb, fun b u e => hs _ _ (I.base.bh b u e), I.base.f0, I.base.new, fun b u e q => hs _ _ (I.base.keep b u e q), fun b e => (let ⟨u, q⟩ := I.base.iot b e; ⟨u, hs _ _ q⟩)⟩, I.len, fun i s e => ?_, ?_, ?_⟩
  · obtain ⟨t, v, e1, h⟩ := I.slot i s e
    exact ⟨t, v, e1, hO _ _ _ h⟩
  · exact ⟨p, o, rfl, upd_same, r, if_pos rfl, nB, I.base.freeH0 np⟩
  · exact I.temp.imp fun s v k _ _ h => hO _ _ _ h
theorem SR.grow {o : HO} {p : Addr} {H' : Hp} {ow : Ow} {s : Sv} {v : V} (nF : F p = none) (nB : B p = none) (h : SR J F B H O ow s v) (hh : ∀ a u, H a = some u → H' a = some u) (hp : ∀ a u, H a = some u → O a = some ow → a ≠ p) : SR J (upd F p o) (upd B p o) H' O ow s v := by
  have hF := upd_sub (o := o) nF
  have hB := upd_sub (o := o) nB
  obtain ⟨m, d⟩ := s
  cases m with
  | shr => exact Rep.mono hF h
  | bor => exact Rep.mono hB h
  | tmp => obtain ⟨a, u, e, g, r, j, q⟩ := h; exact ⟨a, u, e, hh _ _ g, r.mono hF, j, q⟩
  | own =>
    obtain ⟨a, u, e, g, r, q, n, z⟩ := h
    exact ⟨a, u, e, hh _ _ g, r.mono hF, q, by rw [upd_ne (hp a u g q)]; exact n, z⟩
  | io =>
    obtain ⟨a, u, e, g, r, q, n, z⟩ := h
    exact ⟨a, u, e, hh _ _ g, r.mono hF, q, by rw [upd_ne (hp a u g q)]; exact n, z⟩
theorem Base.grow {o : HO} {p : Addr} {H' : Hp} (b : Base J F B H) (hh : ∀ a u, H a = some u → H' a = some u) (hp : H' p = some o) (h0 : J.H0 p = none) (nF : F p = none) (nB : B p = none) : Base J (upd F p o) (upd B p o) H' := by
  refine ⟨fun b' u e => ?_, fun b' u e => ?_, fun b' u e => upd_sub nF _ _ (b.f0 b' u e), fun b' u e => ?_, fun b' u e q => hh _ _ (b.keep b' u e q), fun b' e => (let ⟨u, q⟩ := b.iot b' e; ⟨u, hh _ _ q⟩)⟩
  · by_cases c : b' = p
    · subst c; rw [upd_same] at e ⊢; exact e
    · rw [upd_ne c] at e ⊢; exact b.fb b' u e
  · by_cases c : b' = p
    · subst c; rw [upd_same] at e; cases e; exact hp
    · rw [upd_ne c] at e; exact hh _ _ (b.bh b' u e)
  · by_cases c : b' = p
    · subst c; exact .inr h0
    · rw [upd_ne c] at e; exact b.new b' u e
theorem IvW.newF {d : Vl} {o : HO} {p : Addr} (I : IvW J F B O ρ τ σ H) (np : H p = none) (r : Rep J.K (upd F p o) d (.ref p)) : Iv J ρ ((⟨.shr, d⟩, .ref p) :: τ) σ (upd H p o) := by
  have nB := I.base.freeB np
  have nF := I.base.freeF nB
  have hs := upd_sub (o := o) np
  refine ⟨upd F p o, upd B p o, O, I.base.grow hs upd_same (I.base.freeH0 np) nF nB, I.len, fun i s e => ?_, r, ?_⟩
  · obtain ⟨t, v, e1, h⟩ := I.slot i s e
    exact ⟨t, v, e1, h.grow nF nB hs fun a u g _ => ne_of_none g np⟩
  · exact I.temp.imp fun s v k _ _ h => h.grow nF nB hs fun a u g _ => ne_of_none g np
theorem IvW.frz {d : Vl} {v : V} (I : IvW J F B O ρ ((⟨.own, d⟩, v) :: τ) σ H) : Iv J ρ ((⟨.shr, d⟩, v) :: τ) σ H := by
  obtain ⟨a, o, e, g, r, q, n, z⟩ := I.top
  have nF := I.base.freeF n
  have ne : ∀ ow, ow ≠ .inr τ.length → ∀ b u, H b = some u → O b = some ow → b ≠ a := fun ow h b u _ y x => by
    subst x; rw [q] at y; exact h (Option.some.inj y).symm
  refine ⟨upd F a o, upd B a o, O, I.base.grow (fun _ _ e => e) g z nF n, I.len, fun i s e => ?_, ?_, ?_⟩
  · obtain ⟨t, v, e1, h⟩ := I.slot i s e
    exact ⟨t, v, e1, h.grow nF n (fun _ _ e => e) (ne _ fun y => nomatch y)⟩
  · subst e
    exact (r.mono (upd_sub nF)).rep (fun _ _ e => e) upd_same
  · exact I.drop1.temp.imp fun s v k _ hk h => h.grow nF n (fun _ _ e => e) (ne _ fun y => Nat.ne_of_lt hk (Sum.inr.inj y))
end
end MV
namespace MV
open PySem PySem.Spec PyProof.Rows L2
inductive Rs (α : Type) where
  | ok (a : α) (ρ : En)
  | exc (c : Str) (fs : List (Str × Vl)) (ρ : En)
  | bad
def bnd {α β : Type} (r : Rs α) (k : α → En → Rs β) : Rs β := match r with
  | .ok a ρ => k a ρ
  | .exc c fs ρ => .exc c fs ρ
  | .bad => .bad
def ErrR (K : PySem.W.Frag) (F : Hp) (c : Str) (fs : List (Str × Vl)) (cls : Value) (d : Option Addr) : Prop :=
  cls = .ref (He.ga K c) ∧ ((fs = [] ∧ d = none) ∨ ∃ dd ws, d = some dd ∧ F dd = some (.xd ws) ∧ ∀ f x, fs.lookup f = some x → ∃ v, ws.lookup f = some v ∧ Rep K F x v)
def Ix (J : Jx) (ρ : En) (c : Str) (fs : List (Str × Vl)) (σ : St) (H : Hp) (cls : Value) (d : Option Addr) : Prop :=
  ∃ F B O, IvW J F B O ρ [] σ H ∧ ErrR J.K F c fs cls d
def Out (J : Jx) (W : WX) (τ : List (Sv × V)) (σ : St) (r : Rs Sv) (Q : VK) : Prop := match r with
  | .ok s ρ => ∀ v H, Iv J ρ ((s, v) :: τ) σ H → Q v H
  | .exc c fs ρ => ∀ cls d H, Ix J ρ c fs σ H cls d → W cls d σ H
  | .bad => False
abbrev Sem1 := En → Rs Sv
def tE (J : Jx) (W : WX) (q : Bool) (f : Sem1) : TE := fun σ H Q => ∃ ρ τ, Iv J ρ τ σ H ∧ (q = true ∨ NoTmp τ) ∧ Out J W τ σ (f ρ) Q
structure XE (X : Cx) (J : Jx) (W : WX) (e : Expr) (q : Bool) (f : Sem1) : Prop where
  pe : PE X e (tE J W q f)
theorem _root_.L2.PE.imp {X : Cx} {e : Expr} {t t' : TE} (h : PE X e t) (i : ∀ σ H Q, t' σ H Q → t σ H Q) : PE X e t' := ⟨fun pins s σ H Q I q => h.run pins s σ H Q I (i σ H Q q)⟩
theorem NoTmp.cons {s : Sv} {v : V} {τ : List (Sv × V)} (h : NoTmp τ) (q : s.m ≠ .tmp) : NoTmp ((s, v) :: τ) := fun x hx => by
  rcases List.mem_cons.mp hx with e | e
  · rw [e]; exact q
  · exact h x e
section
variable {X : Cx} {J : Jx} {W : WX} {e a b c : Expr} {q qa qb qc : Bool} {f fa fb fc : Sem1} {pos : Pos} {τ : List (Sv × V)} {σ : St} {H : Hp} {ρ : En}
def fVar (i : Nat) : Sem1 := fun ρ => match ρ[i]? with
  | some (some ⟨.own, d⟩) => .ok ⟨.tmp, d⟩ ρ
  | some (some ⟨.io, d⟩) => .ok ⟨.tmp, d⟩ ρ
  | some (some s) => .ok s ρ
  | _ => .bad
theorem xe_var {i : Nat} {x : Str} (hN : X.N[i]? = some x) (hv : Vis X.env.scope x) (hd : (x == ("__debug__" : Str)) = false := by decide) (hcd : (x == ("__classdict__" : Str)) = false := by decide) : XE X J W (.Name x pos) true (fVar i) := by
  refine ⟨(pe_var hN hv hd hcd).imp ?_⟩
  rintro σ H Q ⟨ρ, τ, ⟨F, B, O, I⟩, _, m⟩
  unfold fVar at m
  cases e : ρ[i]? with
  | none => rw [e] at m; exact m.elim
  | some o =>
    cases o with
    | none => rw [e] at m; exact m.elim
    | some s =>
      obtain ⟨t, v, e1, r⟩ := I.slot i s e
      refine ⟨v, e1, ?_⟩
      obtain ⟨md, d⟩ := s
      rw [e] at m
      cases md with
      | own =>
        obtain ⟨p, o, ev, g, r, q, _⟩ := r
        exact m v H (I.push (s := ⟨.tmp, d⟩) ⟨p, o, ev, g, r, i, q⟩)
      | io =>
        obtain ⟨p, o, ev, g, r, q, _⟩ := r
        exact m v H (I.push (s := ⟨.tmp, d⟩) ⟨p, o, ev, g, r, i, q⟩)
      | tmp => exact absurd rfl t
      | bor => exact m v H (I.push (s := ⟨.bor, d⟩) r)
      | shr => exact m v H (I.push (s := ⟨.shr, d⟩) r)
def fMv (i : Nat) : Sem1 := fun ρ => match ρ[i]? with
  | some (some ⟨.io, d⟩) => .bad
  | some (some s) => .ok s (ρ.set i none)
  | _ => .bad
theorem SR.mv {J : Jx} {F B H : Hp} {O : Addr → Option Ow} {i k : Nat} {s : Sv} {v : V} (nio : s.m ≠ .io) (nt : s.m ≠ .tmp) (h : SR J F B H O (.inl i) s v) : ∃ O' : Addr → Option Ow, SR J F B H O' (.inr k) s v ∧ ∀ a ow, O a = some ow → ow ≠ .inl i → ow ≠ .inr k → O' a = some ow := by
  obtain ⟨m, d⟩ := s
  cases m with
  | own =>
    obtain ⟨p, o, ev, g, r, qo, n, z⟩ := h
    refine ⟨fun b => if b = p then some (.inr k) else O b, ⟨p, o, ev, g, r, if_pos rfl, n, z⟩, fun a ow e h1 h2 => ?_⟩
    by_cases c : a = p
    · subst c; rw [qo] at e; exact absurd (Option.some.inj e).symm h1
    · exact (if_neg c).trans e
  | io => exact absurd rfl nio
  | tmp => exact absurd rfl nt
  | bor => exact ⟨O, h, fun a ow e _ _ => e⟩
  | shr => exact ⟨O, h, fun a ow e _ _ => e⟩
theorem SR.owner {J : Jx} {F B H : Hp} {O O' : Addr → Option Ow} {ow : Ow} {s : Sv} {v : V} (nt : s.m ≠ .tmp) (h : SR J F B H O ow s v) (f : ∀ a, O a = some ow → O' a = some ow) : SR J F B H O' ow s v := by
  obtain ⟨m, d⟩ := s
  cases m with
  | own => obtain ⟨p, o, ev, g, r, qo, z⟩ := h; exact ⟨p, o, ev, g, r, f _ qo, z⟩
  | io => obtain ⟨p, o, ev, g, r, qo, z⟩ := h; exact ⟨p, o, ev, g, r, f _ qo, z⟩
  | tmp => exact absurd rfl nt
  | bor => exact h
  | shr => exact h
theorem xe_mv {i : Nat} {x : Str} (hN : X.N[i]? = some x) (hv : Vis X.env.scope x) (hd : (x == ("__debug__" : Str)) = false := by decide) (hcd : (x == ("__classdict__" : Str)) = false := by decide) : XE X J W (.Name x pos) false (fMv i) := by
  refine ⟨(pe_var hN hv hd hcd).imp ?_⟩
  rintro σ H Q ⟨ρ, τ, ⟨F, B, O, I⟩, c, m⟩
  have nt : NoTmp τ := c.elim (fun z => nomatch z) id
  unfold fMv at m
  cases e : ρ[i]? with
  | none => rw [e] at m; exact m.elim
  | some o =>
    cases o with
    | none => rw [e] at m; exact m.elim
    | some s =>
      obtain ⟨t, v, e1, r⟩ := I.slot i s e
      refine ⟨v, e1, ?_⟩
      rw [e] at m
      have nio : s.m ≠ .io := fun y => by
        obtain ⟨md, d⟩ := s
        cases y
        exact m
      have m : Out J W τ σ (.ok s (ρ.set i none)) Q := by
        obtain ⟨md, d⟩ := s
        cases md <;> first | exact m | exact absurd rfl nio
      obtain ⟨O', r', ho⟩ := SR.mv (k := τ.length) nio t r
      refine m v H ⟨F, B, O', I.base, I.len.set, fun j s2 e2 => ?_, r', ?_⟩
      · by_cases hj : i = j
        · subst hj
          by_cases hl : i < ρ.length
          · rw [List.getElem?_set_self hl] at e2; cases e2
          · rw [List.getElem?_eq_none (by simpa using hl)] at e2; cases e2
        · rw [List.getElem?_set_ne hj] at e2
          obtain ⟨t2, v2, e3, r2⟩ := I.slot j s2 e2
          exact ⟨t2, v2, e3, r2.owner t2 fun a z => ho a _ z (fun y => hj (Sum.inl.inj y).symm) (fun y => nomatch y)⟩
      · exact I.temp.imp fun s v k hm hk h => h.owner (nt _ hm) fun a z => ho a _ z (fun y => nomatch y) (fun y => Nat.ne_of_lt hk (Sum.inr.inj y))
def fC (d : Vl) : Sem1 := fun ρ => .ok ⟨.shr, d⟩ ρ
theorem xe_c {d : Vl} {v : V} (h : PE X e (tC v)) (r : ∀ G, Rep J.K G d v) : XE X J W e true (fC d) := by
  refine ⟨h.imp ?_⟩
  rintro σ H Q ⟨ρ, τ, ⟨F, B, O, I⟩, _, m⟩
  exact m v H (I.push (s := ⟨.shr, d⟩) (r F))
theorem xe_int {i : Int} {j p} : XE X J W (.Constant (.int i) j p) true (fC (.int i)) := xe_c pe_int (fun _ => rfl)
theorem xe_bl {i : Bool} {j p} : XE X J W (.Constant (.bool i) j p) true (fC (.bl i)) := xe_c pe_bl (fun _ => rfl)
theorem xe_str {i : Str} {j p} : XE X J W (.Constant (.str i) j p) true (fC (.str i)) := xe_c pe_str (fun _ => rfl)
theorem xe_glob {x : Str} {d : Vl} {v : V} {u : Value} (hg : Gl X x) (hm : X.mg x = some u) (r : RelV v u) (rd : ∀ G, Rep J.K G d v) (hd : (x == ("__debug__" : Str)) = false := by decide) : XE X J W (.Name x pos) true (fC d) := xe_c (pe_glob hg hm r hd) rd
abbrev K1 := Sv → En → Rs Sv
abbrev K2 := Sv → Sv → En → Rs Sv
def fOne (fa : Sem1) (k : K1) : Sem1 := fun ρ => bnd (fa ρ) k
def Md.isT : Md → Bool
  | .tmp => true
  | _ => false
def grd {α : Type} (b : Bool) (r : Rs α) : Rs α := match b with
  | true => r
  | false => .bad
def held (m : Md) (q : Bool) : Bool := q || !m.isT
def fTwo (qb : Bool) (fa fb : Sem1) (k : K2) : Sem1 := fun ρ => bnd (fa ρ) fun a ρ1 => grd (held a.m qb) (bnd (fb ρ1) fun b ρ2 => k a b ρ2)
def Ok1 (J : Jx) (W : WX) (r : V → Hp → VK → Prop) (k : K1) : Prop := ∀ ρ τ σ H (s : Sv) v Q, Iv J ρ ((s, v) :: τ) σ H → Out J W τ σ (k s ρ) Q → r v H Q
def Ok2 (J : Jx) (W : WX) (r : R2) (k : K2) : Prop := ∀ ρ τ σ H (s t : Sv) v u Q, Iv J ρ ((t, u) :: (s, v) :: τ) σ H → Out J W τ σ (k s t ρ) Q → r v u H Q
theorem tE_one (ok : ∀ ρ τ H (s : Sv) v, Iv J ρ ((s, v) :: τ) σ H → ∀ {r : V → Hp → VK → Prop} {k : K1} {Q : VK}, Ok1 J W r k → Out J W τ σ (k s ρ) Q → r v H Q := fun _ _ _ _ _ I _ _ _ o h => o _ _ _ _ _ _ _ I h)
    {r : V → Hp → VK → Prop} {k : K1} (hk : Ok1 J W r k) {Q : VK} (h : tE J W q (fOne fa k) σ H Q) : tE J W q fa σ H fun v H1 => r v H1 Q := by
  obtain ⟨ρ, τ, I, c, m⟩ := h
  refine ⟨ρ, τ, I, c, ?_⟩
  unfold fOne at m
  cases e : fa ρ with
  | ok s ρ1 => rw [e] at m; exact fun v H1 I1 => hk _ _ _ _ _ _ _ I1 m
  | exc cc fs ρ1 => rw [e] at m; exact m
  | bad => rw [e] at m; exact m
theorem grd_out {s : Sv} {r : Rs Sv} {Q : VK} (m : Out J W τ σ (grd (held s.m qb) r) Q) : Out J W τ σ r Q ∧ (qb = true ∨ s.m ≠ .tmp) := by
  obtain ⟨md, d⟩ := s
  cases qb with
  | true => exact ⟨m, .inl rfl⟩
  | false => cases md <;> first | exact m.elim | exact ⟨m, .inr (fun z => nomatch z)⟩
theorem tE_two {r : R2} {k : K2} (hk : Ok2 J W r k) {Q : VK} (h : tE J W (qa && qb) (fTwo qb fa fb k) σ H Q) : tE J W qa fa σ H fun x H1 => tE J W qb fb σ H1 fun y H2 => r x y H2 Q := by
  obtain ⟨ρ, τ, I, c, m⟩ := h
  refine ⟨ρ, τ, I, c.imp (fun z => (Bool.and_eq_true_iff.mp z).1) id, ?_⟩
  unfold fTwo at m
  cases e : fa ρ with
  | ok s ρ1 =>
    rw [e] at m
    intro v H1 I1
    have m2 : Out J W τ σ (bnd (fb ρ1) fun b ρ2 => k s b ρ2) Q ∧ (qb = true ∨ s.m ≠ .tmp) := grd_out m
    obtain ⟨m2, hq⟩ := m2
    refine ⟨ρ1, (s, v) :: τ, I1, ?_, ?_⟩
    · rcases c with z | z
      · exact .inl (Bool.and_eq_true_iff.mp z).2
      · rcases hq with y | y
        · exact .inl y
        · exact .inr (z.cons y)
    · cases e2 : fb ρ1 with
      | ok t ρ2 => rw [e2] at m2; exact fun u H2 I2 => hk _ _ _ _ _ _ _ _ _ I2 m2
      | exc cc fs ρ2 => rw [e2] at m2; exact m2
      | bad => rw [e2] at m2; exact m2
  | exc cc fs ρ1 => rw [e] at m; exact m
  | bad => rw [e] at m; exact m
theorem xe_op {op : Operator} {r : R2} {k : K2} (ho : OpR X (binaryOp op) r) (hk : Ok2 J W r k) (ha : XE X J W a qa fa) (hb : XE X J W b qb fb) : XE X J W (.BinOp a op b pos) (qa && qb) (fTwo qb fa fb k) :=
  ⟨(pe_op ho ha.pe hb.pe).imp fun _ _ _ h => tE_two hk h⟩
theorem xe_un {op : UnaryOp} {r : V → Hp → VK → Prop} {k : K1} (ho : UnR X (unaryOp op) r) (hk : Ok1 J W r k) (ha : XE X J W a qa fa) : XE X J W (.UnaryOp op a pos) qa (fOne fa k) :=
  ⟨(pe_un ho ha.pe).imp fun _ _ _ h => tE_one (fun _ _ _ _ _ I _ _ _ o h => o _ _ _ _ _ _ _ I h) hk h⟩
theorem xe_cmp {op : CmpOp} {r : R2} {k : K2} (ho : OpR X (compareOp op) r) (hk : Ok2 J W r k) (ha : XE X J W a qa fa) (hb : XE X J W b qb fb) (hm : behindInMarks op b = false) : XE X J W (.Compare a [op] [b] pos) (qa && qb) (fTwo qb fa fb k) :=
  ⟨(pe_cmpR ho ha.pe hb.pe hm).imp fun _ _ _ h => tE_two hk h⟩
theorem xe_ix {r : R2} {k : K2} (hr : IxR X r) (hk : Ok2 J W r k) (ha : XE X J W a qa fa) (hb : XE X J W b qb fb) (hs : PlainIx b) : XE X J W (.Subscript a b pos) (qa && qb) (fTwo qb fa fb k) :=
  ⟨(pe_ix hr ha.pe hb.pe hs).imp fun _ _ _ h => tE_two hk h⟩
def kS (g : Vl → Vl → Option Vl) : K2 := fun s t ρ => match g s.d t.d with
  | some d => if isSc d then .ok ⟨.shr, d⟩ ρ else .bad
  | none => .bad
def kS1 (g : Vl → Option Vl) : K1 := fun s ρ => match g s.d with
  | some d => if isSc d then .ok ⟨.shr, d⟩ ρ else .bad
  | none => .bad
theorem ok_S {r : R2} {g : Vl → Vl → Option Vl} (h : ∀ (H : Hp) d1 d2 d v1 v2 (Q : VK), Rep J.K H d1 v1 → Rep J.K H d2 v2 → g d1 d2 = some d → (∀ v, Rep J.K H d v → Q v H) → r v1 v2 H Q) : Ok2 J W r (kS g) := by
  rintro ρ τ σ H s t v u Q ⟨F, B, O, I⟩ m
  unfold kS at m
  cases e : g s.d t.d with
  | none => rw [e] at m; exact m.elim
  | some d =>
    rw [e] at m
    have m' : Out J W τ σ (if isSc d then .ok ⟨.shr, d⟩ ρ else .bad) Q := m
    by_cases q : isSc d = true
    · rw [if_pos q] at m'
      exact h H _ _ d v u Q (I.drop1.top.rep I.base) (I.top.rep I.base) e fun w rw => m' w H (I.drop1.drop1.pushSc rw q)
    · rw [if_neg q] at m'; exact m'.elim
theorem ok_S1 {r : V → Hp → VK → Prop} {g : Vl → Option Vl} (h : ∀ (H : Hp) d1 d v1 (Q : VK), Rep J.K H d1 v1 → g d1 = some d → (∀ v, Rep J.K H d v → Q v H) → r v1 H Q) : Ok1 J W r (kS1 g) := by
  rintro ρ τ σ H s v Q ⟨F, B, O, I⟩ m
  unfold kS1 at m
  cases e : g s.d with
  | none => rw [e] at m; exact m.elim
  | some d =>
    rw [e] at m
    have m' : Out J W τ σ (if isSc d then .ok ⟨.shr, d⟩ ρ else .bad) Q := m
    by_cases q : isSc d = true
    · rw [if_pos q] at m'
      exact h H _ d v Q (I.top.rep I.base) e fun w rw => m' w H (I.drop1.pushSc rw q)
    · rw [if_neg q] at m'; exact m'.elim
def gI (f : Int → Int → Int) : Vl → Vl → Option Vl
  | .int i, .int j => some (.int (f i j))
  | _, _ => none
def gIc (c : Int → Int → Bool) (f : Int → Int → Int) : Vl → Vl → Option Vl
  | .int i, .int j => if c i j then some (.int (f i j)) else none
  | _, _ => none
def gB (f : Int → Int → Bool) : Vl → Vl → Option Vl
  | .int i, .int j => some (.bl (f i j))
  | _, _ => none
theorem ok_I {f : Int → Int → Int} : Ok2 J W (rI0 fun i j => .int (f i j)) (kS (gI f)) := ok_S fun H d1 d2 d v1 v2 Q r1 r2 e q => by
  cases d1 <;> cases d2 <;> first | (cases e; exact ⟨_, _, r1, r2, q _ rfl⟩) | cases e
theorem ok_B {f : Int → Int → Bool} : Ok2 J W (rI0 fun i j => .bl (f i j)) (kS (gB f)) := ok_S fun H d1 d2 d v1 v2 Q r1 r2 e q => by
  cases d1 <;> cases d2 <;> first | (cases e; exact ⟨_, _, r1, r2, q _ rfl⟩) | cases e
theorem ok_Ic {C : Int → Int → Prop} {c : Int → Int → Bool} {f : Int → Int → Int} (hc : ∀ i j, c i j = true → C i j) : Ok2 J W (rI C fun i j => .int (f i j)) (kS (gIc c f)) := ok_S fun H d1 d2 d v1 v2 Q r1 r2 e q => by
  cases d1 with
  | int i =>
    cases d2 with
    | int j =>
      have e' : (if c i j then some (Vl.int (f i j)) else none) = some d := e
      by_cases z : c i j = true
      · rw [if_pos z] at e'; cases e'; exact ⟨_, _, r1, r2, hc _ _ z, q _ rfl⟩
      · rw [if_neg z] at e'; cases e'
    | _ => cases e
  | _ => cases d2 <;> cases e
end
end MV
namespace MV
open PySem PySem.Spec PyProof.Rows L2
section
variable {X : Cx} {J : Jx} {W : WX} {e a b c : Expr} {es : List Expr} {q qa qb qc qr : Bool} {f fa fb fc : Sem1} {pos : Pos} {τ : List (Sv × V)} {σ : St} {H : Hp} {ρ : En}
abbrev SemB := En → Rs Bool
def OutB (J : Jx) (W : WX) (τ : List (Sv × V)) (σ : St) (r : Rs Bool) (Q : Bool → Hp → Prop) : Prop := match r with
  | .ok b ρ => ∀ H, Iv J ρ τ σ H → Q b H
  | .exc c fs ρ => ∀ cls d H, Ix J ρ c fs σ H cls d → W cls d σ H
  | .bad => False
def tT (J : Jx) (W : WX) (q : Bool) (f : SemB) : TT := fun σ H Q => ∃ ρ τ, Iv J ρ τ σ H ∧ (q = true ∨ NoTmp τ) ∧ OutB J W τ σ (f ρ) Q
structure XT (X : Cx) (J : Jx) (W : WX) (e : Expr) (q : Bool) (f : SemB) : Prop where
  pt : PT X e (tT J W q f)
structure XW (X : Cx) (J : Jx) (W : WX) (e : Expr) (q : Bool) (f : SemB) : Prop where
  pw : PW X e (tT J W q f)
theorem _root_.L2.PT.imp {X : Cx} {e : Expr} {t t' : TT} (h : PT X e t) (i : ∀ σ H Q, t' σ H Q → t σ H Q) : PT X e t' := ⟨fun pins s σ H Q I q => h.run pins s σ H Q I (i σ H Q q)⟩
theorem _root_.L2.PW.imp {X : Cx} {e : Expr} {t t' : TT} (h : PW X e t) (i : ∀ σ H Q, t' σ H Q → t σ H Q) : PW X e t' := ⟨fun w pins s σ H Q I q => h.run w pins s σ H Q I (i σ H Q q)⟩
def tru : Vl → Option Bool
  | .non => some false
  | .bl b => some b
  | .int i => some (i != 0)
  | .lst xs => some (!xs.isEmpty)
  | .tup xs => some (!xs.isEmpty)
  | .str s => if s.length ≤ sizeLine then some (s.length != 0) else none
  | _ => none
def kBl : Sv → En → Rs Bool := fun s ρ => match s.d with
  | .bl b => .ok b ρ
  | _ => .bad
def fTst (f : Sem1) : SemB := fun ρ => bnd (f ρ) kBl
def kTru : Sv → En → Rs Bool := fun s ρ => match tru s.d with
  | some b => .ok b ρ
  | none => .bad
def fTru (f : Sem1) : SemB := fun ρ => bnd (f ρ) kTru
theorem tT_tst {Q : Bool → Hp → Prop} (h : tT J W q (fTst f) σ H Q) : tE J W q f σ H fun x H1 => ∃ k, x = .bl k ∧ Q k H1 := by
  obtain ⟨ρ, τ, I, c, m⟩ := h
  refine ⟨ρ, τ, I, c, ?_⟩
  unfold fTst at m
  cases e : f ρ with
  | ok s ρ1 =>
    rw [e] at m
    rintro v H1 ⟨F, B, O, I1⟩
    have m : OutB J W τ σ (kBl s ρ1) Q := m
    obtain ⟨md, d⟩ := s
    cases d with
    | bl k => exact ⟨k, I1.top.rep I1.base, m H1 ⟨F, B, O, I1.drop1⟩⟩
    | _ => exact m.elim
  | exc cc fs ρ1 => rw [e] at m; exact m
  | bad => rw [e] at m; exact m
theorem xt_cmp {op : CmpOp} {r : R2} {k : K2} (ho : OpR X (compareOp op) r) (hk : Ok2 J W r k) (ha : XE X J W a qa fa) (hb : XE X J W b qb fb) (hm : behindInMarks op b = false) : XT X J W (.Compare a [op] [b] pos) (qa && qb) (fTst (fTwo qb fa fb k)) :=
  ⟨(pt_cmpR ho ha.pe hb.pe hm).imp fun _ _ _ h => tE_two hk (tT_tst h)⟩
theorem nat_ne (n : Nat) : (n != 0) = (((n : Nat) : Int) != 0) := by
  cases n with
  | zero => rfl
  | succ n =>
    have h1 : (n + 1 != 0) = true := by simp
    have h2 : ((((n + 1 : Nat)) : Int) != 0) = true := by
      rw [bne_iff_ne]; omega
    rw [h1, h2]
theorem tru_rep {K : PySem.W.Frag} {d : Vl} {k : Bool} {v : V} (h : tru d = some k) (r : Rep K H d v) : TruV K v H k := by
  cases d with
  | non => cases h; cases r; exact rfl
  | bl b => cases h; cases r; exact rfl
  | int i => cases h; cases r; exact rfl
  | str s =>
    have h' : (if s.length ≤ sizeLine then some (s.length != 0) else none) = some k := h
    by_cases z : s.length ≤ sizeLine
    · rw [if_pos z] at h'; cases h'; cases r; exact ⟨z, nat_ne s.length⟩
    · rw [if_neg z] at h'; cases h'
  | lst xs =>
    cases h
    obtain ⟨p, vs, e, g, r⟩ := r
    subst e
    refine .inl ⟨vs, SqL.of g, ?_⟩
    cases xs with
    | nil => rw [show vs = [] from r]; rfl
    | cons x xs => obtain ⟨v, t, e, _⟩ := r; rw [e]; rfl
  | tup xs =>
    cases h
    obtain ⟨p, vs, e, g, r⟩ := r
    subst e
    refine .inr (.inl ⟨vs, SqT.of g, ?_⟩)
    cases xs with
    | nil => rw [show vs = [] from r]; rfl
    | cons x xs => obtain ⟨v, t, e, _⟩ := r; rw [e]; rfl
  | _ => cases h
theorem xt_tru (hK : J.K = X.K) (h : XE X J W e q f) (he : ∀ whole, isTrue e X.env whole = (do let v ← whole; standAt e.pos; holding [v] (truthy v)) := by intro _; rfl) : XT X J W e q (fTru f) := by
  refine ⟨(pt_truth h.pe he).imp fun σ H Q h => ?_⟩
  obtain ⟨ρ, τ, I, c, m⟩ := h
  refine ⟨ρ, τ, I, c, ?_⟩
  unfold fTru at m
  cases e : f ρ with
  | ok s ρ1 =>
    rw [e] at m
    rintro v H1 ⟨F, B, O, I1⟩
    have m : OutB J W τ σ (kTru s ρ1) Q := m
    unfold kTru at m
    cases z : tru s.d with
    | none => rw [z] at m; exact m.elim
    | some k =>
      rw [z] at m
      have r := I1.top.rep I1.base
      rw [hK] at r
      exact ⟨k, tru_rep z r, m H1 ⟨F, B, O, I1.drop1⟩⟩
  | exc cc fs ρ1 => rw [e] at m; exact m
  | bad => rw [e] at m; exact m
def fAnd (fa fb : SemB) : SemB := fun ρ => bnd (fa ρ) fun x ρ1 => match x with
  | true => fb ρ1
  | false => .ok false ρ1
def fOr (fa fb : SemB) : SemB := fun ρ => bnd (fa ρ) fun x ρ1 => match x with
  | true => .ok true ρ1
  | false => fb ρ1
def fNot (fa : SemB) : SemB := fun ρ => bnd (fa ρ) fun x ρ1 => .ok (!x) ρ1
variable {ga gb : SemB} {rest : List Expr}
theorem qand (c : (qa && qb) = true ∨ NoTmp τ) : (qa = true ∨ NoTmp τ) ∧ (qb = true ∨ NoTmp τ) :=
  ⟨c.imp (fun z => (Bool.and_eq_true_iff.mp z).1) id, c.imp (fun z => (Bool.and_eq_true_iff.mp z).2) id⟩
theorem xw_and1 (ha : XT X J W a qa ga) : XW X J W (.BoolOp .And [a] pos) qa ga := ⟨pw_and1 ha.pt⟩
theorem xw_or1 (ha : XT X J W a qa ga) : XW X J W (.BoolOp .Or [a] pos) qa ga := ⟨pw_or1 ha.pt⟩
theorem xw_and (ha : XT X J W a qa ga) (hb : XW X J W (.BoolOp .And (b :: rest) pos) qb gb) : XW X J W (.BoolOp .And (a :: b :: rest) pos) (qa && qb) (fAnd ga gb) := by
  refine ⟨(pw_and ha.pt hb.pw).imp fun σ H Q h => ?_⟩
  obtain ⟨ρ, τ, I, c, m⟩ := h
  refine ⟨ρ, τ, I, (qand c).1, ?_⟩
  unfold fAnd at m
  cases e : ga ρ with
  | ok x ρ1 =>
    rw [e] at m
    intro H1 I1
    cases x with
    | true => rw [if_pos rfl]; exact ⟨ρ1, τ, I1, (qand c).2, m⟩
    | false => rw [if_neg Bool.false_ne_true]; exact m H1 I1
  | exc cc fs ρ1 => rw [e] at m; exact m
  | bad => rw [e] at m; exact m
theorem xw_or (ha : XT X J W a qa ga) (hb : XW X J W (.BoolOp .Or (b :: rest) pos) qb gb) : XW X J W (.BoolOp .Or (a :: b :: rest) pos) (qa && qb) (fOr ga gb) := by
  refine ⟨(pw_or ha.pt hb.pw).imp fun σ H Q h => ?_⟩
  obtain ⟨ρ, τ, I, c, m⟩ := h
  refine ⟨ρ, τ, I, (qand c).1, ?_⟩
  unfold fOr at m
  cases e : ga ρ with
  | ok x ρ1 =>
    rw [e] at m
    intro H1 I1
    cases x with
    | false => rw [if_neg Bool.false_ne_true]; exact ⟨ρ1, τ, I1, (qand c).2, m⟩
    | true => rw [if_pos rfl]; exact m H1 I1
  | exc cc fs ρ1 => rw [e] at m; exact m
  | bad => rw [e] at m; exact m
theorem XW.xt (h : XW X J W a qa ga) : XT X J W a qa ga := ⟨h.pw.pt⟩
theorem xt_not (ha : XT X J W a qa ga) : XT X J W (.UnaryOp .Not a pos) qa (fNot ga) := by
  refine ⟨(pt_not ha.pt).imp fun σ H Q h => ?_⟩
  obtain ⟨ρ, τ, I, c, m⟩ := h
  refine ⟨ρ, τ, I, c, ?_⟩
  unfold fNot at m
  cases e : ga ρ with
  | ok x ρ1 => rw [e] at m; exact fun H1 I1 => m H1 I1
  | exc cc fs ρ1 => rw [e] at m; exact m
  | bad => rw [e] at m; exact m
def fAndV (fa fb : Sem1) : Sem1 := fun ρ => bnd (bnd (fa ρ) kBl) fun x ρ1 => match x with
  | true => fb ρ1
  | false => .ok ⟨.shr, .bl false⟩ ρ1
def fNotV (fa : Sem1) : Sem1 := fun ρ => bnd (bnd (fa ρ) kBl) fun x ρ1 => .ok ⟨.shr, .bl (!x)⟩ ρ1
theorem tE_bl {k : Bool → En → Rs Sv} {R : Bool → Hp → Prop} {Q : VK} (I : Iv J ρ τ σ H) (c : q = true ∨ NoTmp τ) (m : Out J W τ σ (bnd (bnd (fa ρ) kBl) k) Q)
    (h : ∀ x ρ1 H1, Iv J ρ1 τ σ H1 → Out J W τ σ (k x ρ1) Q → R x H1) : tE J W q fa σ H fun x H1 => ∃ c, x = .bl c ∧ R c H1 := by
  refine ⟨ρ, τ, I, c, ?_⟩
  cases e : fa ρ with
  | ok s ρ1 =>
    rw [e] at m
    rintro v H1 ⟨F, B, O, I1⟩
    have m : Out J W τ σ (bnd (kBl s ρ1) k) Q := m
    obtain ⟨md, d⟩ := s
    cases d with
    | bl x => exact ⟨x, I1.top.rep I1.base, h x ρ1 H1 ⟨F, B, O, I1.drop1⟩ m⟩
    | _ => exact m.elim
  | exc cc fs ρ1 => rw [e] at m; exact m
  | bad => rw [e] at m; exact m
theorem xe_one1 {op} (h : XE X J W a qa fa) : XE X J W (.BoolOp op [a] pos) qa fa := ⟨pe_one h.pe⟩
theorem out_sc {d : Vl} {Q : VK} {v : V} (m : Out J W τ σ (.ok ⟨.shr, d⟩ ρ) Q) (I : Iv J ρ τ σ H) (r : Rep J.K H d v) (z : isSc d = true) : Q v H := by
  obtain ⟨F, B, O, I⟩ := I
  exact m v H (I.pushSc r z)
theorem xe_and (ha : XE X J W a qa fa) (hb : XE X J W (.BoolOp .And (b :: rest) pos) qb fb) : XE X J W (.BoolOp .And (a :: b :: rest) pos) (qa && qb) (fAndV fa fb) := by
  refine ⟨(pe_and ha.pe hb.pe).imp fun σ H Q h => ?_⟩
  obtain ⟨ρ, τ, I, c, m⟩ := h
  refine tE_bl (R := fun c H1 => if c = true then tE J W qb fb σ H1 Q else Q (.bl false) H1) I (qand c).1 m fun x ρ1 H1 I1 m1 => ?_
  cases x with
  | true => rw [if_pos rfl]; exact ⟨ρ1, τ, I1, (qand c).2, m1⟩
  | false => rw [if_neg Bool.false_ne_true]; exact out_sc (v := .bl false) m1 I1 rfl rfl
theorem xe_not (ha : XE X J W a qa fa) : XE X J W (.UnaryOp .Not a pos) qa (fNotV fa) := by
  refine ⟨(pe_not ha.pe).imp fun σ H Q h => ?_⟩
  obtain ⟨ρ, τ, I, c, m⟩ := h
  exact tE_bl (R := fun c H1 => Q (.bl (!c)) H1) I c m fun x ρ1 H1 I1 m1 => out_sc (v := .bl (!x)) m1 I1 rfl rfl
def kI (k : Int → En → Rs Sv) : K1 := fun s ρ => match s.d with
  | .int i => k i ρ
  | _ => .bad
theorem tE_int {k : Int → En → Rs Sv} {R Q : VK} (I : Iv J ρ τ σ H) (c : q = true ∨ NoTmp τ) (m : Out J W τ σ (bnd (fa ρ) (kI k)) Q)
    (h : ∀ i ρ1 H1, Iv J ρ1 τ σ H1 → Out J W τ σ (k i ρ1) Q → R (.int i) H1) : tE J W q fa σ H R := by
  refine ⟨ρ, τ, I, c, ?_⟩
  cases e : fa ρ with
  | ok s ρ1 =>
    rw [e] at m
    rintro v H1 ⟨F, B, O, I1⟩
    have m : Out J W τ σ (kI k s ρ1) Q := m
    obtain ⟨md, d⟩ := s
    cases d with
    | int x =>
      have hv : v = .int x := I1.top.rep I1.base
      subst hv
      exact h x ρ1 H1 ⟨F, B, O, I1.drop1⟩ m
    | _ => exact m.elim
  | exc cc fs ρ1 => rw [e] at m; exact m
  | bad => rw [e] at m; exact m
def fChain (p p' : Int → Int → Bool) (fa fb fc : Sem1) : Sem1 := fun ρ => bnd (fa ρ) (kI fun i ρ1 => bnd (fb ρ1) (kI fun j ρ2 => match p i j with
  | true => bnd (fc ρ2) (kI fun k ρ3 => .ok ⟨.shr, .bl (p' j k)⟩ ρ3)
  | false => .ok ⟨.shr, .bl false⟩ ρ2))
theorem tE_chain {p p' : Int → Int → Bool} {Q : VK} (h : tE J W (qa && (qb && qc)) (fChain p p' fa fb fc) σ H Q) :
    tChain (rI0 fun i j => .bl (p i j)) (rI0 fun i j => .bl (p' i j)) (tE J W qa fa) (tE J W qb fb) (tE J W qc fc) σ H Q := by
  obtain ⟨ρ, τ, I, cc, m⟩ := h
  refine tE_int I (qand cc).1 m fun i ρ1 H1 I1 m1 => tE_int I1 (qand (qand cc).2).1 m1 fun j ρ2 H2 I2 m2 => ?_
  refine ⟨i, j, rfl, rfl, _, rfl, ?_⟩
  cases z : p i j with
  | true =>
    rw [z] at m2
    rw [if_pos rfl]
    exact tE_int I2 (qand (qand cc).2).2 m2 fun k ρ3 H3 I3 m3 => ⟨j, k, rfl, rfl, out_sc (v := .bl (p' j k)) m3 I3 rfl rfl⟩
  | false =>
    rw [z] at m2
    rw [if_neg Bool.false_ne_true]
    exact out_sc (v := .bl false) m2 I2 rfl rfl
theorem xt_chain {op op' : CmpOp} {p p' : Int → Int → Bool} (ho : OpR X (compareOp op) (rI0 fun i j => .bl (p i j))) (ho' : OpR X (compareOp op') (rI0 fun i j => .bl (p' i j))) (ha : XE X J W a qa fa) (hb : XE X J W b qb fb) (hc : XE X J W c qc fc)
    (hm : lastMarks [op, op'] [b, c] = false := by with_unfolding_all rfl) : XT X J W (.Compare a [op, op'] [b, c] pos) (qa && (qb && qc)) (fTst (fChain p p' fa fb fc)) := ⟨(pt_chain ho ho' ha.pe hb.pe hc.pe hm).imp fun _ _ _ h => tE_chain (tT_tst h)⟩
end
end MV
namespace MV
open PySem PySem.Spec PyProof.Rows L2
section
variable {X : Cx} {J : Jx} {W : WX} {e a b c : Expr} {es : List Expr} {q qa qb qc qr : Bool} {f fa fb fc : Sem1} {pos : Pos} {τ : List (Sv × V)} {σ : St} {H : Hp} {ρ : En}
def lft (m : Md) (xs : List Vl) : Bool := (match m with | .bor => false | _ => true) || xs.all isSc
theorem lft_rep {F B : Hp} {m : Md} {xs : List Vl} {vs : List V} (h : lft m xs = true) (r : RepL J.K (reg F B m) xs vs) : RepL J.K F xs vs := by
  cases m with
  | bor => exact r.scs h
  | _ => exact r
theorem kid_out {d : Vl} {m : Md} {v : V} {Q : VK} {F B : Hp} {O : Addr → Option Ow} (I : IvW J F B O ρ τ σ H) (r : Rep J.K (reg F B m) d v) (h : Out J W τ σ (.ok (mk m.kid d) ρ) Q) : Q v H :=
  h v H (I.push ((reg_kid r H).mk I.base))
def rAddA : R2 := fun x y H Q => (rI0 fun i j => .int (i + j)) x y H Q ∨ (∃ i j, x = .str i ∧ y = .str j ∧ i.length + j.length ≤ sizeLine ∧ Q (.str (i ++ j)) H) ∨ rCat x y H Q
theorem op_addA : OpR X (binaryOp .Add) rAddA := op_add.or (op_add_str.or op_cat)
def kAdd : K2 := fun s t ρ => match s.d, t.d with
  | .int i, .int j => .ok ⟨.shr, .int (i + j)⟩ ρ
  | .str i, .str j => grd (decide (i.length + j.length ≤ sizeLine)) (.ok ⟨.shr, .str (i ++ j)⟩ ρ)
  | .lst xs, .lst ys => grd (lft s.m xs && lft t.m ys && decide (xs.length + ys.length ≤ sizeLine)) (.ok ⟨.own, .lst (xs ++ ys)⟩ ρ)
  | _, _ => .bad
theorem out_grd {b : Bool} {r : Rs Sv} {Q : VK} (m : Out J W τ σ (grd b r) Q) : b = true ∧ Out J W τ σ r Q := by
  cases b with
  | true => exact ⟨rfl, m⟩
  | false => exact m.elim
theorem ok_add : Ok2 J W rAddA kAdd := by
  rintro ρ τ σ H ⟨ms, ds⟩ ⟨mt, dt⟩ v u Q ⟨F, B, O, I⟩ m
  cases ds with
  | int i =>
    cases dt with
    | int j => exact .inl ⟨i, j, I.drop1.top.rep I.base, I.top.rep I.base, out_sc m ⟨F, B, O, I.drop1.drop1⟩ rfl rfl⟩
    | _ => exact m.elim
  | str i =>
    cases dt with
    | str j =>
      obtain ⟨h, m⟩ := out_grd (b := decide (i.length + j.length ≤ sizeLine)) m
      exact .inr (.inl ⟨i, j, I.drop1.top.rep I.base, I.top.rep I.base, of_decide_eq_true h, out_sc m ⟨F, B, O, I.drop1.drop1⟩ rfl rfl⟩)
    | _ => exact m.elim
  | lst xs =>
    cases dt with
    | lst ys =>
      obtain ⟨h, m⟩ := out_grd (b := lft ms xs && lft mt ys && decide (xs.length + ys.length ≤ sizeLine)) m
      rw [Bool.and_eq_true, Bool.and_eq_true] at h
      obtain ⟨p1, vs, e1, g1, r1⟩ := I.drop1.top.list I.base
      obtain ⟨p2, ws, e2, g2, r2⟩ := I.top.list I.base
      have n1 := r1.len
      have n2 := r2.len
      refine .inr (.inr ⟨p1, p2, vs, ws, e1, e2, g1, g2, by rw [n1, n2]; exact of_decide_eq_true h.2, fun p np => m _ _ (I.drop1.drop1.new np ⟨_, rfl, ?_⟩)⟩)
      exact (lft_rep h.1.1 r1).app (lft_rep h.1.2 r2)
    | _ => exact m.elim
  | _ => cases dt <;> exact m.elim
theorem xe_add (ha : XE X J W a qa fa) (hb : XE X J W b qb fb) : XE X J W (.BinOp a .Add b pos) (qa && qb) (fTwo qb fa fb kAdd) := xe_op op_addA ok_add ha hb
theorem xe_sub (ha : XE X J W a qa fa) (hb : XE X J W b qb fb) : XE X J W (.BinOp a .Sub b pos) (qa && qb) (fTwo qb fa fb (kS (gI fun i j => i - j))) := xe_op op_sub ok_I ha hb
def cDiv (i j : Int) : Bool := decide (j ≠ 0) && decide (j.natAbs < 1073741824)
def cMod (i j : Int) : Bool := decide (j ≠ 0)
def cMul (i j : Int) : Bool := (decide (-(2 ^ 64) < i) && decide (i < 2 ^ 64)) || (decide (-(2 ^ 64) < j) && decide (j < 2 ^ 64))
theorem xe_fdiv (ha : XE X J W a qa fa) (hb : XE X J W b qb fb) : XE X J W (.BinOp a .FloorDiv b pos) (qa && qb) (fTwo qb fa fb (kS (gIc cDiv Int.fdiv))) :=
  xe_op op_fdivN (ok_Ic (C := CDivN) (c := cDiv) fun i j h => by
    have h : (decide (j ≠ 0) && decide (j.natAbs < 1073741824)) = true := h
    rw [Bool.and_eq_true] at h
    exact ⟨of_decide_eq_true h.1, of_decide_eq_true h.2⟩) ha hb
theorem xe_mod (ha : XE X J W a qa fa) (hb : XE X J W b qb fb) : XE X J W (.BinOp a .Mod b pos) (qa && qb) (fTwo qb fa fb (kS (gIc cMod Int.fmod))) :=
  xe_op op_modN (ok_Ic (c := cMod) fun i j h => of_decide_eq_true h) ha hb
def rMulA : R2 := fun x y H Q => (rI CMul fun i j => .int (i * j)) x y H Q ∨ rRep x y H Q
theorem op_mulA : OpR X (binaryOp .Mult) rMulA := op_mul.or op_rep
def cRep (n : Nat) (k : Int) : Bool := decide (-(2 ^ 63) ≤ k) && decide (k < 2 ^ 63) && decide (n * k.toNat ≤ sizeLine)
def kMul : K2 := fun s t ρ => match s.d, t.d with
  | .int i, .int j => grd (cMul i j) (.ok ⟨.shr, .int (i * j)⟩ ρ)
  | .lst xs, .int k => grd (lft s.m xs && cRep xs.length k) (.ok ⟨.own, .lst (List.replicate k.toNat xs).flatten⟩ ρ)
  | _, _ => .bad
theorem ok_mul : Ok2 J W rMulA kMul := by
  rintro ρ τ σ H ⟨ms, ds⟩ ⟨mt, dt⟩ v u Q ⟨F, B, O, I⟩ m
  cases ds with
  | int i =>
    cases dt with
    | int j =>
      obtain ⟨h, m⟩ := out_grd (b := cMul i j) m
      refine .inl ⟨i, j, I.drop1.top.rep I.base, I.top.rep I.base, ?_, out_sc m ⟨F, B, O, I.drop1.drop1⟩ rfl rfl⟩
      have h : ((decide (-(2 ^ 64) < i) && decide (i < 2 ^ 64)) || (decide (-(2 ^ 64) < j) && decide (j < 2 ^ 64))) = true := h
      rw [Bool.or_eq_true, Bool.and_eq_true, Bool.and_eq_true] at h
      exact h.imp (fun z => ⟨of_decide_eq_true z.1, of_decide_eq_true z.2⟩) fun z => ⟨of_decide_eq_true z.1, of_decide_eq_true z.2⟩
    | _ => exact m.elim
  | lst xs =>
    cases dt with
    | int k =>
      obtain ⟨h, m⟩ := out_grd (b := lft ms xs && cRep xs.length k) m
      rw [Bool.and_eq_true] at h
      have h2 : (decide (-(2 ^ 63) ≤ k) && decide (k < 2 ^ 63) && decide (xs.length * k.toNat ≤ sizeLine)) = true := h.2
      rw [Bool.and_eq_true, Bool.and_eq_true] at h2
      obtain ⟨p1, vs, e1, g1, r1⟩ := I.drop1.top.list I.base
      have hu : u = .int k := I.top.rep I.base
      have n1 := r1.len
      exact .inr ⟨p1, k, vs, e1, hu, g1, of_decide_eq_true h2.1.1, of_decide_eq_true h2.1.2, by rw [n1]; exact of_decide_eq_true h2.2, fun p np => m _ _ (I.drop1.drop1.new np ⟨_, rfl, (lft_rep h.1 r1).rep _⟩)⟩
    | _ => exact m.elim
  | _ => cases dt <;> exact m.elim
theorem xe_mul (ha : XE X J W a qa fa) (hb : XE X J W b qb fb) : XE X J W (.BinOp a .Mult b pos) (qa && qb) (fTwo qb fa fb kMul) := xe_op op_mulA ok_mul ha hb
abbrev bLt : Int → Int → Bool := fun i j => decide (i < j)
abbrev bLe : Int → Int → Bool := fun i j => decide (i ≤ j)
abbrev bGt : Int → Int → Bool := fun i j => decide (j < i)
mutual
def toD : Vl → PyData
  | .non => .none
  | .bl b => .bool b
  | .int i => .int i
  | .str s => .str s
  | .lst xs => .list (toDs xs)
  | .tup xs => .tuple (toDs xs)
  | .ins _ _ => .dict []
  | .scr _ => .dict []
def toDs : List Vl → List PyData
  | [] => []
  | x :: xs => toD x :: toDs xs
end
mutual
theorem rep_dp {K : PySem.W.Frag} : ∀ {d : Vl} {v : V}, PyData.canLay0 (toD d) = true → Rep K H d v → Dp K H v (toD d)
  | .non, _, _, r => by cases r; exact .non
  | .bl b, _, _, r => by cases r; exact .bl b
  | .int i, _, _, r => by cases r; exact .int i
  | .str s, _, _, r => by cases r; exact .str s
  | .lst xs, _, h, ⟨p, vs, e, g, r⟩ => by subst e; exact .lst (SqL.of g) (reps_dp (by simpa [toD, PyData.canLay0] using h) r)
  | .tup xs, _, h, ⟨p, vs, e, g, r⟩ => by subst e; exact .tup (SqT.of g) (reps_dp (by simpa [toD, PyData.canLay0] using h) r)
  | .ins _ _, _, h, _ => by simp [toD, PyData.canLay0] at h
  | .scr _, _, h, _ => by simp [toD, PyData.canLay0] at h
theorem reps_dp {K : PySem.W.Frag} : ∀ {ds : List Vl} {vs : List V}, PyData.canLayAll0 (toDs ds) = true → RepL K H ds vs → DpAll K H vs (toDs ds)
  | [], _, _, r => by rw [show _ = [] from r]; exact .nil
  | d :: ds, _, h, ⟨v, t, e, r1, r2⟩ => by
    subst e
    have h' : PyData.canLay0 (toD d) = true ∧ PyData.canLayAll0 (toDs ds) = true := by simpa [toDs, PyData.canLayAll0] using h
    exact .cons (rep_dp h'.1 r1) (reps_dp h'.2 r2)
end
def veq (d e : Vl) : Bool := PyData.eqv (toD d) (toD e)
def cEq (d e : Vl) : Bool := SeqAt.shaped (toD d) && SeqAt.shaped (toD e)
def gEq (d e : Vl) : Option Vl := if cEq d e then some (.bl (veq d e)) else none
def gNe (d e : Vl) : Option Vl := if cEq d e then some (.bl (!veq d e)) else none
theorem ok_Eq (hK : J.K = X.K) : Ok2 J W (rEqD X.K) (kS gEq) := ok_S fun H d1 d2 d v1 v2 Q r1 r2 e q => by
  unfold gEq at e
  by_cases z : cEq d1 d2 = true
  · rw [if_pos z] at e
    cases e
    have z' : (SeqAt.shaped (toD d1) && SeqAt.shaped (toD d2)) = true := z
    rw [Bool.and_eq_true] at z'
    rw [hK] at r1 r2
    exact ⟨_, _, rep_dp (SeqAt.canLay_of_shaped z'.1) r1, rep_dp (SeqAt.canLay_of_shaped z'.2) r2, z'.1, z'.2, q _ rfl⟩
  · rw [if_neg z] at e; cases e
theorem ok_Ne (hK : J.K = X.K) : Ok2 J W (rNeD X.K) (kS gNe) := ok_S fun H d1 d2 d v1 v2 Q r1 r2 e q => by
  unfold gNe at e
  by_cases z : cEq d1 d2 = true
  · rw [if_pos z] at e
    cases e
    have z' : (SeqAt.shaped (toD d1) && SeqAt.shaped (toD d2)) = true := z
    rw [Bool.and_eq_true] at z'
    rw [hK] at r1 r2
    exact ⟨_, _, rep_dp (SeqAt.canLay_of_shaped z'.1) r1, rep_dp (SeqAt.canLay_of_shaped z'.2) r2, z'.1, z'.2, q _ rfl⟩
  · rw [if_neg z] at e; cases e
def gIsB : Vl → Vl → Option Vl
  | .bl a, .bl b => some (.bl (decide (a = b)))
  | _, _ => none
theorem ok_IsB : Ok2 J W rIsB (kS gIsB) := ok_S fun H d1 d2 d v1 v2 Q r1 r2 e q => by
  cases d1 <;> cases d2 <;> first | (cases e; exact ⟨_, _, r1, r2, q _ rfl⟩) | cases e
def eqF : Vl → Vl → Bool
  | .non, .non => true
  | .bl a, .bl b => a == b
  | .bl a, .int b => (if a then 1 else 0) == b
  | .int a, .bl b => a == (if b then 1 else 0)
  | .int a, .int b => a == b
  | .str a, .str b => a == b
  | _, _ => false
end
end MV
namespace MV
open PySem PySem.Spec PyProof.Rows L2
section
variable {X : Cx} {J : Jx} {W : WX} {e a b c : Expr} {es : List Expr} {q qa qb qc qr : Bool} {f fa fb fc : Sem1} {pos : Pos} {τ : List (Sv × V)} {σ : St} {H : Hp} {ρ : En}
theorem RepL.atI {K : PySem.W.Frag} {G : Hp} {xs : List Vl} {vs : List V} (r : RepL K G xs vs) {i : Int} {d : Vl} (h : atI xs i = some d) : ∃ v, L2.atI vs i = some v ∧ Rep K G d v := by
  unfold L2.atI at h ⊢
  rw [r.len]
  cases e : ixN xs.length i with
  | none => rw [e] at h; cases h
  | some j =>
    rw [e] at h
    obtain ⟨v, h1, h2⟩ := r.get (i := j) (x := d) h
    exact ⟨v, h1, h2⟩
def kIx : K2 := fun s t ρ => match s.d, t.d with
  | .lst xs, .int i => (match atI xs i with
    | some d => .ok (mk s.m.kid d) ρ
    | none => .bad)
  | .tup xs, .int i => (match atI xs i with
    | some d => .ok (mk s.m.kid d) ρ
    | none => .bad)
  | .str z, .int i => grd (decide (z.length ≤ sizeLine)) (match atI z.cps.toList i with
    | some c => .ok ⟨.shr, .str ⟨#[c]⟩⟩ ρ
    | none => .bad)
  | _, _ => .bad
theorem ok_ix : Ok2 J W (rIx X.K) kIx := by
  rintro ρ τ σ H ⟨ms, ds⟩ ⟨mt, dt⟩ v u Q ⟨F, B, O, I⟩ m
  cases ds with
  | lst xs =>
    cases dt with
    | int i =>
      have hu : u = .int i := I.top.rep I.base
      obtain ⟨p, vs, e1, g1, r1⟩ := I.drop1.top.list I.base
      have m : Out J W τ σ (match atI xs i with | some d => .ok (mk ms.kid d) ρ | none => .bad) Q := m
      cases z : atI xs i with
      | none => rw [z] at m; exact m.elim
      | some d =>
        rw [z] at m
        obtain ⟨w, h1, h2⟩ := r1.atI z
        exact .inl ⟨p, vs, i, w, e1, hu, SqL.of g1, h1, kid_out I.drop1.drop1 h2 m⟩
    | _ => exact m.elim
  | tup xs =>
    cases dt with
    | int i =>
      have hu : u = .int i := I.top.rep I.base
      obtain ⟨p, vs, e1, g1, r1⟩ := I.drop1.top.tup I.base
      have m : Out J W τ σ (match atI xs i with | some d => .ok (mk ms.kid d) ρ | none => .bad) Q := m
      cases z : atI xs i with
      | none => rw [z] at m; exact m.elim
      | some d =>
        rw [z] at m
        obtain ⟨w, h1, h2⟩ := r1.atI z
        exact .inr (.inl ⟨p, vs, i, w, e1, hu, SqT.of g1, h1, kid_out I.drop1.drop1 h2 m⟩)
    | _ => exact m.elim
  | str y =>
    cases dt with
    | int i =>
      have hu : u = .int i := I.top.rep I.base
      have hv : v = .str y := I.drop1.top.rep I.base
      obtain ⟨h, m⟩ := out_grd (b := decide (y.length ≤ sizeLine)) m
      cases z : atI y.cps.toList i with
      | none => rw [z] at m; exact m.elim
      | some d =>
        rw [z] at m
        exact .inr (.inr ⟨y, i, d, hv, hu, of_decide_eq_true h, z, out_sc m ⟨F, B, O, I.drop1.drop1⟩ rfl rfl⟩)
    | _ => exact m.elim
  | _ => cases dt <;> exact m.elim
theorem xe_idx (ha : XE X J W a qa fa) (hb : XE X J W b qb fb) (hs : PlainIx b := by exact (fun _ _ => rfl)) : XE X J W (.Subscript a b pos) (qa && qb) (fTwo qb fa fb kIx) := xe_ix ix_seq ok_ix ha hb hs
abbrev SemO := En → Rs (Option Int)
def OutO (J : Jx) (W : WX) (τ : List (Sv × V)) (σ : St) (r : Rs (Option Int)) (Q : Option Int → Hp → Prop) : Prop := match r with
  | .ok o ρ => ∀ H, Iv J ρ τ σ H → Q o H
  | .exc c fs ρ => ∀ cls d H, Ix J ρ c fs σ H cls d → W cls d σ H
  | .bad => False
def tO (J : Jx) (W : WX) (q : Bool) (f : SemO) : TO := fun σ H Q => ∃ ρ τ, Iv J ρ τ σ H ∧ (q = true ∨ NoTmp τ) ∧ OutO J W τ σ (f ρ) Q
structure XO (X : Cx) (J : Jx) (W : WX) (e : Option Expr) (q : Bool) (f : SemO) : Prop where
  po : PO X e (tO J W q f)
def fNoP : SemO := fun ρ => .ok none ρ
def kPart : Sv → En → Rs (Option Int) := fun s ρ => match s.d with
  | .int i => .ok (some i) ρ
  | _ => .bad
def fPart (fa : Sem1) : SemO := fun ρ => bnd (fa ρ) kPart
theorem xo_none : XO X J W none true fNoP := by
  refine ⟨⟨fun pins s σ H Q I h => (po_none (X := X)).run pins s σ H Q I ?_⟩⟩
  obtain ⟨ρ, τ, I, c, m⟩ := h
  exact m H I
theorem xo_some (ha : XE X J W a qa fa) : XO X J W (some a) qa (fPart fa) := by
  refine ⟨⟨fun pins s σ H Q I h => (po_some ha.pe).run pins s σ H Q I ?_⟩⟩
  obtain ⟨ρ, τ, I, c, m⟩ := h
  refine ⟨ρ, τ, I, c, ?_⟩
  unfold fPart at m
  cases e : fa ρ with
  | ok s ρ1 =>
    rw [e] at m
    rintro v H1 ⟨F, B, O, I1⟩
    have m : OutO J W τ σ (kPart s ρ1) Q := m
    obtain ⟨md, d⟩ := s
    cases d with
    | int x => exact ⟨x, I1.top.rep I1.base, m H1 ⟨F, B, O, I1.drop1⟩⟩
    | _ => exact m.elim
  | exc cc fs ρ1 => rw [e] at m; exact m
  | bad => rw [e] at m; exact m
def cutD {α : Type} (xs : List α) (lo hi : Option Int) : List α := (xs.drop (HT.sIx xs.length 0 lo)).take (HT.sIx xs.length xs.length hi - HT.sIx xs.length 0 lo)
theorem RepL.cut {K : PySem.W.Frag} {G : Hp} {xs : List Vl} {vs : List V} (r : RepL K G xs vs) (lo hi : Option Int) : RepL K G (cutD xs lo hi) (cutV vs lo hi) := by
  unfold cutD cutV
  rw [r.len]
  exact (r.drop _).take _
def kSl (s : Sv) (lo hi : Option Int) (ρ : En) : Rs Sv := match s.d with
  | .lst xs => grd (lft s.m xs) (.ok ⟨.own, .lst (cutD xs lo hi)⟩ ρ)
  | .scr ns => .ok ⟨.own, .lst (cutD (ns.map Vl.int) lo hi)⟩ ρ
  | .str z => grd (decide (z.length ≤ sizeLine)) (.ok ⟨.shr, .str (cutS z lo hi)⟩ ρ)
  | _ => .bad
def fSl (ql qh : Bool) (fa : Sem1) (fl fh : SemO) : Sem1 := fun ρ => bnd (fa ρ) fun s ρ1 => grd (held s.m (ql && qh)) (bnd (fl ρ1) fun l ρ2 => bnd (fh ρ2) fun h ρ3 => kSl s l h ρ3)
def rSlA (K : PySem.W.Frag) : V → Option Int → Option Int → Hp → VK → Prop := fun x lo hi H Q => rSlL K x lo hi H Q ∨ rSlS x lo hi H Q
theorem sl_A : SlR X (rSlA X.K) := sl_list.or sl_str
theorem sl_ok {s : Sv} {v : V} {lo hi : Option Int} {Q : VK} (hK : J.K = X.K) (I : Iv J ρ ((s, v) :: τ) σ H) (m : Out J W τ σ (kSl s lo hi ρ) Q) : rSlA X.K v lo hi H Q := by
  obtain ⟨F, B, O, I⟩ := I
  obtain ⟨md, d⟩ := s
  cases d with
  | lst xs =>
    obtain ⟨h, m⟩ := out_grd (b := lft md xs) m
    obtain ⟨p, vs, e, g, r⟩ := I.top.list I.base
    exact .inl ⟨p, vs, e, SqL.of g, fun y ny => m _ _ (I.drop1.new ny ⟨_, rfl, (lft_rep h r).cut lo hi⟩)⟩
  | scr ns =>
    obtain ⟨p, e, g⟩ := I.top.rep I.base
    exact .inl ⟨p, _, e, hK ▸ g, fun y ny => m _ _ (I.drop1.new ny ⟨_, rfl, (repL_of_ints ns).cut lo hi⟩)⟩
  | str z =>
    obtain ⟨h, m⟩ := out_grd (b := decide (z.length ≤ sizeLine)) m
    exact .inr ⟨z, I.top.rep I.base, of_decide_eq_true h, out_sc m ⟨F, B, O, I.drop1⟩ rfl rfl⟩
  | _ => exact m.elim
theorem xe_sl {lo hi : Option Expr} {ql qh : Bool} {fl fh : SemO} {p2 : Pos} (hK : J.K = X.K) (ha : XE X J W a qa fa) (hl : XO X J W lo ql fl) (hu : XO X J W hi qh fh) : XE X J W (.Subscript a (.Slice lo hi none p2) pos) (qa && (ql && qh)) (fSl ql qh fa fl fh) := by
  refine ⟨(pe_slice sl_A ha.pe hl.po hu.po).imp fun σ H Q h => ?_⟩
  obtain ⟨ρ, τ, I, c, m⟩ := h
  refine ⟨ρ, τ, I, (qand c).1, ?_⟩
  unfold fSl at m
  cases e : fa ρ with
  | ok s ρ1 =>
    rw [e] at m
    intro v H1 I1
    obtain ⟨m, hq⟩ := grd_out (s := s) (qb := ql && qh) m
    have c2 : (ql && qh) = true ∨ NoTmp ((s, v) :: τ) := by
      rcases c with z | z
      · exact .inl (Bool.and_eq_true_iff.mp z).2
      · exact hq.imp id fun y => z.cons y
    refine ⟨ρ1, _, I1, (qand c2).1, ?_⟩
    cases e2 : fl ρ1 with
    | ok l ρ2 =>
      rw [e2] at m
      intro H2 I2
      refine ⟨ρ2, _, I2, (qand c2).2, ?_⟩
      have m : Out J W τ σ (bnd (fh ρ2) fun h ρ3 => kSl s l h ρ3) Q := m
      cases e3 : fh ρ2 with
      | ok h ρ3 => rw [e3] at m; exact fun H3 I3 => sl_ok hK I3 m
      | exc cc fs ρ1 => rw [e3] at m; exact m
      | bad => rw [e3] at m; exact m
    | exc cc fs ρ1 => rw [e2] at m; exact m
    | bad => rw [e2] at m; exact m
  | exc cc fs ρ1 => rw [e] at m; exact m
  | bad => rw [e] at m; exact m
def fFrz (fa : Sem1) : Sem1 := fun ρ => bnd (fa ρ) fun s ρ1 => match s.m with
  | .own => .ok ⟨.shr, s.d⟩ ρ1
  | .shr => .ok s ρ1
  | _ => .bad
theorem xe_frz (ha : XE X J W a qa fa) : XE X J W a qa (fFrz fa) := by
  refine ⟨ha.pe.imp fun σ H Q h => ?_⟩
  obtain ⟨ρ, τ, I, c, m⟩ := h
  refine ⟨ρ, τ, I, c, ?_⟩
  unfold fFrz at m
  cases e : fa ρ with
  | ok s ρ1 =>
    rw [e] at m
    rintro v H1 ⟨F, B, O, I1⟩
    obtain ⟨md, d⟩ := s
    cases md with
    | own => exact m v H1 I1.frz
    | shr => exact m v H1 ⟨F, B, O, I1⟩
    | _ => exact m.elim
  | exc cc fs ρ1 => rw [e] at m; exact m
  | bad => rw [e] at m; exact m
inductive Ar where
  | ex (s : Sv)
  | sl (i : Nat)
def Stk (σ : St) : List Ar → List V → List (Sv × V) → List (Sv × V) → Prop
  | [], [], τ, τ' => τ' = τ
  | .ex s :: as, v :: vs, τ, τ' => Stk σ as vs ((s, v) :: τ) τ'
  | .sl i :: as, v :: vs, τ, τ' => σ[i]? = some (some v) ∧ Stk σ as vs τ τ'
  | _, _, _, _ => False
abbrev SemA := En → Rs (List Ar)
def OutA (J : Jx) (W : WX) (τ : List (Sv × V)) (σ : St) (r : Rs (List Ar)) (Q : List V → Hp → Prop) : Prop := match r with
  | .ok as ρ => ∀ vs τ' H, Stk σ as vs τ τ' → Iv J ρ τ' σ H → Q vs H
  | .exc c fs ρ => ∀ cls d H, Ix J ρ c fs σ H cls d → W cls d σ H
  | .bad => False
def tA (J : Jx) (W : WX) (q : Bool) (f : SemA) : TA := fun σ H Q => ∃ ρ τ, Iv J ρ τ σ H ∧ (q = true ∨ NoTmp τ) ∧ OutA J W τ σ (f ρ) Q
structure XA (X : Cx) (J : Jx) (W : WX) (es : List Expr) (q : Bool) (f : SemA) : Prop where
  pa : PA X es (tA J W q f)
theorem _root_.L2.PA.imp {X : Cx} {es : List Expr} {t t' : TA} (h : PA X es t) (i : ∀ σ H Q, t' σ H Q → t σ H Q) : PA X es t' := ⟨fun pos pins s σ H Q I q => h.run pos pins s σ H Q I (i σ H Q q)⟩
def aNil : SemA := fun ρ => .ok [] ρ
def aEx (fa : Sem1) (fr : SemA) : SemA := fun ρ => bnd (fa ρ) fun s ρ1 => grd (!s.m.isT) (bnd (fr ρ1) fun as ρ2 => .ok (.ex s :: as) ρ2)
def asg (ρ : En) (i : Nat) : Bool := match ρ[i]? with
  | some (some _) => true
  | _ => false
def aSl (i : Nat) (fr : SemA) : SemA := fun ρ => grd (asg ρ i) (bnd (fr ρ) fun as ρ2 => .ok (.sl i :: as) ρ2)
theorem xa_nil : XA X J W [] true aNil := ⟨pa_nil.imp fun σ H Q ⟨ρ, τ, I, c, m⟩ => m [] τ H rfl I⟩
theorem xa_ex {fr : SemA} (ha : XE X J W a qa fa) (hr : XA X J W es qr fr) (hs : starEach (a :: es) X.env = (false, eval a X.env) :: starEach es X.env := by rfl) : XA X J W (a :: es) (qa && qr) (aEx fa fr) := by
  refine ⟨(pa_cons ha.pe hr.pa hs).imp fun σ H Q h => ?_⟩
  obtain ⟨ρ, τ, I, c, m⟩ := h
  refine ⟨ρ, τ, I, (qand c).1, ?_⟩
  unfold aEx at m
  cases e : fa ρ with
  | ok s ρ1 =>
    rw [e] at m
    intro v H1 I1
    have m2 : OutA J W τ σ (bnd (fr ρ1) fun as ρ2 => .ok (.ex s :: as) ρ2) Q ∧ s.m ≠ .tmp := by
      obtain ⟨md, d⟩ := s
      cases md <;> first | exact m.elim | exact ⟨m, fun z => nomatch z⟩
    refine ⟨ρ1, _, I1, (qand c).2.imp id fun z => z.cons m2.2, ?_⟩
    have m := m2.1
    cases e2 : fr ρ1 with
    | ok as ρ2 => rw [e2] at m; exact fun vs τ' H2 k I2 => m (v :: vs) τ' H2 k I2
    | exc cc fs ρ1 => rw [e2] at m; exact m
    | bad => rw [e2] at m; exact m
  | exc cc fs ρ1 => rw [e] at m; exact m
  | bad => rw [e] at m; exact m
theorem xa_sl {fr : SemA} {i : Nat} {x : Str} {p : Pos} (hN : X.N[i]? = some x) (hv : Vis X.env.scope x) (hr : XA X J W es qr fr) (hs : starEach (.Name x p :: es) X.env = (false, eval (.Name x p) X.env) :: starEach es X.env := by rfl)
    (hd : (x == ("__debug__" : Str)) = false := by decide) (hcd : (x == ("__classdict__" : Str)) = false := by decide) : XA X J W (.Name x p :: es) qr (aSl i fr) := by
  refine ⟨(pa_cons (pe_var hN hv hd hcd) hr.pa hs).imp fun σ H Q h => ?_⟩
  obtain ⟨ρ, τ, ⟨F, B, O, I⟩, c, m⟩ := h
  unfold aSl asg at m
  cases e : ρ[i]? with
  | none => rw [e] at m; exact m.elim
  | some o =>
    cases o with
    | none => rw [e] at m; exact m.elim
    | some s =>
      rw [e] at m
      obtain ⟨_, v, e1, _⟩ := I.slot i s e
      refine ⟨v, e1, ρ, τ, ⟨F, B, O, I⟩, c, ?_⟩
      have m : OutA J W τ σ (bnd (fr ρ) fun as ρ2 => .ok (.sl i :: as) ρ2) Q := m
      cases e2 : fr ρ with
      | ok as ρ2 => rw [e2] at m; exact fun vs τ' H2 k I2 => m (v :: vs) τ' H2 ⟨e1, k⟩ I2
      | exc cc fs ρ1 => rw [e2] at m; exact m
      | bad => rw [e2] at m; exact m
def frzAll : List Ar → Option (List Vl)
  | [] => some []
  | .ex ⟨.shr, d⟩ :: as => (frzAll as).map (d :: ·)
  | _ => none
theorem frzAll_rep {F B : Hp} {O : Addr → Option Ow} : ∀ {as : List Ar} {ds : List Vl} {vs : List V} {τ τ' : List (Sv × V)}, frzAll as = some ds → Stk σ as vs τ τ' → IvW J F B O ρ τ' σ H → IvW J F B O ρ τ σ H ∧ RepL J.K F ds vs
  | [], _, [], _, _, e, k, I => by
    cases e
    rw [show _ = _ from k] at I
    exact ⟨I, rfl⟩
  | [], _, _ :: _, _, _, _, k, _ => k.elim
  | .ex ⟨.shr, d⟩ :: as, _, v :: vs, τ, τ', e, k, I => by
    have e' : (frzAll as).map (d :: ·) = some _ := e
    obtain ⟨ds, e1, e2⟩ := Option.map_eq_some_iff.mp e'
    subst e2
    obtain ⟨I1, r⟩ := frzAll_rep e1 (show Stk σ as vs ((⟨.shr, d⟩, v) :: τ) τ' from k) I
    exact ⟨I1.drop1, v, vs, rfl, I1.top, r⟩
  | .ex ⟨.shr, d⟩ :: as, _, [], _, _, _, k, _ => k.elim
  | .ex ⟨.own, d⟩ :: as, _, _, _, _, e, _, _ => by cases e
  | .ex ⟨.io, d⟩ :: as, _, _, _, _, e, _, _ => by cases e
  | .ex ⟨.tmp, d⟩ :: as, _, _, _, _, e, _, _ => by cases e
  | .ex ⟨.bor, d⟩ :: as, _, _, _, _, e, _, _ => by cases e
  | .sl i :: as, _, _, _, _, e, _, _ => by cases e
def kLst (as : List Ar) (ρ : En) : Rs Sv := match frzAll as with
  | some ds => grd (decide (ds.length ≤ 1000)) (.ok ⟨.own, .lst ds⟩ ρ)
  | none => .bad
def fLst (f : SemA) : Sem1 := fun ρ => bnd (f ρ) kLst
theorem thousand {n : Nat} (h : n ≤ 1000) : n ≤ sizeLine := Nat.le_trans h (by decide)
theorem xe_lst {f : SemA} (h : XA X J W es q f) : XE X J W (.List es pos) q (fLst f) := by
  refine ⟨(pe_lst h.pa).imp fun σ H Q h => ?_⟩
  obtain ⟨ρ, τ, I, c, m⟩ := h
  refine ⟨ρ, τ, I, c, ?_⟩
  unfold fLst at m
  cases e : f ρ with
  | ok as ρ1 =>
    rw [e] at m
    rintro vs τ' H1 k ⟨F, B, O, I1⟩
    have m : Out J W τ σ (kLst as ρ1) Q := m
    unfold kLst at m
    cases z : frzAll as with
    | none => rw [z] at m; exact m.elim
    | some ds =>
      rw [z] at m
      obtain ⟨h, m⟩ := out_grd (b := decide (ds.length ≤ 1000)) m
      obtain ⟨I2, r⟩ := frzAll_rep z k I1
      exact ⟨by rw [r.len]; exact thousand (of_decide_eq_true h), fun p np => m _ _ (I2.new np ⟨_, rfl, r⟩)⟩
  | exc cc fs ρ1 => rw [e] at m; exact m
  | bad => rw [e] at m; exact m
theorem xe_bi1 {x : Str} {id : String} {r : List V → Hp → VK → Prop} {k : K1} {p : Pos} (hc : CallR X (.builtin id) r) (hk : Ok1 J W (fun v => r [v]) k) (hg : Gl X x) (hm : X.mg x = none) (hv : bootBuiltins x = some (.builtin id)) (ha : XE X J W a qa fa)
    (hn : x ≠ "__name__" := by decide) (hdb : (x == ("__debug__" : Str)) = false := by decide) (he : starEach [a] X.env = (false, eval a X.env) :: starEach [] X.env := by rfl) (hpl : (backTo pos (starEach [] X.env)).any (·.1) = false := by rfl) : XE X J W (.Call (.Name x p) [a] [] pos) qa (fOne fa k) :=
  ⟨(pe_callB hc hg hm hv (pa_cons ha.pe pa_nil he) hn hdb he hpl).imp fun σ H Q h => tE_one (fun _ _ _ _ _ I _ _ _ o h => o _ _ _ _ _ _ _ I h) hk h⟩
theorem xe_ty1 {x : Str} {T : String} {r : List V → Hp → VK → Prop} {k : K1} {p : Pos} (hc : CallR X (.type T) r) (hk : Ok1 J W (fun v => r [v]) k) (hg : Gl X x) (hm : X.mg x = none) (hv : bootBuiltins x = some (.type T)) (ha : XE X J W a qa fa)
    (hn : x ≠ "__name__" := by decide) (hdb : (x == ("__debug__" : Str)) = false := by decide) (he : starEach [a] X.env = (false, eval a X.env) :: starEach [] X.env := by rfl) (hpl : (backTo pos (starEach [] X.env)).any (·.1) = false := by rfl) : XE X J W (.Call (.Name x p) [a] [] pos) qa (fOne fa k) :=
  ⟨(pe_callTy hc hg hm hv (pa_cons ha.pe pa_nil he) hn hdb he hpl).imp fun σ H Q h => tE_one (fun _ _ _ _ _ I _ _ _ o h => o _ _ _ _ _ _ _ I h) hk h⟩
def gLen : Vl → Option Vl
  | .lst xs => some (.int xs.length)
  | .tup xs => some (.int xs.length)
  | .str s => if s.length ≤ sizeLine then some (.int s.length) else none
  | _ => none
theorem ok_len : Ok1 J W (fun v H Q => ∃ x n, [v] = [x] ∧ LenV X.K x H n ∧ Q (.int n) H) (kS1 gLen) := ok_S1 fun H d1 d v Q r e q => by
  cases d1 with
  | lst xs =>
    cases e
    obtain ⟨p, vs, e, g, r⟩ := r
    subst e
    exact ⟨_, vs.length, rfl, .inl ⟨vs, SqL.of g, rfl⟩, q _ (by rw [r.len]; rfl)⟩
  | tup xs =>
    cases e
    obtain ⟨p, vs, e, g, r⟩ := r
    subst e
    exact ⟨_, vs.length, rfl, .inr ⟨vs, SqT.of g, rfl⟩, q _ (by rw [r.len]; rfl)⟩
  | str s =>
    have e' : (if s.length ≤ sizeLine then some (Vl.int s.length) else none) = some d := e
    by_cases z : s.length ≤ sizeLine
    · rw [if_pos z] at e'
      cases e'
      have hv : v = .str s := r
      subst hv
      exact ⟨_, s.length, rfl, ⟨z, rfl⟩, q _ rfl⟩
    · rw [if_neg z] at e'; cases e'
  | _ => cases e
def gInt : Vl → Option Vl
  | .int i => some (.int i)
  | .bl b => some (.int (if b then 1 else 0))
  | _ => none
theorem ok_int : Ok1 J W (fun v H Q => (∃ i, [v] = [V.int i] ∧ Q (.int i) H) ∨ ∃ k, [v] = [V.bl k] ∧ Q (.int (if k then 1 else 0)) H) (kS1 gInt) := ok_S1 fun H d1 d v Q r e q => by
  cases d1 with
  | int i => cases e; exact .inl ⟨i, by rw [show v = .int i from r], q _ rfl⟩
  | bl i => cases e; exact .inr ⟨i, by rw [show v = .bl i from r], q _ rfl⟩
  | _ => cases e
def gAbs : Vl → Option Vl
  | .int i => some (.int (if i < 0 then -i else i))
  | _ => none
theorem ok_abs : Ok1 J W (fun v H Q => ∃ i, [v] = [V.int i] ∧ Q (.int (if i < 0 then -i else i)) H) (kS1 gAbs) := ok_S1 fun H d1 d v Q r e q => by
  cases d1 with
  | int i => cases e; exact ⟨i, by rw [show v = .int i from r], q _ rfl⟩
  | _ => cases e
def iL : List Vl → Option (List Int)
  | [] => some []
  | .int i :: xs => (iL xs).map (i :: ·)
  | _ => none
theorem iL_map (ns : List Int) : iL (ns.map Vl.int) = some ns := by
  induction ns with
  | nil => rfl
  | cons n ns ih => show (iL (ns.map Vl.int)).map (n :: ·) = _; rw [ih]; rfl
theorem iL_eq : ∀ {xs : List Vl} {ns : List Int}, iL xs = some ns → xs = ns.map Vl.int
  | [], _, e => by cases e; rfl
  | .int i :: xs, _, e => by
    obtain ⟨ns, e1, e2⟩ := Option.map_eq_some_iff.mp (show (iL xs).map (i :: ·) = some _ from e)
    subst e2
    rw [iL_eq e1]; rfl
  | .non :: _, _, e => by cases e
  | .bl _ :: _, _, e => by cases e
  | .str _ :: _, _, e => by cases e
  | .lst _ :: _, _, e => by cases e
  | .tup _ :: _, _, e => by cases e
  | .ins _ _ :: _, _, e => by cases e
  | .scr _ :: _, _, e => by cases e
def maxL : List Int → Int
  | [] => 0
  | [n] => n
  | n :: ns => max n (maxL ns)
theorem maxL_cons (n : Int) (ns : List Int) (h : ns ≠ []) : maxL (n :: ns) = max n (maxL ns) := by
  cases ns with
  | nil => exact absurd rfl h
  | cons _ _ => rfl
theorem maxL_mem : ∀ {ns : List Int}, ns ≠ [] → maxL ns ∈ ns ∧ ∀ n ∈ ns, n ≤ maxL ns
  | [], h => absurd rfl h
  | [n], _ => ⟨List.mem_singleton.mpr rfl, fun m hm => by rw [List.mem_singleton.mp hm]; exact Int.le_refl _⟩
  | n :: m :: ns, _ => by
    obtain ⟨h1, h2⟩ := maxL_mem (ns := m :: ns) (List.cons_ne_nil _ _)
    rw [maxL_cons _ _ (List.cons_ne_nil _ _)]
    refine ⟨?_, fun k hk => ?_⟩
    · rcases Int.le_total n (maxL (m :: ns)) with h | h
      · rw [Int.max_eq_right h]; exact List.mem_cons_of_mem _ h1
      · rw [Int.max_eq_left h]; exact List.mem_cons_self
    · rcases List.mem_cons.mp hk with e | e
      · rw [e]; exact Int.le_max_left _ _
      · exact Int.le_trans (h2 k e) (Int.le_max_right _ _)
def gSum : Vl → Option Vl
  | .lst xs => (iL xs).map fun ns => .int ns.sum
  | .tup xs => (iL xs).map fun ns => .int ns.sum
  | _ => none
def rSumA (K : PySem.W.Frag) : List V → Hp → VK → Prop := fun vs H Q => ∃ (a : Addr) (ns : List Int), vs = [V.ref a] ∧ (SqL K H a (ns.map V.int) ∨ SqT K H a (ns.map V.int)) ∧ Q (.int ns.sum) H
theorem cr_sumA {X : Cx} (hc : X.calm = true) : CallR X (.builtin "sum") (rSumA X.K) := by
  intro pins s σ H vs us Q I r h
  obtain ⟨a, ns, rfl, hs | hs, q⟩ := h
  · exact cr_sum hc pins s σ H _ us Q I r ⟨a, ns, rfl, hs, q⟩
  · obtain ⟨its, rv, ht, _⟩ := I.tuple hs
    rw [Vals.ref1 r]
    obtain ⟨xs, e⟩ := rv.ints.allInts.items
    have hn : numsOf (intItems xs).toList = ns := by rw [← e]; exact rv.ints.numsOf
    rw [nums_intItems] at hn
    rw [e] at ht
    refine PySem.W.ktm_sumG (I.ok.hd hc) ht fun h' tk t' hk => ?_
    rw [preSum_eq, List.take_of_length_le (by simp), hn]
    exact ⟨.int _, H, I.kept hk, ⟨_, rfl⟩, q⟩
theorem ok_sum : Ok1 J W (fun v => rSumA X.K [v]) (kS1 gSum) := ok_S1 fun H d1 d v Q r e q => by
  cases d1 with
  | lst xs =>
    obtain ⟨ns, e1, e2⟩ := Option.map_eq_some_iff.mp (show (iL xs).map _ = some d from e)
    subst e2
    obtain ⟨p, vs, ev, g, r⟩ := r
    rw [iL_eq e1] at r
    rw [repL_ints r] at g
    exact ⟨p, ns, by rw [ev], .inl (SqL.of g), q _ rfl⟩
  | tup xs =>
    obtain ⟨ns, e1, e2⟩ := Option.map_eq_some_iff.mp (show (iL xs).map _ = some d from e)
    subst e2
    obtain ⟨p, vs, ev, g, r⟩ := r
    rw [iL_eq e1] at r
    rw [repL_ints r] at g
    exact ⟨p, ns, by rw [ev], .inr (SqT.of g), q _ rfl⟩
  | _ => cases e
def kListOf : K1 := fun s ρ => match s.d with
  | .lst xs => grd (lft s.m xs) (.ok ⟨.own, .lst xs⟩ ρ)
  | .tup xs => grd (lft s.m xs) (.ok ⟨.own, .lst xs⟩ ρ)
  | _ => .bad
theorem ok_listOf : Ok1 J W (fun v H Q => ∃ p ys, [v] = [V.ref p] ∧ (SqL X.K H p ys ∨ SqT X.K H p ys) ∧ ∀ l, H l = none → Q (.ref l) (upd H l (.lst ys))) kListOf := by
  rintro ρ τ σ H ⟨md, d⟩ v Q ⟨F, B, O, I⟩ m
  cases d with
  | lst xs =>
    obtain ⟨h, m⟩ := out_grd (b := lft md xs) m
    obtain ⟨p, vs, e, g, r⟩ := I.top.list I.base
    exact ⟨p, vs, by rw [e], .inl (SqL.of g), fun l nl => m _ _ (I.drop1.new nl ⟨_, rfl, lft_rep h r⟩)⟩
  | tup xs =>
    obtain ⟨h, m⟩ := out_grd (b := lft md xs) m
    obtain ⟨p, vs, e, g, r⟩ := I.top.tup I.base
    exact ⟨p, vs, by rw [e], .inr (SqT.of g), fun l nl => m _ _ (I.drop1.new nl ⟨_, rfl, lft_rep h r⟩)⟩
  | _ => exact m.elim
def kTupOf : K1 := fun s ρ => match s.d with
  | .lst xs => grd (lft s.m xs) (.ok ⟨.shr, .tup xs⟩ ρ)
  | .tup xs => (match s.m with
    | .shr => .ok ⟨.shr, .tup xs⟩ ρ
    | _ => .bad)
  | _ => .bad
theorem ok_tupOf : Ok1 J W (fun v H Q => ∃ p ys, [v] = [V.ref p] ∧ ((SqL X.K H p ys ∧ ∀ l, H l = none → Q (.ref l) (upd H l (.tup ys))) ∨ (SqT X.K H p ys ∧ Q (.ref p) H))) kTupOf := by
  rintro ρ τ σ H ⟨md, d⟩ v Q ⟨F, B, O, I⟩ m
  cases d with
  | lst xs =>
    obtain ⟨h, m⟩ := out_grd (b := lft md xs) m
    obtain ⟨p, vs, e, g, r⟩ := I.top.list I.base
    exact ⟨p, vs, by rw [e], .inl ⟨SqL.of g, fun l nl => m _ _ (I.drop1.newF nl ⟨l, vs, rfl, upd_same, (lft_rep h r).mono (upd_sub (I.base.freeF (I.base.freeB nl)))⟩)⟩⟩
  | tup xs =>
    cases md with
    | shr =>
      obtain ⟨p, vs, e, g, r⟩ := I.top.tup I.base
      have t := I.top
      subst e
      exact ⟨p, vs, rfl, .inr ⟨SqT.of g, m _ _ ⟨F, B, O, I.base, I.len, I.slot, t, I.drop1.temp⟩⟩⟩
    | _ => exact m.elim
  | _ => exact m.elim
end
end MV
namespace MV
open PySem PySem.Spec PyProof.Rows L2
inductive Sr where
  | next (ρ : En)
  | brk (ρ : En)
  | cont (ρ : En)
  | ret (s : Sv) (ρ : En)
  | exc (c : Str) (fs : List (Str × Vl)) (ρ : En)
  | bad
abbrev SemS := En → Sr
def bndS {α : Type} (r : Rs α) (k : α → En → Sr) : Sr := match r with
  | .ok a ρ => k a ρ
  | .exc c fs ρ => .exc c fs ρ
  | .bad => .bad
def grdS (b : Bool) (r : Sr) : Sr := match b with
  | true => r
  | false => .bad
def OutS (J : Jx) (W : WX) (τ : List (Sv × V)) (r : Sr) (D : Ends) : Prop := match r with
  | .next ρ => ∀ σ H, Iv J ρ τ σ H → D.nx σ H
  | .brk ρ => ∀ σ H, Iv J ρ τ σ H → D.bk σ H
  | .cont ρ => ∀ σ H, Iv J ρ τ σ H → D.ct σ H
  | .ret s ρ => ∀ v σ H, Iv J ρ ((s, v) :: τ) σ H → D.rt v H
  | .exc c fs ρ => ∀ cls d σ H, Ix J ρ c fs σ H cls d → W cls d σ H
  | .bad => False
def tS (J : Jx) (W : WX) (f : SemS) : TS := fun D σ H => ∃ ρ τ, Iv J ρ τ σ H ∧ NoTmp τ ∧ OutS J W τ (f ρ) D
structure XS (X : Cx) (J : Jx) (W : WX) (st : Stmt) (f : SemS) : Prop where
  ps : PS X st (tS J W f)
structure XB (X : Cx) (J : Jx) (W : WX) (sts : List Stmt) (f : SemS) : Prop where
  pss : PSs X sts (tS J W f)
theorem _root_.L2.PS.imp {X : Cx} {e : Stmt} {t t' : TS} (h : PS X e t) (i : ∀ σ H Q, t' Q σ H → t Q σ H) : PS X e t' := ⟨fun pins s σ H Q I q => h.run pins s σ H Q I (i σ H Q q)⟩
theorem _root_.L2.PSs.imp {X : Cx} {e : List Stmt} {t t' : TS} (h : PSs X e t) (i : ∀ σ H Q, t' Q σ H → t Q σ H) : PSs X e t' := ⟨fun pins s σ H Q I q => h.run pins s σ H Q I (i σ H Q q)⟩
theorem outS_grd {J : Jx} {W : WX} {τ : List (Sv × V)} {b : Bool} {r : Sr} {D : Ends} (m : OutS J W τ (grdS b r) D) : b = true ∧ OutS J W τ r D := by
  cases b with
  | true => exact ⟨rfl, m⟩
  | false => exact m.elim
section
variable {X : Cx} {J : Jx} {W : WX} {e a b c : Expr} {es : List Expr} {st : Stmt} {sts body orelse : List Stmt} {q qa qb qc qr : Bool} {fa fb fc : Sem1} {f g : SemS} {gc : SemB} {pos : Pos} {τ : List (Sv × V)} {σ : St} {H : Hp} {ρ : En}
theorem outS_bnd {r : Rs Sv} {k : Sv → En → Sr} {D : Ends} {Q : VK} (m : OutS J W τ (bndS r k) D) (h : ∀ s ρ1, OutS J W τ (k s ρ1) D → ∀ v H1, Iv J ρ1 ((s, v) :: τ) σ H1 → Q v H1) : Out J W τ σ r Q := by
  cases r with
  | ok s ρ1 => exact fun v H1 I1 => h s ρ1 m v H1 I1
  | exc c fs ρ1 => exact fun cls d H1 => m cls d σ H1
  | bad => exact m
theorem outS_bndB {r : Rs Bool} {k : Bool → En → Sr} {D : Ends} {Q : Bool → Hp → Prop} (m : OutS J W τ (bndS r k) D) (h : ∀ s ρ1, OutS J W τ (k s ρ1) D → ∀ H1, Iv J ρ1 τ σ H1 → Q s H1) : OutB J W τ σ r Q := by
  cases r with
  | ok s ρ1 => exact fun H1 I1 => h s ρ1 m H1 I1
  | exc c fs ρ1 => exact fun cls d H1 => m cls d σ H1
  | bad => exact m
def sNil : SemS := fun ρ => .next ρ
def sSeq (f g : SemS) : SemS := fun ρ => match f ρ with
  | .next ρ1 => g ρ1
  | r => r
theorem xb_nil : XB X J W [] sNil := ⟨pss_nil.imp fun σ H D ⟨ρ, τ, I, c, m⟩ => m σ H I⟩
theorem xb_cons (h1 : XS X J W st f) (h2 : XB X J W sts g) : XB X J W (st :: sts) (sSeq f g) := by
  refine ⟨(pss_cons h1.ps h2.pss).imp fun σ H D h => ?_⟩
  obtain ⟨ρ, τ, I, c, m⟩ := h
  refine ⟨ρ, τ, I, c, ?_⟩
  unfold sSeq at m
  cases e : f ρ with
  | next ρ1 => rw [e] at m; exact fun σ1 H1 I1 => ⟨ρ1, τ, I1, c, m⟩
  | brk ρ1 => rw [e] at m; exact m
  | cont ρ1 => rw [e] at m; exact m
  | ret s ρ1 => rw [e] at m; exact m
  | exc cc fs ρ1 => rw [e] at m; exact m
  | bad => rw [e] at m; exact m
theorem xb_one (h1 : XS X J W st f) : XB X J W [st] f := ⟨pss_one h1.ps⟩
def sExpr (fa : Sem1) : SemS := fun ρ => bndS (fa ρ) fun _ ρ1 => .next ρ1
theorem xs_expr (ha : XE X J W a qa fa) (hs : swapsWith a none pos.line X.env = pure false := by rfl) : XS X J W (.Expr a pos) (sExpr fa) := by
  refine ⟨(ps_expr ha.pe hs).imp fun σ H D h => ?_⟩
  obtain ⟨ρ, τ, I, c, m⟩ := h
  exact ⟨ρ, τ, I, .inr c, outS_bnd m fun s ρ1 m1 v H1 I1 => m1 σ H1 I1.drop1⟩
def sRet (fa : Sem1) : SemS := fun ρ => bndS (fa ρ) fun s ρ1 => .ret s ρ1
theorem xs_ret (ha : XE X J W a qa fa) : XS X J W (.Return (some a) pos) (sRet fa) := by
  refine ⟨(ps_ret ha.pe).imp fun σ H D h => ?_⟩
  obtain ⟨ρ, τ, I, c, m⟩ := h
  exact ⟨ρ, τ, I, .inr c, outS_bnd m fun s ρ1 m1 v H1 I1 => m1 v σ H1 I1⟩
def sIf (gc : SemB) (f g : SemS) : SemS := fun ρ => bndS (gc ρ) fun x ρ1 => match x with
  | true => f ρ1
  | false => g ρ1
theorem xs_if (hc : XT X J W c qc gc) (hf : XB X J W body f) (hg : XB X J W orelse g) : XS X J W (.If c body orelse pos) (sIf gc f g) := by
  refine ⟨(ps_if hc.pt hf.pss hg.pss).imp fun σ H D h => ?_⟩
  obtain ⟨ρ, τ, I, cc, m⟩ := h
  refine ⟨ρ, τ, I, .inr cc, outS_bndB m fun x ρ1 m1 H1 I1 => ?_⟩
  cases x with
  | true => rw [if_pos rfl]; exact ⟨ρ1, τ, I1, cc, m1⟩
  | false => rw [if_neg Bool.false_ne_true]; exact ⟨ρ1, τ, I1, cc, m1⟩
def noIo (ρ : En) (i : Nat) : Bool := match ρ[i]? with
  | some (some ⟨.io, _⟩) => false
  | _ => true
def sto (m : Md) : Bool := match m with
  | .own => true
  | .bor => true
  | .shr => true
  | _ => false
theorem SR.reown {F B H : Hp} {O : Addr → Option Ow} {k k' : Nat} {s : Sv} {v : V} (h : SR J F B H O (.inr k) s v) : ∃ O' : Addr → Option Ow, SR J F B H O' (.inr k') s v ∧ ∀ a ow, O a = some ow → ow ≠ .inr k → O' a = some ow := by
  obtain ⟨m, d⟩ := s
  cases m with
  | own =>
    obtain ⟨p, o, ev, g, r, qo, n, z⟩ := h
    refine ⟨fun b => if b = p then some (.inr k') else O b, ⟨p, o, ev, g, r, if_pos rfl, n, z⟩, fun a ow e h1 => ?_⟩
    by_cases c : a = p
    · subst c; rw [qo] at e; exact absurd (Option.some.inj e).symm h1
    · exact (if_neg c).trans e
  | io =>
    obtain ⟨p, o, ev, g, r, qo, n, i, z, _⟩ := h
    cases z
  | tmp => exact ⟨O, h, fun a ow e _ => e⟩
  | bor => exact ⟨O, h, fun a ow e _ => e⟩
  | shr => exact ⟨O, h, fun a ow e _ => e⟩
theorem SR.move {F B H : Hp} {O O' : Addr → Option Ow} {ow : Ow} {s : Sv} {v : V} {k : Nat} (h : SR J F B H O ow s v) (no : ow ≠ .inr k) (f : ∀ a ow, O a = some ow → ow ≠ .inr k → O' a = some ow) : SR J F B H O' ow s v := by
  obtain ⟨m, d⟩ := s
  cases m with
  | own => obtain ⟨p, o, ev, g, r, qo, z⟩ := h; exact ⟨p, o, ev, g, r, f _ _ qo no, z⟩
  | io => obtain ⟨p, o, ev, g, r, qo, z⟩ := h; exact ⟨p, o, ev, g, r, f _ _ qo no, z⟩
  | tmp => obtain ⟨p, o, ev, g, r, i, qo⟩ := h; exact ⟨p, o, ev, g, r, i, f _ _ qo (fun z => nomatch z)⟩
  | bor => exact h
  | shr => exact h
theorem Iv.store {i : Nat} {s : Sv} {v : V} (nf : NF J i) (I : Iv J ρ ((s, v) :: τ) σ H) (h : sto s.m = true) : Iv J (ρ.set i (some s)) τ (σ.set i (some v)) H := by
  obtain ⟨F, B, O, I⟩ := I
  have nio : s.m ≠ .io := fun y => by rw [y] at h; cases h
  have ntm : s.m ≠ .tmp := fun y => by rw [y] at h; cases h
  -- the owner is now the slot
  have own : ∃ O' : Addr → Option Ow, SR J F B H O' (.inl i) s v ∧ ∀ a ow, O a = some ow → ow ≠ .inr τ.length → O' a = some ow := by
    have t := I.top
    obtain ⟨md, d⟩ := s
    cases md with
    | own =>
      obtain ⟨p, o, ev, g, r, qo, n, z⟩ := t
      refine ⟨fun b => if b = p then some (.inl i) else O b, ⟨p, o, ev, g, r, if_pos rfl, n, z⟩, fun a ow e h1 => ?_⟩
      by_cases c : a = p
      · subst c; rw [qo] at e; exact absurd (Option.some.inj e).symm h1
      · exact (if_neg c).trans e
    | io => exact absurd rfl nio
    | tmp => exact absurd rfl ntm
    | bor => exact ⟨O, t, fun _ _ e _ => e⟩
    | shr => exact ⟨O, t, fun _ _ e _ => e⟩
  obtain ⟨O', r', ho⟩ := own
  refine ⟨F, B, O', I.base, I.len.set2 nf, fun j s2 e2 => ?_, ?_⟩
  · by_cases hj : i = j
    · subst hj
      by_cases hl : i < ρ.length
      · rw [List.getElem?_set_self hl] at e2
        cases e2
        exact ⟨ntm, v, List.getElem?_set_self (by rw [← I.len.eq]; exact hl), r'⟩
      · rw [List.getElem?_eq_none (by simpa using hl)] at e2; cases e2
    · rw [List.getElem?_set_ne hj] at e2
      obtain ⟨t2, v2, e3, r2⟩ := I.slot j s2 e2
      exact ⟨t2, v2, by rw [List.getElem?_set_ne hj]; exact e3, r2.move (fun y => nomatch y) ho⟩
  · exact I.drop1.temp.imp fun s v k hm hk h => h.move (fun y => Nat.ne_of_lt hk (Sum.inr.inj y)) ho
def stS (i : Nat) (s : Sv) (ρ : En) : Sr := grdS (noIo ρ i && sto s.m) (.next (ρ.set i (some s)))
def sAsg (i : Nat) (fa : Sem1) : SemS := fun ρ => bndS (fa ρ) (stS i)
theorem stS_ok {i : Nat} {s : Sv} {v : V} {D : Ends} (nf : NF J i) (m : OutS J W τ (stS i s ρ) D) (I : Iv J ρ ((s, v) :: τ) σ H) : D.nx (σ.set i (some v)) H := by
  obtain ⟨h, m⟩ := outS_grd m
  rw [Bool.and_eq_true] at h
  exact m _ _ (Iv.store nf I h.2)
theorem xs_asg {i : Nat} {x : Str} {p : Pos} (hN : X.N.Nodup) (hi : X.N[i]? = some x) (hx : Loc X.env.scope x) (ha : XE X J W a qa fa) (hs : swapsWith a (some (.Name x p)) pos.line X.env = pure false := by rfl) (hf : X.fn x = true ∨ X.env.scope.names.lookup x = some .local := by first | exact .inl rfl | exact .inr rfl | assumption) (nf : NF J i := by first | exact nf_none (by assumption) | exact nf_ne (by assumption) rfl) :
    XS X J W (.Assign [.Name x p] a pos) (sAsg i fa) := by
  refine ⟨(ps_set hN hi hx ha.pe hs hf).imp fun σ H D h => ?_⟩
  obtain ⟨ρ, τ, I, c, m⟩ := h
  exact ⟨ρ, τ, I, .inr c, outS_bnd m fun s ρ1 m1 v H1 I1 => stS_ok nf m1 I1⟩
def kIS (k : Int → En → Sr) : Sv → En → Sr := fun s ρ => match s.d with
  | .int i => k i ρ
  | _ => .bad
theorem IvW.mut {F B : Hp} {O : Addr → Option Ow} {i : Nat} {m : Md} {d : Vl} (I : IvW J F B O ρ τ σ H) (nt : NoTmp τ) (h : ρ[i]? = some (some ⟨m, d⟩)) (hm : m = .own ∨ m = .io) :
    ∃ a o, σ[i]? = some (some (.ref a)) ∧ H a = some o ∧ OwnO J.K F d o ∧ ∀ d' o', OwnO J.K F d' o' → IvW J F B O (ρ.set i (some ⟨m, d'⟩)) τ σ (upd H a o') := by
  obtain ⟨t, v, e1, r⟩ := I.slot i _ h
  have r' : ∃ a o, v = .ref a ∧ H a = some o ∧ OwnO J.K F d o ∧ O a = some (.inl i) ∧ B a = none ∧ (m = .own → J.H0 a = none) ∧ (m = .io → ∃ j, (Sum.inl i : Ow) = .inl j ∧ J.ios.lookup j = some a) := by
    rcases hm with e | e
    · subst e
      obtain ⟨a, o, e, g, r, q, n, z⟩ := r
      exact ⟨a, o, e, g, r, q, n, (fun _ => z), (fun y => nomatch y)⟩
    · subst e
      obtain ⟨a, o, e, g, r, q, n, z⟩ := r
      obtain ⟨i2, z1, z2⟩ := z
      exact ⟨a, o, e, g, r, q, n, (fun y => nomatch y), (fun _ => ⟨i2, z1, z2⟩)⟩
  obtain ⟨a, o, ev, g, ro, q, n, z1, z2⟩ := r'
  subst ev
  refine ⟨a, o, e1, g, ro, fun d' o' rn => ?_⟩
  have nF := I.base.freeF n
  have keep : ∀ (ow : Ow) s v, ow ≠ .inl i → s.m ≠ .tmp → SR J F B H O ow s v → SR J F B (upd H a o') O ow s v := fun ow s v no nt h => by
    have ne : ∀ b, O b = some ow → b ≠ a := fun b y x => by subst x; rw [q] at y; exact no (Option.some.inj y).symm
    obtain ⟨md, d⟩ := s
    cases md with
    | shr => exact h
    | bor => exact h
    | tmp => exact absurd rfl nt
    | own => obtain ⟨b, u, e, g, r, q, z⟩ := h; exact ⟨b, u, e, by rw [upd_ne (ne b q)]; exact g, r, q, z⟩
    | io => obtain ⟨b, u, e, g, r, q, z⟩ := h; exact ⟨b, u, e, by rw [upd_ne (ne b q)]; exact g, r, q, z⟩
  refine ⟨⟨I.base.fb, fun b u e => ?_, I.base.f0, I.base.new, fun b u e y => ?_, fun b y => ?_⟩, I.len.set, fun j s2 e2 => ?_, ?_⟩
  · rw [upd_ne (ne_of_none e n)]; exact I.base.bh b u e
  · have ne : b ≠ a := fun x => by
      subst x
      rcases hm with x | x
      · rw [z1 x] at e; cases e
      · obtain ⟨_, _, q⟩ := z2 x; exact y (lookup_io q)
    rw [upd_ne ne]; exact I.base.keep b u e y
  · by_cases x : b = a
    · subst x; exact ⟨o', upd_same⟩
    · rw [upd_ne x]; exact I.base.iot b y
  · by_cases hj : i = j
    · subst hj
      have hl : i < ρ.length := (List.getElem?_eq_some_iff.mp h).1
      rw [List.getElem?_set_self hl] at e2
      cases e2
      refine ⟨t, _, e1, ?_⟩
      rcases hm with e | e
      · subst e; exact ⟨a, o', rfl, upd_same, rn, q, n, z1 rfl⟩
      · subst e; exact ⟨a, o', rfl, upd_same, rn, q, n, z2 rfl⟩
    · rw [List.getElem?_set_ne hj] at e2
      obtain ⟨t2, v2, e3, r2⟩ := I.slot j s2 e2
      exact ⟨t2, v2, e3, keep _ _ _ (fun y => hj (Sum.inl.inj y).symm) t2 r2⟩
  · exact I.temp.imp fun s v k hk _ h => keep _ _ _ (fun y => nomatch y) (nt _ hk) h
def mutb (m : Md) : Bool := match m with
  | .own => true
  | .io => true
  | _ => false
theorem mutb_or {m : Md} (h : mutb m = true) : m = .own ∨ m = .io := by
  cases m <;> first | exact .inl rfl | exact .inr rfl | cases h
def isL (ρ : En) (i : Nat) : Bool := match ρ[i]? with
  | some (some ⟨m, .lst _⟩) => true
  | _ => false
def onL (i : Nat) (k : List Vl → Option (Vl × List Vl)) (ρ : En) : Rs Sv := match ρ[i]? with
  | some (some ⟨m, .lst xs⟩) => grd (mutb m) (match k xs with
    | some (d, ys) => .ok (mk .shr d) (ρ.set i (some ⟨m, .lst ys⟩))
    | none => .bad)
  | _ => .bad
theorem onL_ok {F B : Hp} {O : Addr → Option Ow} {i : Nat} {k : List Vl → Option (Vl × List Vl)} {Q : VK} (I : IvW J F B O ρ τ σ H) (nt : NoTmp τ) (m : Out J W τ σ (onL i k ρ) Q) :
    ∃ a vs xs d ys, σ[i]? = some (some (.ref a)) ∧ H a = some (.lst vs) ∧ RepL J.K F xs vs ∧ k xs = some (d, ys) ∧ ∀ ws v, RepL J.K F ys ws → Rep J.K F d v → Q v (upd H a (.lst ws)) := by
  unfold onL at m
  cases e : ρ[i]? with
  | none => rw [e] at m; exact m.elim
  | some o =>
    cases o with
    | none => rw [e] at m; exact m.elim
    | some s =>
      obtain ⟨md, d⟩ := s
      rw [e] at m
      cases d with
      | lst xs =>
        obtain ⟨h, m⟩ := out_grd (b := mutb md) m
        obtain ⟨a, o, e1, g, ⟨vs, eo, r⟩, nw⟩ := I.mut nt e (mutb_or h)
        subst eo
        cases z : k xs with
        | none => rw [z] at m; exact m.elim
        | some p =>
          obtain ⟨d, ys⟩ := p
          rw [z] at m
          refine ⟨a, vs, xs, d, ys, e1, g, r, z, fun ws v rw' rd => ?_⟩
          have I2 := nw (.lst ys) (.lst ws) ⟨ws, rfl, rw'⟩
          have m : Out J W τ σ (.ok (mk .shr d) (ρ.set i (some ⟨md, .lst ys⟩))) Q := m
          exact m v _ (I2.push ((show SR J F B (upd H a (.lst ws)) O (.inr τ.length) ⟨.shr, d⟩ v from rd).mk I2.base))
      | _ => exact m.elim
theorem isL_ok {F B : Hp} {O : Addr → Option Ow} {i : Nat} (I : IvW J F B O ρ τ σ H) (h : isL ρ i = true) : ∃ a vs, σ[i]? = some (some (.ref a)) ∧ H a = some (.lst vs) := by
  unfold isL at h
  cases e : ρ[i]? with
  | none => rw [e] at h; cases h
  | some o =>
    cases o with
    | none => rw [e] at h; cases h
    | some s =>
      obtain ⟨md, d⟩ := s
      rw [e] at h
      cases d with
      | lst xs =>
        obtain ⟨_, v, e1, r⟩ := I.slot i _ e
        obtain ⟨a, vs, ev, g, _⟩ := r.list I.base
        subst ev
        exact ⟨a, vs, e1, g⟩
      | _ => cases h
def kApp (d : Vl) (xs : List Vl) : Option (Vl × List Vl) := if xs.length < sizeLine then some (.non, xs ++ [d]) else none
def isShr : Md → Bool
  | .shr => true
  | _ => false
def fApp (i : Nat) (fa : Sem1) : Sem1 := fun ρ => grd (isL ρ i) (bnd (fa ρ) fun s ρ1 => grd (isShr s.m) (onL i (kApp s.d) ρ1))
theorem xe_app {i : Nat} {x : Str} {px apos : Pos} (hN : X.N[i]? = some x) (hv : Vis X.env.scope x) (ha : XE X J W a qa fa) (hd : (x == ("__debug__" : Str)) = false := by decide) (hcd : (x == ("__classdict__" : Str)) = false := by decide)
    (hst : starEach [a] X.env = (false, eval a X.env) :: starEach [] X.env := by rfl) (hpe : PE X (.Call (.Attribute (.Name x px) "append" apos) [a] [] pos) (tBM X.K "list" rAppend (tVar i) (tCons (tE J W qa fa) tNil)) := by exact (pe_bm PySem.F.plainAttrs_list PySem.F.slot_list_append PySem.F.type_list_append mt_append (pe_var (by assumption) (by assumption)) (pa_cons (XE.pe (by assumption)) pa_nil))) :
    XE X J W (.Call (.Attribute (.Name x px) "append" apos) [a] [] pos) false (fApp i fa) := by
  refine ⟨hpe.imp fun σ H Q h => ?_⟩
  obtain ⟨ρ, τ, ⟨F, B, O, I⟩, c, m⟩ := h
  have nt : NoTmp τ := c.elim (fun z => nomatch z) id
  obtain ⟨h, m⟩ := out_grd (b := isL ρ i) m
  obtain ⟨p, vs, e1, g⟩ := isL_ok I h
  refine ⟨.ref p, e1, .inl ⟨rfl, _, SqL.of g⟩, ρ, τ, ⟨F, B, O, I⟩, .inr nt, ?_⟩
  cases e : fa ρ with
  | ok s ρ1 =>
    rw [e] at m
    rintro v H1 ⟨F1, B1, O1, I1⟩
    obtain ⟨h2, m⟩ := out_grd (b := isShr s.m) m
    obtain ⟨md, d⟩ := s
    cases md with
    | shr =>
      obtain ⟨p2, vs2, xs, d2, ys, e2, g2, r, k, f⟩ := onL_ok I1.drop1 nt m
      rw [e1] at e2
      cases e2
      have k' : (if xs.length < sizeLine then some (Vl.non, xs ++ [d]) else none) = some (d2, ys) := k
      by_cases z : xs.length < sizeLine
      · rw [if_pos z] at k'
        cases k'
        exact ⟨p, vs2, v, rfl, rfl, g2, by rw [r.len]; exact z, f _ .non (r.app (.cons I1.top .nil)) rfl⟩
      · rw [if_neg z] at k'; cases k'
    | _ => cases h2
  | exc cc fs ρ1 => rw [e] at m; exact m
  | bad => rw [e] at m; exact m
def kSet (k : Int) (d : Vl) (xs : List Vl) : Option (Vl × List Vl) := (ixN xs.length k).map fun j => (.non, xs.set j d)
def sSet (i : Nat) (fk fv : Sem1) : SemS := fun ρ => bndS (fv ρ) fun s ρ1 => grdS (isShr s.m && isL ρ1 i) (bndS (fk ρ1) (kIS fun k ρ2 => match onL i (kSet k s.d) ρ2 with
  | .ok _ ρ3 => .next ρ3
  | _ => .bad))
theorem xs_set {i : Nat} {x : Str} {p ps' : Pos} (hN : X.N[i]? = some x) (hv : Vis X.env.scope x) (hb : XE X J W b true fb) (ha : XE X J W a qa fa) (hd : (x == ("__debug__" : Str)) = false := by decide) (hcd : (x == ("__classdict__" : Str)) = false := by decide)
    (has : ∀ v, assign (.Subscript (.Name x p) b ps') X.env v = (do
      let ov ← holding [v] (eval (.Name x p) X.env)
      let iv ← holding [v, ov] (eval b X.env)
      standAt ps'
      holding [v, ov, iv] (setItem ov iv v)
      release [v, ov, iv] []) := by intro _; rfl)
    (hs : swapsWithSole [.Subscript (.Name x p) b ps'] a pos.line X.env = pure false := by rfl) (hw : swappedStores [.Subscript (.Name x p) b ps'] a X.env = pure none := by rfl)
    (h1 : (assignEach [.Subscript (.Name x p) b ps'] X.env).map (·.2) = [assign (.Subscript (.Name x p) b ps') X.env] := by rfl) :
    XS X J W (.Assign [.Subscript (.Name x p) b ps'] a pos) (sSet i fb fa) := by
  refine ⟨(ps_asg ha.pe (pg_sub (pe_var hN hv hd hcd) hb.pe set_list has) hs hw h1).imp fun σ H D h => ?_⟩
  obtain ⟨ρ, τ, I, c, m⟩ := h
  refine ⟨ρ, τ, I, .inr c, outS_bnd m fun s ρ1 m1 v H1 ⟨F, B, O, I1⟩ => ?_⟩
  obtain ⟨h, m1⟩ := outS_grd m1
  rw [Bool.and_eq_true] at h
  obtain ⟨md, d⟩ := s
  cases md with
  | shr =>
    obtain ⟨p1, vs, e1, g⟩ := isL_ok I1 h.2
    refine ⟨.ref p1, e1, ρ1, _, ⟨F, B, O, I1⟩, .inl rfl, ?_⟩
    cases e : fb ρ1 with
    | ok t ρ2 =>
      rw [e] at m1
      rintro u H2 ⟨F2, B2, O2, I2⟩
      obtain ⟨mt, dt⟩ := t
      cases dt with
      | int k =>
        have hu : u = .int k := I2.top.rep I2.base
        have m1 : OutS J W τ (match onL i (kSet k d) ρ2 with | .ok _ ρ3 => .next ρ3 | _ => .bad) D := m1
        have rd : Rep J.K F2 d v := I2.drop1.top
        have mm : Out J W τ σ (onL i (kSet k d) ρ2) (fun _ H => D.nx σ H) := by
          cases z : onL i (kSet k d) ρ2 with
          | ok _ ρ3 => rw [z] at m1; exact fun v H I => m1 σ H I.drop1
          | exc cc fs ρ1 => rw [z] at m1; exact m1.elim
          | bad => rw [z] at m1; exact m1.elim
        obtain ⟨p2, vs2, xs, d2, ys, e2, g2, r, kk, f⟩ := onL_ok I2.drop1.drop1 c mm
        rw [e1] at e2
        cases e2
        obtain ⟨j, j1, j2⟩ := Option.map_eq_some_iff.mp (show (ixN xs.length k).map _ = some (d2, ys) from kk)
        cases j2
        exact ⟨p1, vs2, k, j, rfl, hu, g2, by rw [r.len]; exact j1, f _ .non (r.set rd j) rfl⟩
      | _ => exact m1.elim
    | exc cc fs ρ1 => rw [e] at m1; exact fun cls d H => m1 cls d σ H
    | bad => rw [e] at m1; exact m1
  | _ => cases h.1
def kPopAt (k : Int) (xs : List Vl) : Option (Vl × List Vl) := if -(2 ^ 63) ≤ k ∧ k < 2 ^ 63 then (seqIndex? k xs.length).bind fun j => xs[j]?.map fun d => (d, xs.eraseIdx j) else none
def fPopAt (i : Nat) (fa : Sem1) : Sem1 := fun ρ => grd (isL ρ i) (bnd (fa ρ) (kI fun k ρ1 => onL i (kPopAt k) ρ1))
theorem xe_popAt {i : Nat} {x : Str} {px apos : Pos} (hN : X.N[i]? = some x) (hv : Vis X.env.scope x) (ha : XE X J W a qa fa) (hd : (x == ("__debug__" : Str)) = false := by decide) (hcd : (x == ("__classdict__" : Str)) = false := by decide)
    (hpe : PE X (.Call (.Attribute (.Name x px) "pop" apos) [a] [] pos) (tBM X.K "list" rPopAt (tVar i) (tCons (tE J W qa fa) tNil))) :
    XE X J W (.Call (.Attribute (.Name x px) "pop" apos) [a] [] pos) false (fPopAt i fa) := by
  refine ⟨hpe.imp fun σ H Q h => ?_⟩
  obtain ⟨ρ, τ, ⟨F, B, O, I⟩, c, m⟩ := h
  have nt : NoTmp τ := c.elim (fun z => nomatch z) id
  obtain ⟨h, m⟩ := out_grd (b := isL ρ i) m
  obtain ⟨p, vs, e1, g⟩ := isL_ok I h
  refine ⟨.ref p, e1, .inl ⟨rfl, _, SqL.of g⟩, tE_int ⟨F, B, O, I⟩ (.inr nt) m fun k ρ1 H1 ⟨F1, B1, O1, I1⟩ m1 => ?_⟩
  obtain ⟨p2, vs2, xs, d, ys, e2, g2, r, kk, f⟩ := onL_ok I1 nt m1
  rw [e1] at e2
  cases e2
  have kk : (if -(2 ^ 63) ≤ k ∧ k < 2 ^ 63 then (seqIndex? k xs.length).bind fun j => xs[j]?.map fun d => (d, xs.eraseIdx j) else none) = some (d, ys) := kk
  by_cases z : -(2 ^ 63) ≤ k ∧ k < 2 ^ 63
  · rw [if_pos z] at kk
    obtain ⟨j, j1, j2⟩ := Option.bind_eq_some_iff.mp kk
    obtain ⟨d', d1, d2⟩ := Option.map_eq_some_iff.mp j2
    cases d2
    obtain ⟨w, w1, w2⟩ := r.get d1
    exact ⟨p, vs2, k, j, w, rfl, rfl, g2, z.1, z.2, by rw [r.len]; exact j1, w1, f _ w (r.eraseIdx j) w2⟩
  · rw [if_neg z] at kk; cases kk
def kClear (_ : List Vl) : Option (Vl × List Vl) := some (.non, [])
def fOnL (i : Nat) (k : List Vl → Option (Vl × List Vl)) : Sem1 := fun ρ => onL i k ρ
theorem xe_clear {i : Nat} {x : Str} {px apos : Pos} (hpe : PE X (.Call (.Attribute (.Name x px) "clear" apos) [] [] pos) (tBM0 X.K "list" rClear (tVar i))) : XE X J W (.Call (.Attribute (.Name x px) "clear" apos) [] [] pos) false (fOnL i kClear) := by
  refine ⟨hpe.imp fun σ H Q h => ?_⟩
  obtain ⟨ρ, τ, ⟨F, B, O, I⟩, c, m⟩ := h
  have nt : NoTmp τ := c.elim (fun z => nomatch z) id
  obtain ⟨p2, vs2, xs, d, ys, e2, g2, r, kk, f⟩ := onL_ok I nt m
  cases kk
  exact ⟨.ref p2, e2, .inl ⟨rfl, _, SqL.of g2⟩, p2, vs2, rfl, rfl, g2, f [] .non rfl rfl⟩
end
end MV
namespace MV
open PySem PySem.Spec PyProof.Rows L2
section
variable {X : Cx} {J : Jx} {W : WX} {e a b c tg iter elt : Expr} {es : List Expr} {st : Stmt} {sts body orelse : List Stmt} {q qa qb qc qr qe : Bool} {fa fb fc : Sem1} {f g : SemS} {gc : SemB} {pos : Pos} {τ τ1 : List (Sv × V)} {σ : St} {H : Hp} {ρ : En}
theorem TOk.below {F B H : Hp} {O : Addr → Option Ow} : ∀ {l τ : List (Sv × V)}, TOk J F B H O (l ++ τ) → TOk J F B H O τ
  | [], _, h => h
  | x :: l, _, h => TOk.below (l := l) h.2
theorem Iv.under {s : Sv} {v : V} {l : List (Sv × V)} (I : Iv J ρ ((s, v) :: (l ++ τ)) σ H) : Iv J ρ ((s, v) :: τ) σ H := by
  obtain ⟨F, B, O, I⟩ := I
  obtain ⟨O', r, ho⟩ := I.top.reown (k' := τ.length)
  refine ⟨F, B, O', I.base, I.len, fun i s e => ?_, r, ?_⟩
  · obtain ⟨t, v, e1, h⟩ := I.slot i s e
    exact ⟨t, v, e1, h.move (fun z => nomatch z) ho⟩
  · refine (TOk.below I.drop1.temp).imp fun s v k _ hk h => h.move (fun z => ?_) ho
    have := Sum.inr.inj z
    rw [List.length_append] at this
    omega
theorem Iv.dropL {l : List (Sv × V)} (I : Iv J ρ (l ++ τ) σ H) : Iv J ρ τ σ H := by
  obtain ⟨F, B, O, I⟩ := I
  exact ⟨F, B, O, I.base, I.len, I.slot, TOk.below I.temp⟩
structure Wk (J : Jx) (τ : List (Sv × V)) (items : List Sv) (I : It) : Prop where
  go : ∀ pre k ρ σ H, k < items.length → Iv J ρ (pre ++ τ) σ H → I.go k H
  stop : ∀ pre k ρ σ H, items.length ≤ k → Iv J ρ (pre ++ τ) σ H → I.stop k H
  yld : ∀ pre k s ρ σ H x H', items[k]? = some s → Iv J ρ (pre ++ τ) σ H → I.yld k H x H' → Iv J ρ ((s, x) :: (pre ++ τ)) σ H'
abbrev SemI := En → Rs (Bool × List Sv)
def OutI (J : Jx) (W : WX) (τ : List (Sv × V)) (σ : St) (r : Rs (Bool × List Sv)) (R : It → Hp → Prop) : Prop := match r with
  | .ok items ρ => ∀ l I H, Iv J ρ (l ++ τ) σ H → Wk J (l ++ τ) items.2 I → (items.1 = true → NoTmp l) → R I H
  | .exc c fs ρ => ∀ cls d H, Ix J ρ c fs σ H cls d → W cls d σ H
  | .bad => False
def tI (J : Jx) (W : WX) (q : Bool) (f : SemI) : TI := fun σ H R => ∃ ρ τ, Iv J ρ τ σ H ∧ (q = true ∨ NoTmp τ) ∧ OutI J W τ σ (f ρ) R
structure XI (X : Cx) (J : Jx) (W : WX) (tg iter : Expr) (q : Bool) (f : SemI) : Prop where
  pi : PI X tg iter (tI J W q f)
theorem _root_.L2.PI.imp {X : Cx} {tg e : Expr} {t t' : TI} (h : PI X tg e t) (i : ∀ σ H Q, t' σ H Q → t σ H Q) : PI X tg e t' := ⟨fun pins s σ H Q I q => h.run pins s σ H Q I (i σ H Q q)⟩
def kItL : Sv → En → Rs (Bool × List Sv) := fun s ρ => match s.d with
  | .lst xs => .ok (!s.m.isT, xs.map (mk s.m.kid)) ρ
  | _ => .bad
def iSrc (fa : Sem1) (k : Sv → En → Rs (Bool × List Sv)) : SemI := fun ρ => bnd (fa ρ) k
theorem outI_bnd {α : Type} {r : Rs Sv} {k : Sv → En → Rs (Bool × List Sv)} {R : It → Hp → Prop} {Q : VK} (m : OutI J W τ σ (bnd r k) R) (h : ∀ s ρ1, OutI J W τ σ (k s ρ1) R → ∀ v H1, Iv J ρ1 ((s, v) :: τ) σ H1 → Q v H1) : Out J W τ σ r Q := by
  cases r with
  | ok s ρ1 => exact fun v H1 I1 => h s ρ1 m v H1 I1
  | exc c fs ρ1 => exact m
  | bad => exact m
theorem cv_list {K : PySem.W.Frag} {R : It → Hp → Prop} (h : tI J W qa (iSrc fa kItL) σ H R) : iList K (tE J W qa fa) σ H R := by
  obtain ⟨ρ, τ, I, c, m⟩ := h
  refine ⟨ρ, τ, I, c, outI_bnd (α := Unit) m fun s ρ1 m1 v H1 ⟨F, B, O, I1⟩ => ?_⟩
  obtain ⟨md, d⟩ := s
  cases d with
  | lst xs =>
    obtain ⟨p, vs, ev, g, r⟩ := I1.top.list I1.base
    subst ev
    refine ⟨p, rfl, ⟨vs, SqL.of g⟩, m1 [(⟨md, .lst xs⟩, .ref p)] _ _ ⟨F, B, O, I1⟩ ⟨fun pre k ρ σ H hk I => ?_, fun pre k ρ σ H hk I => ?_, fun pre k s ρ σ H x H' hs I hy => ?_⟩ ?_⟩
    · obtain ⟨F, B, O, I⟩ := I
      obtain ⟨p', vs, ev, g, r⟩ := SR.list I.base (show SR J F B H O _ ⟨md, .lst xs⟩ (.ref p) from (TOk.below (l := pre) I.temp).1)
      cases ev
      rw [List.length_map] at hk
      exact ⟨vs, vs[k]'(by rw [r.len]; exact hk), SqL.of g, by simp⟩
    · obtain ⟨F, B, O, I⟩ := I
      obtain ⟨p', vs, ev, g, r⟩ := SR.list I.base (show SR J F B H O _ ⟨md, .lst xs⟩ (.ref p) from (TOk.below (l := pre) I.temp).1)
      cases ev
      rw [List.length_map] at hk
      exact ⟨vs, SqL.of g, by rw [r.len]; exact hk⟩
    · obtain ⟨F, B, O, I⟩ := I
      obtain ⟨p', vs, ev, g, r⟩ := SR.list I.base (show SR J F B H O _ ⟨md, .lst xs⟩ (.ref p) from (TOk.below (l := pre) I.temp).1)
      cases ev
      obtain ⟨e1, y⟩ := hy
      subst e1
      rw [List.getElem?_map] at hs
      obtain ⟨d, hd, es⟩ := Option.map_eq_some_iff.mp hs
      subst es
      obtain ⟨w, hw, rw'⟩ := r.get hd
      have hx := y vs (SqL.of g)
      rw [hw] at hx
      cases hx
      exact I.push ((reg_kid rw' _).mk I.base)
    · intro z x hx
      rw [List.mem_singleton.mp hx]
      intro y
      have y : md = .tmp := y
      subst y
      cases z
  | _ => exact m1.elim
theorem xi_list (ha : XE X J W iter qa fa) : XI X J W tg iter qa (iSrc fa kItL) := ⟨(pi_list ha.pe).imp fun σ H R h => cv_list h⟩
def rngI (lo c : Int) (n : Nat) : List Sv := (List.range n).map fun (k : Nat) => ⟨.shr, .int (lo + (k : Int) * c)⟩
def c62 (i : Int) : Bool := decide (-(2 ^ 62) ≤ i) && decide (i < 2 ^ 62)
theorem c62_ok {i : Int} (h : c62 i = true) : -(2 ^ 62) ≤ i ∧ i < 2 ^ 62 := by
  have h' : (decide (-(2 ^ 62) ≤ i) && decide (i < 2 ^ 62)) = true := h
  rw [Bool.and_eq_true] at h'
  exact ⟨of_decide_eq_true h'.1, of_decide_eq_true h'.2⟩
theorem wk_rng {lo c : Int} {n : Nat} {I : It} (hg : ∀ k H, k < n → I.go k H) (hs : ∀ k H, n ≤ k → I.stop k H) (hy : ∀ k H x H', I.yld k H x H' → H' = H ∧ x = .int (lo + (k : Int) * c)) : Wk J τ (rngI lo c n) I := by
  have len : (rngI lo c n).length = n := by unfold rngI; rw [List.length_map, List.length_range]
  refine ⟨fun pre k ρ σ H hk _ => hg k H (by rw [len] at hk; exact hk), fun pre k ρ σ H hk _ => hs k H (by rw [len] at hk; exact hk), fun pre k s ρ σ H x H' e I y => ?_⟩
  obtain ⟨e1, e2⟩ := hy k H x H' y
  subst e1 e2
  obtain ⟨F, B, O, I⟩ := I
  unfold rngI at e
  rw [List.getElem?_map] at e
  obtain ⟨j, hj, es⟩ := Option.map_eq_some_iff.mp e
  have : j = k := by
    have hk := (List.getElem?_eq_some_iff.mp hj)
    obtain ⟨h1, h2⟩ := hk
    rw [List.getElem_range] at h2
    exact h2.symm
  subst this
  subst es
  exact I.push (s := ⟨.shr, .int (lo + (j : Int) * c)⟩) rfl
def kII (k : Int → En → Rs (Bool × List Sv)) : Sv → En → Rs (Bool × List Sv) := fun s ρ => match s.d with
  | .int i => k i ρ
  | _ => .bad
theorem tE_intI {k : Int → En → Rs (Bool × List Sv)} {Q : VK} {R : It → Hp → Prop} (I : Iv J ρ τ σ H) (c : q = true ∨ NoTmp τ) (m : OutI J W τ σ (bnd (fa ρ) (kII k)) R)
    (h : ∀ i ρ1 H1, Iv J ρ1 τ σ H1 → OutI J W τ σ (k i ρ1) R → Q (.int i) H1) : tE J W q fa σ H Q := by
  refine ⟨ρ, τ, I, c, outI_bnd (α := Unit) m fun s ρ1 m1 v H1 ⟨F, B, O, I1⟩ => ?_⟩
  obtain ⟨md, d⟩ := s
  cases d with
  | int x =>
    have hv : v = .int x := I1.top.rep I1.base
    subst hv
    exact h x ρ1 H1 ⟨F, B, O, I1.drop1⟩ m1
  | _ => exact m1.elim
theorem outI_grd {b : Bool} {r : Rs (Bool × List Sv)} {R : It → Hp → Prop} (m : OutI J W τ σ (grd b r) R) : b = true ∧ OutI J W τ σ r R := by
  cases b with
  | true => exact ⟨rfl, m⟩
  | false => exact m.elim
def iR1 (fa : Sem1) : SemI := fun ρ => bnd (fa ρ) (kII fun j ρ1 => grd (c62 j) (.ok (true, rngI 0 1 j.toNat) ρ1))
theorem xi_r1 {p : Pos} (hg : Gl X "range") (hm : X.mg "range" = none) (ha : XE X J W a qa fa) (hs : starEach [a] X.env = (false, eval a X.env) :: starEach [] X.env := by rfl) (hs2 : starEach [a] X.env = [(false, eval a X.env)] := by rfl) : XI X J W tg (.Call (.Name "range" p) [a] [] pos) qa (iR1 fa) := by
  refine ⟨(pi_range1 hg hm (pa_cons ha.pe pa_nil hs) hs2).imp fun σ H R h => ?_⟩
  obtain ⟨ρ, τ, I, c, m⟩ := h
  refine tE_intI I c m fun j ρ1 H1 I1 m1 => ?_
  obtain ⟨z, m1⟩ := outI_grd m1
  obtain ⟨b1, b2⟩ := c62_ok z
  exact ⟨j, rfl, b1, b2, m1 [] _ _ I1 (wk_rng (fun k H h => h) (fun k H h => h) fun k H x H' y => ⟨y.1, by rw [y.2, Int.mul_one]⟩) (fun _ x hx => absurd hx (by simp))⟩
abbrev SemG := Sv → En → Option En
def tG (J : Jx) (ix : List Nat) (f : SemG) : TG := fun v σ H Q => ∃ s ρ τ, Iv J ρ ((s, v) :: τ) σ H ∧ match f s ρ with
  | some ρ1 => ∀ σ' H', Iv J ρ1 τ σ' H' → (∀ vs, (∀ i ∈ ix, i ∈ vs) → wipe σ' vs = wipe σ vs) → Q σ' H'
  | none => False
structure XG (X : Cx) (J : Jx) (tg : Expr) (ix : List Nat) (f : SemG) : Prop where
  pg : PG X tg (tG J ix f)
theorem wipe_set {σ : St} {i : Nat} {x : Option V} : ∀ {vs : List Nat}, i ∈ vs → wipe (σ.set i x) vs = wipe σ vs
  | [], h => by simp at h
  | v :: vs, h => by
    unfold wipe
    by_cases e : i = v
    · subst e
      by_cases h2 : i ∈ vs
      · rw [wipe_set h2]
      · have : ∀ (ws : List Nat) (σ : St), i ∉ ws → wipe (σ.set i x) ws = (wipe σ ws).set i x := by
          intro ws
          induction ws with
          | nil => intro σ _; rfl
          | cons w ws ih =>
            intro σ hn
            have hn' : ¬ (i = w) ∧ i ∉ ws := by simpa using hn
            show (wipe (σ.set i x) ws).set w none = ((wipe σ ws).set w none).set i x
            rw [ih σ hn'.2, List.set_comm _ _ hn'.1]
        rw [this vs σ h2, List.set_set]
    · have h2 : i ∈ vs := by
        rcases List.mem_cons.mp h with z | z
        · exact absurd z e
        · exact z
      rw [wipe_set h2]
def gNm (i : Nat) : SemG := fun s ρ => match noIo ρ i && sto s.m with
  | true => some (ρ.set i (some s))
  | false => none
theorem xg_name {i : Nat} {x : Str} {p : Pos} (hN : X.N.Nodup) (hi : X.N[i]? = some x) (hx : Loc X.env.scope x) (hf : X.fn x = true ∨ X.env.scope.names.lookup x = some .local := by first | exact .inl rfl | exact .inr rfl | assumption) (nf : NF J i := by first | exact nf_none (by assumption) | exact nf_ne (by assumption) rfl) : XG X J (.Name x p) [i] (gNm i) := by
  refine ⟨⟨fun pins s0 σ H v u Q I0 r h => (pg_name (X := X) hN hi hx hf).run pins s0 σ H v u Q I0 r ?_⟩⟩
  obtain ⟨s, ρ, τ, I, m⟩ := h
  unfold gNm at m
  cases z : noIo ρ i && sto s.m with
  | true =>
    rw [z] at m
    rw [Bool.and_eq_true] at z
    exact m _ _ (Iv.store nf I z.2) fun vs hv => wipe_set (hv i (List.mem_singleton.mpr rfl))
  | false => rw [z] at m; exact m.elim
def loopL (tgt : SemG) (body : SemS) : List Sv → En → Sr
  | [], ρ => .next ρ
  | x :: xs, ρ => match tgt x ρ with
    | some ρ1 => (match body ρ1 with
      | .next ρ2 => loopL tgt body xs ρ2
      | .cont ρ2 => loopL tgt body xs ρ2
      | .brk ρ2 => .next ρ2
      | r => r)
    | none => .bad
def sFor (src : SemI) (tgt : SemG) (body : SemS) : SemS := fun ρ => bndS (src ρ) fun items ρ1 => grdS items.1 (loopL tgt body items.2 ρ1)
theorem NoTmp.app {l : List (Sv × V)} (h : NoTmp l) (h' : NoTmp τ) : NoTmp (l ++ τ) := fun x hx => (List.mem_append.mp hx).elim (h x) (h' x)
theorem xs_for {tb : SemS} {src : SemI} {tgt : SemG} {ix : List Nat} (hp : PassesOwn (model X.prog X.w) X.A X.env X.xe) (hc : X.calm = true) (hi : XI X J W tg iter q src) (hg : XG X J tg ix tgt) (hb : XB X J W body tb)
    (hs : ∀ x, foldedSetIterable iter X.env x = pure x := by intro _; rfl) : XS X J W (.For tg iter body [] pos) (sFor src tgt tb) := by
  refine ⟨(ps_for hp hc hi.pi hg.pg hb.pss hs).imp fun σ H D h => ?_⟩
  obtain ⟨ρ, τ, I, c, m⟩ := h
  refine ⟨ρ, τ, I, .inr c, ?_⟩
  unfold sFor at m
  cases e : src ρ with
  | ok its ρ1 =>
    rw [e] at m
    intro l J1 H1 I1 w nl
    obtain ⟨nt, m⟩ := outS_grd m
    have ntt := (nl nt).app c
    obtain ⟨nb, items⟩ := its
    have m : OutS J W τ (loopL tgt tb items ρ1) D := m
    have w : Wk J (l ++ τ) items J1 := w
    refine ⟨fun k n σ H => n = items.length - k ∧ k ≤ items.length ∧ ∃ ρ', Iv J ρ' (l ++ τ) σ H ∧ OutS J W τ (loopL tgt tb (items.drop k) ρ') D, ⟨items.length, by simp, Nat.zero_le _, ρ1, I1, by simpa using m⟩, ?_⟩
    rintro k n σ H ⟨rfl, hk, ρ', I', m'⟩
    by_cases hlt : k < items.length
    · refine .inr ⟨w.go [] k ρ' σ H hlt I', fun σ' H' => ∃ ρ'', Iv J ρ'' (l ++ τ) σ' H' ∧ OutS J W τ (loopL tgt tb (items.drop (k + 1)) ρ'') D, fun σ' H' ⟨ρ'', a1, a2⟩ => ⟨items.length - (k + 1), by omega, rfl, hlt, ρ'', a1, a2⟩, fun x H' y => ?_⟩
      have hs : items[k]? = some items[k] := by simp [hlt]
      rw [List.drop_eq_getElem_cons hlt] at m'
      refine ⟨items[k], ρ', l ++ τ, w.yld [] k _ ρ' σ H x H' hs I' y, ?_⟩
      have m' : OutS J W τ (match tgt items[k] ρ' with
        | some ρ1 => (match tb ρ1 with
          | .next ρ2 => loopL tgt tb (items.drop (k + 1)) ρ2
          | .cont ρ2 => loopL tgt tb (items.drop (k + 1)) ρ2
          | .brk ρ2 => .next ρ2
          | r => r)
        | none => .bad) D := m'
      cases z : tgt items[k] ρ' with
      | none => rw [z] at m'; exact m'.elim
      | some ρ3 =>
        rw [z] at m'
        intro σ3 H3 I3 _
        refine ⟨ρ3, l ++ τ, I3, ntt, ?_⟩
        have m' : OutS J W τ (match tb ρ3 with
          | .next ρ2 => loopL tgt tb (items.drop (k + 1)) ρ2
          | .cont ρ2 => loopL tgt tb (items.drop (k + 1)) ρ2
          | .brk ρ2 => .next ρ2
          | r => r) D := m'
        cases zz : tb ρ3 with
        | next ρ4 => rw [zz] at m'; exact fun σ4 H4 I4 => ⟨ρ4, I4, m'⟩
        | cont ρ4 => rw [zz] at m'; exact fun σ4 H4 I4 => ⟨ρ4, I4, m'⟩
        | brk ρ4 => rw [zz] at m'; exact fun σ4 H4 I4 => m' σ4 H4 I4.dropL
        | ret s ρ4 => rw [zz] at m'; exact fun v σ4 H4 I4 => m' v σ4 H4 I4.under
        | exc cc fs ρ4 => rw [zz] at m'; exact m'
        | bad => rw [zz] at m'; exact m'
    · have ek : k = items.length := by omega
      subst ek
      rw [List.drop_length] at m'
      exact .inl ⟨w.stop [] _ ρ' σ H (Nat.le_refl _) I', m' σ H I'.dropL⟩
  | exc cc fs ρ1 => rw [e] at m; exact fun cls d H => m cls d σ H
  | bad => rw [e] at m; exact m
def loopW (c : SemB) (body : SemS) : Nat → En → Sr
  | 0, _ => .bad
  | n + 1, ρ => bndS (c ρ) fun b ρ1 => match b with
    | true => (match body ρ1 with
      | .next ρ2 => loopW c body n ρ2
      | .cont ρ2 => loopW c body n ρ2
      | .brk ρ2 => .next ρ2
      | r => r)
    | false => .next ρ1
def wMax : Nat := 1000000000000
def sWhile (c : SemB) (body : SemS) : SemS := fun ρ => loopW c body wMax ρ
theorem xs_while {tb : SemS} {gc : SemB} (hp : PassesOwn (model X.prog X.w) X.A X.env X.xe) (hc : XT X J W c qc gc) (hb : XB X J W body tb) : XS X J W (.While c body [] pos) (sWhile gc tb) := by
  refine ⟨(ps_while hp hc.pt hb.pss).imp fun σ H D h => ?_⟩
  obtain ⟨ρ, τ, I, cc, m⟩ := h
  refine ⟨fun n σ H => ∃ ρ', Iv J ρ' τ σ H ∧ OutS J W τ (loopW gc tb n ρ') D, ⟨wMax, ρ, I, m⟩, ?_⟩
  rintro n σ H ⟨ρ', I', m'⟩
  cases n with
  | zero => exact m'.elim
  | succ n =>
    refine ⟨ρ', τ, I', .inr cc, outS_bndB m' fun b ρ1 m1 H1 I1 => ?_⟩
    cases b with
    | true =>
      rw [if_pos rfl]
      refine ⟨fun σ' H' => ∃ ρ'', Iv J ρ'' τ σ' H' ∧ OutS J W τ (loopW gc tb n ρ'') D, fun σ' H' q => ⟨n, Nat.lt_succ_self _, q⟩, ρ1, τ, I1, cc, ?_⟩
      have m1 : OutS J W τ (match tb ρ1 with
        | .next ρ2 => loopW gc tb n ρ2
        | .cont ρ2 => loopW gc tb n ρ2
        | .brk ρ2 => .next ρ2
        | r => r) D := m1
      cases zz : tb ρ1 with
      | next ρ4 => rw [zz] at m1; exact fun σ4 H4 I4 => ⟨ρ4, I4, m1⟩
      | cont ρ4 => rw [zz] at m1; exact fun σ4 H4 I4 => ⟨ρ4, I4, m1⟩
      | brk ρ4 => rw [zz] at m1; exact fun σ4 H4 I4 => m1 σ4 H4 I4
      | ret s ρ4 => rw [zz] at m1; exact m1
      | exc cc fs ρ4 => rw [zz] at m1; exact m1
      | bad => rw [zz] at m1; exact m1
    | false => rw [if_neg Bool.false_ne_true]; exact m1 σ H1 I1
end
end MV
namespace MV
open PySem PySem.Spec PyProof.Rows L2
section
variable {X : Cx} {J : Jx} {W : WX} {e a b c tg iter elt : Expr} {es : List Expr} {st : Stmt} {sts body orelse : List Stmt} {q qa qb qc qr qe : Bool} {fa fb fc : Sem1} {f g : SemS} {gc : SemB} {pos : Pos} {τ τ1 : List (Sv × V)} {σ : St} {H : Hp} {ρ : En}
def wipeE (ρ : En) : List Nat → En
  | [] => ρ
  | v :: vs => (wipeE ρ vs).set v none
theorem wipeE_len : ∀ (vs : List Nat), (wipeE ρ vs).length = ρ.length
  | [] => rfl
  | v :: vs => by unfold wipeE; rw [List.length_set, wipeE_len vs]
theorem wipeE_some {i : Nat} {x : Sv} : ∀ {vs : List Nat}, (wipeE ρ vs)[i]? = some (some x) → ρ[i]? = some (some x) ∧ i ∉ vs
  | [], h => ⟨h, by simp⟩
  | v :: vs, h => by
    unfold wipeE at h
    by_cases hi : v = i
    · subst hi
      by_cases hv : v < (wipeE ρ vs).length
      · rw [List.getElem?_set_self hv] at h; cases h
      · rw [List.getElem?_eq_none (by simpa using hv)] at h; cases h
    · rw [List.getElem?_set_ne hi] at h
      obtain ⟨h1, h2⟩ := wipeE_some h
      exact ⟨h1, by simp only [List.mem_cons, not_or]; exact ⟨fun e => hi e.symm, h2⟩⟩
theorem Iv.wipe {vs : List Nat} {σ2 σ3 : St} (nf : ∀ i ∈ vs, NF J i) (I : Iv J ρ τ σ2 H) (h : L2.wipe σ2 vs = L2.wipe σ3 vs) : Iv J (wipeE ρ vs) τ σ3 H := by
  obtain ⟨F, B, O, I⟩ := I
  refine ⟨F, B, O, I.base, ?_, fun i s e => ?_, I.temp⟩
  · have h1 := congrArg List.length h
    rw [wipe_length, wipe_length] at h1
    refine ⟨by rw [wipeE_len, I.len.eq, h1], fun i v e => ?_⟩
    have ni : i ∉ vs := fun z => nf i z v e
    have h2 : (L2.wipe σ2 vs)[i]? = (L2.wipe σ3 vs)[i]? := by rw [h]
    rw [wipe_out' ni, wipe_out' ni] at h2
    rw [← h2]; exact I.len.fx i v e
  · obtain ⟨e1, e2⟩ := wipeE_some e
    obtain ⟨t, v, e3, r⟩ := I.slot i s e1
    refine ⟨t, v, ?_, r⟩
    have h2 : (L2.wipe σ2 vs)[i]? = (L2.wipe σ3 vs)[i]? := by rw [h]
    rw [wipe_out' e2, wipe_out' e2] at h2
    rw [← h2]; exact e3
where
  wipe_out' {σ : St} {i : Nat} : ∀ {vs : List Nat}, i ∉ vs → (L2.wipe σ vs)[i]? = σ[i]?
    | [], _ => rfl
    | v :: vs, h => by
      have h' : ¬ (i = v) ∧ i ∉ vs := by simpa using h
      unfold L2.wipe
      rw [List.getElem?_set_ne (fun e => h'.1 e.symm)]
      exact wipe_out' h'.2
theorem IvW.mutT {F B : Hp} {O : Addr → Option Ow} {d d' : Vl} {o' : HO} {D : Addr} (I : IvW J F B O ρ ((⟨.own, d⟩, .ref D) :: τ) σ H) (rn : OwnO J.K F d' o') : IvW J F B O ρ ((⟨.own, d'⟩, .ref D) :: τ) σ (upd H D o') := by
  obtain ⟨a, o, e, g, r, q, n, z⟩ := I.top
  cases e
  have ne : ∀ (ow : Ow), ow ≠ .inr τ.length → ∀ b, O b = some ow → b ≠ D := fun ow h b y x => by subst x; rw [q] at y; exact h (Option.some.inj y).symm
  have keep : ∀ (ow : Ow) s v, ow ≠ .inr τ.length → SR J F B H O ow s v → SR J F B (upd H D o') O ow s v := fun ow s v no h => by
    obtain ⟨md, d⟩ := s
    cases md with
    | shr => exact h
    | bor => exact h
    | tmp => obtain ⟨b, u, e, g, r, i, q⟩ := h; exact ⟨b, u, e, by rw [upd_ne (ne (.inl i) (fun y => nomatch y) b q)]; exact g, r, i, q⟩
    | own => obtain ⟨b, u, e, g, r, q, z⟩ := h; exact ⟨b, u, e, by rw [upd_ne (ne _ no b q)]; exact g, r, q, z⟩
    | io => obtain ⟨b, u, e, g, r, q, z⟩ := h; exact ⟨b, u, e, by rw [upd_ne (ne _ no b q)]; exact g, r, q, z⟩
  refine ⟨⟨I.base.fb, fun b u e => ?_, I.base.f0, I.base.new, fun b u e y => ?_, fun b y => ?_⟩, I.len, fun j s2 e2 => ?_, ⟨D, o', rfl, upd_same, rn, q, n, z⟩, ?_⟩
  · rw [upd_ne (ne_of_none e n)]; exact I.base.bh b u e
  · have nb : b ≠ D := fun x => by subst x; rw [z] at e; cases e
    rw [upd_ne nb]; exact I.base.keep b u e y
  · by_cases x : b = D
    · subst x; exact ⟨o', upd_same⟩
    · rw [upd_ne x]; exact I.base.iot b y
  · obtain ⟨t2, v2, e3, r2⟩ := I.slot j s2 e2
    exact ⟨t2, v2, e3, keep _ _ _ (fun y => nomatch y) r2⟩
  · exact I.drop1.temp.imp fun s v k _ hk h => keep _ _ _ (fun y => Nat.ne_of_lt hk (Sum.inr.inj y)) h
def bndN {α β : Type} (r : Rs α) (k : α → En → Rs β) : Rs β := match r with
  | .ok a ρ => k a ρ
  | _ => .bad
def compL (own : List Nat) (tgt : SemG) (cond : SemB) (elt : Sem1) : List Sv → En → List Vl → Rs (List Vl)
  | [], ρ, acc => .ok acc ρ
  | x :: xs, ρ, acc => match tgt x ρ with
    | some ρ1 => bndN (cond ρ1) fun b ρ2 => match b with
      | true => bndN (elt ρ2) fun s ρ3 => grd (isShr s.m && decide (acc.length < sizeLine)) (compL own tgt cond elt xs (wipeE ρ3 own) (acc ++ [s.d]))
      | false => compL own tgt cond elt xs (wipeE ρ2 own) acc
    | none => .bad
def fLc (qn : Bool) (own : List Nat) (src : SemI) (tgt : SemG) (cond : SemB) (elt : Sem1) : Sem1 := fun ρ => bnd (src ρ) fun its ρ1 => grd (its.1 || qn) (bnd (compL own tgt cond elt its.2 (wipeE ρ1 own) []) fun ds ρ2 => .ok ⟨.own, .lst ds⟩ ρ2)
def bYes : SemB := fun ρ => .ok true ρ
abbrev WN : WX := fun _ _ _ _ => False
structure XPs (X : Cx) (J : Jx) (W : WX) (ifs : List Expr) (q : Bool) (f : SemB) : Prop where
  pts : PTs X ifs (tT J W q f)
theorem xps_nil : XPs X J W [] true bYes := by
  refine ⟨⟨fun pins s σ H Q I h => (pts_nil (X := X)).run pins s σ H Q I ?_⟩⟩
  obtain ⟨ρ, τ, I, c, m⟩ := h
  exact m H I
theorem xps_one (h : XT X J W c qc gc) : XPs X J W [c] qc gc := ⟨pts_one h.pt⟩
theorem grd_inv {α : Type} {b : Bool} {r : Rs α} {x : Rs α} (h : grd b r = x) (n : x ≠ .bad) : b = true ∧ r = x := by
  cases b with
  | true => exact ⟨rfl, h⟩
  | false => exact absurd h.symm n
theorem tLc_ok {J1 : It} {l : List (Sv × V)} {items : List Sv} {D : Addr} {tgt : SemG} {ix own : List Nat} {cond : SemB} {elt : Sem1} {ρ' ρe : En} {ds : List Vl} {Q : VK} {H1 : Hp} (nf : ∀ i ∈ own, NF J i) (w : Wk J (l ++ τ) items J1) (hix : ∀ i ∈ ix, i ∈ own)
    (nt : (qc = true ∧ qe = true) ∨ NoTmp (l ++ τ)) (I1 : Iv J ρ' ((⟨.own, .lst []⟩, .ref D) :: (l ++ τ)) (wipe σ own) (upd H1 D (.lst []))) (m : compL own tgt cond elt items ρ' [] = .ok ds ρe)
    (done : ∀ H, Iv J ρe ((⟨.own, .lst ds⟩, .ref D) :: (l ++ τ)) (wipe σ own) H → Q (.ref D) H) :
    ∃ W : Nat → Nat → Hp → Prop, (∃ m, W 0 m (upd H1 D (.lst []))) ∧ ∀ i m H, W i m H →
      (J1.stop i H ∧ Q (.ref D) H) ∨ (J1.go i H ∧ ∃ Nx : Hp → Prop, (∀ H', Nx H' → ∃ m', m' < m ∧ W (i + 1) m' H') ∧ ∀ x H', J1.yld i H x H' → tG J ix tgt x (wipe σ own) H' fun σ2 H2 => wipe σ2 own = wipe σ own ∧ tT J WN qc cond σ2 H2 fun b H3 =>
        if b = true then tE J WN qe elt σ2 H3 fun y H4 => ∃ acc, H4 D = some (.lst acc) ∧ acc.length < sizeLine ∧ Nx (upd H4 D (.lst (acc ++ [y]))) else Nx H3) := by
  have ww : wipe (wipe σ own) own = wipe σ own := by
    have : ∀ (vs ws : List Nat) (σ : St), (∀ i ∈ ws, i ∈ vs) → wipe (wipe σ ws) vs = wipe σ vs := by
      intro vs ws
      induction ws with
      | nil => intro σ _; rfl
      | cons v ws ih =>
        intro σ h
        show wipe ((wipe σ ws).set v none) vs = _
        rw [wipe_set (h v List.mem_cons_self), ih σ fun i hi => h i (List.mem_cons_of_mem _ hi)]
    exact this own own σ fun _ h => h
  refine ⟨fun k n H => n = items.length - k ∧ k ≤ items.length ∧ ∃ ρ'' acc, Iv J ρ'' ((⟨.own, .lst acc⟩, .ref D) :: (l ++ τ)) (wipe σ own) H ∧ compL own tgt cond elt (items.drop k) ρ'' acc = .ok ds ρe, ⟨items.length, by simp, Nat.zero_le _, ρ', [], I1, by simpa using m⟩, ?_⟩
  rintro k n H ⟨rfl, hk, ρ2, acc, I', m'⟩
  by_cases hlt : k < items.length
  · refine .inr ⟨w.go [(⟨.own, .lst acc⟩, .ref D)] k ρ2 _ H hlt I', fun H' => ∃ ρ'' acc, Iv J ρ'' ((⟨.own, .lst acc⟩, .ref D) :: (l ++ τ)) (wipe σ own) H' ∧ compL own tgt cond elt (items.drop (k + 1)) ρ'' acc = .ok ds ρe,
      fun H' ⟨ρ'', acc', a1, a2⟩ => ⟨items.length - (k + 1), by omega, rfl, hlt, ρ'', acc', a1, a2⟩, fun x H' y => ?_⟩
    have hs : items[k]? = some items[k] := by simp [hlt]
    rw [List.drop_eq_getElem_cons hlt] at m'
    have m' : (match tgt items[k] ρ2 with
      | some ρ1 => bndN (cond ρ1) fun b ρ2 => match b with
        | true => bndN (elt ρ2) fun s ρ3 => grd (isShr s.m && decide (acc.length < sizeLine)) (compL own tgt cond elt (items.drop (k + 1)) (wipeE ρ3 own) (acc ++ [s.d]))
        | false => compL own tgt cond elt (items.drop (k + 1)) (wipeE ρ2 own) acc
      | none => .bad) = .ok ds ρe := m'
    have Iy := w.yld [(⟨.own, .lst acc⟩, .ref D)] k _ ρ2 _ H x H' hs I' y
    refine ⟨items[k], ρ2, _, Iy, ?_⟩
    cases z : tgt items[k] ρ2 with
    | none => rw [z] at m'; cases m'
    | some ρ3 =>
      rw [z] at m'
      intro σ2 H2 I2 hw
      have hw2 : wipe σ2 own = wipe σ own := (hw own hix).trans ww
      refine ⟨hw2, ρ3, _, I2, ?_, ?_⟩
      · exact nt.imp (fun z => z.1) fun z => z.cons (fun y => nomatch y)
      · have m' : (bndN (cond ρ3) fun b ρ2 => match b with
          | true => bndN (elt ρ2) fun s ρ3 => grd (isShr s.m && decide (acc.length < sizeLine)) (compL own tgt cond elt (items.drop (k + 1)) (wipeE ρ3 own) (acc ++ [s.d]))
          | false => compL own tgt cond elt (items.drop (k + 1)) (wipeE ρ2 own) acc) = .ok ds ρe := m'
        cases zc : cond ρ3 with
        | ok b ρ4 =>
          rw [zc] at m'
          intro H4 I4
          cases b with
          | true =>
            rw [if_pos rfl]
            have m' : (bndN (elt ρ4) fun s ρ3 => grd (isShr s.m && decide (acc.length < sizeLine)) (compL own tgt cond elt (items.drop (k + 1)) (wipeE ρ3 own) (acc ++ [s.d]))) = .ok ds ρe := m'
            refine ⟨ρ4, _, I4, nt.imp (fun z => z.2) fun z => z.cons (fun y => nomatch y), ?_⟩
            cases ze : elt ρ4 with
            | ok s ρ5 =>
              rw [ze] at m'
              rintro v H5 ⟨F, B, O, I5⟩
              obtain ⟨h, m'⟩ := grd_inv m' (fun y => nomatch y)
              rw [Bool.and_eq_true] at h
              obtain ⟨ms, dd⟩ := s
              cases ms with
              | shr =>
                have rd : Rep J.K F dd v := I5.top
                obtain ⟨p, o, ev, g, ⟨vs, eo, r⟩, _⟩ := I5.drop1.top
                cases ev
                subst eo
                refine ⟨vs, g, by rw [r.len]; exact of_decide_eq_true h.2, wipeE ρ5 own, acc ++ [dd], ?_, m'⟩
                have I6 : IvW J F B O ρ5 ((⟨.own, .lst (acc ++ [dd])⟩, .ref D) :: (l ++ τ)) σ2 (upd H5 D (.lst (vs ++ [v]))) := I5.drop1.mutT (d' := .lst (acc ++ [dd])) ⟨_, rfl, r.app (.cons rd .nil)⟩
                exact Iv.wipe nf ⟨F, B, O, I6⟩ (hw2.trans ww.symm)
              | _ => cases h.1
            | exc cc fs ρ5 => rw [ze] at m'; cases m'
            | bad => rw [ze] at m'; cases m'
          | false =>
            rw [if_neg Bool.false_ne_true]
            exact ⟨wipeE ρ4 own, acc, Iv.wipe nf I4 (hw2.trans ww.symm), m'⟩
        | exc cc fs ρ5 => rw [zc] at m'; cases m'
        | bad => rw [zc] at m'; cases m'
  · have ek : k = items.length := by omega
    subst ek
    rw [List.drop_length] at m'
    cases m'
    exact .inl ⟨w.stop [(⟨.own, .lst _⟩, .ref D)] _ _ _ H (Nat.le_refl _) I', done H I'⟩
theorem lc_ok {src : SemI} {tgt : SemG} {ix own : List Nat} {cond : SemB} {elt : Sem1} {Q : VK} (nf : ∀ i ∈ own, NF J i) (hix : ∀ i ∈ ix, i ∈ own) (h : tE J W (q && (qc && qe)) (fLc (qc && qe) own src tgt cond elt) σ H Q) :
    tLc (tI J W q src) (tG J ix tgt) (tT J WN qc cond) (tE J WN qe elt) own σ H Q := by
  obtain ⟨ρ, τ, I, c, m⟩ := h
  refine ⟨ρ, τ, I, (qand c).1, ?_⟩
  unfold fLc at m
  cases e : src ρ with
  | ok its ρ1 =>
    rw [e] at m
    intro l J1 H1 I1 w nl D nD
    obtain ⟨hq, m⟩ := out_grd (b := its.1 || (qc && qe)) m
    have nt : (qc = true ∧ qe = true) ∨ NoTmp (l ++ τ) := by
      rcases (Bool.or_eq_true _ _).mp hq with z | z
      · rcases (qand c).2 with y | y
        · rw [Bool.and_eq_true] at y; exact .inl y
        · exact .inr ((nl z).app y)
      · rw [Bool.and_eq_true] at z; exact .inl z
    cases z : compL own tgt cond elt its.2 (wipeE ρ1 own) [] with
    | ok ds ρ2 =>
      rw [z] at m
      have m : Out J W τ σ (.ok ⟨.own, .lst ds⟩ ρ2) Q := m
      have I2 : Iv J (wipeE ρ1 own) ((⟨.own, .lst []⟩, .ref D) :: (l ++ τ)) (wipe σ own) (upd H1 D (.lst [])) := by
        have I3 : Iv J ρ1 ((⟨.own, .lst []⟩, .ref D) :: (l ++ τ)) σ (upd H1 D (.lst [])) := by
          obtain ⟨F, B, O, I1⟩ := I1
          exact I1.new nD ⟨[], rfl, rfl⟩
        exact Iv.wipe nf I3 (wipe_wipe own own (fun _ h => h)).symm
      refine tLc_ok nf w hix nt I2 z fun H I => ?_
      have I4 : Iv J ρ2 ((⟨.own, .lst ds⟩, .ref D) :: (l ++ τ)) σ H := by
        obtain ⟨F, B, O, I⟩ := I
        refine ⟨F, B, O, I.base, ⟨by rw [I.len.eq, wipe_length], fun i v e => (wipe_some (I.len.fx i v e)).1⟩, fun i s e => ?_, I.temp⟩
        obtain ⟨t, v, e1, r⟩ := I.slot i s e
        exact ⟨t, v, (wipe_some e1).1, r⟩
      exact m _ _ I4.under
    | exc cc fs ρ2 =>
      exfalso
      exact compL_exc z
    | bad => rw [z] at m; exact m.elim
  | exc cc fs ρ1 => rw [e] at m; exact m
  | bad => rw [e] at m; exact m
where
  wipe_wipe {σ : St} (vs ws : List Nat) (h : ∀ i ∈ ws, i ∈ vs) : wipe (wipe σ ws) vs = wipe σ vs := by
    induction ws with
    | nil => rfl
    | cons v ws ih =>
      show wipe ((wipe σ ws).set v none) vs = _
      rw [wipe_set (h v List.mem_cons_self), ih fun i hi => h i (List.mem_cons_of_mem _ hi)]
  compL_exc {tgt : SemG} {own : List Nat} {cond : SemB} {elt : Sem1} {cc : Str} {fs : List (Str × Vl)} {ρ2 : En} : ∀ {xs : List Sv} {ρ : En} {acc : List Vl}, compL own tgt cond elt xs ρ acc = .exc cc fs ρ2 → False
    | [], _, _, h => by cases h
    | x :: xs, ρ, acc, h => by
      unfold compL at h
      cases z : tgt x ρ with
      | none => rw [z] at h; cases h
      | some ρ1 =>
        rw [z] at h
        replace h : bndN (cond ρ1) _ = _ := h
        cases zc : cond ρ1 with
        | ok b ρ3 =>
          rw [zc] at h
          cases b with
          | true =>
            cases ze : elt ρ3 with
            | ok s ρ4 =>
              have h : bndN (elt ρ3) (fun s ρ3 => grd (isShr s.m && decide (acc.length < sizeLine)) (compL own tgt cond elt xs (wipeE ρ3 own) (acc ++ [s.d]))) = _ := h
              rw [ze] at h
              obtain ⟨_, h⟩ := grd_inv h (fun y => nomatch y)
              exact compL_exc h
            | exc _ _ _ => have h : bndN (elt ρ3) _ = _ := h; rw [ze] at h; cases h
            | bad => have h : bndN (elt ρ3) _ = _ := h; rw [ze] at h; cases h
          | false => exact compL_exc h
        | exc _ _ _ => rw [zc] at h; cases h
        | bad => rw [zc] at h; cases h
theorem xe_lc {src : SemI} {tgt : SemG} {ix : List Nat} {cond : SemB} {felt : Sem1} {ifs : List Expr} {scope : Scope} {own : List (Str × Nat)} (hix : ∀ i ∈ ix, i ∈ own.map (·.2)) (hc : X.calm = true) (hN : X.N.Nodup) (hi : XI X J W tg iter q src) (ok : BlkOk X.N X.env.scope scope own)
    (hg : ∀ (s : Shared) (H : Hp) (C : Addr) (cl : List (Str × Addr)) (fp : List Addr), XG (X.blk s H scope (compEnvC scope cl C X.env) fp) J tg ix tgt) (ht : ∀ (s : Shared) (H : Hp) (C : Addr) (cl : List (Str × Addr)) (fp : List Addr), XPs (X.blk s H scope (compEnvC scope cl C X.env) fp) J WN ifs qc cond)
    (he : ∀ (s : Shared) (H : Hp) (C : Addr) (cl : List (Str × Addr)) (fp : List Addr), XE (X.blk s H scope (compEnvC scope cl C X.env) fp) J WN elt qe felt) (hs : ∀ x, foldedSetIterable iter X.env x = pure x := by intro _; rfl) (nf : ∀ i ∈ own.map (·.2), NF J i := by first | exact fun _ _ => nf_none (by assumption) | exact nfs_ne (by assumption) rfl) :
    XE X J W (.ListComp elt [⟨tg, iter, ifs, 0⟩] scope pos) (q && (qc && qe)) (fLc (qc && qe) (own.map (·.2)) src tgt cond felt) :=
  ⟨(pe_lc hc hN hi.pi ok (fun s H C cl fp => (hg s H C cl fp).pg) (fun s H C cl fp => (ht s H C cl fp).pts) (fun s H C cl fp => (he s H C cl fp).pe) hs).imp fun σ H Q h => lc_ok nf hix h⟩
theorem xs_asgLc {i : Nat} {y : Str} {py spos : Pos} {src : SemI} {tgt : SemG} {ix : List Nat} {cond : SemB} {felt : Sem1} {ifs : List Expr} {scope : Scope} {own : List (Str × Nat)} (hix : ∀ i ∈ ix, i ∈ own.map (·.2)) (hc : X.calm = true) (hN : X.N.Nodup) (hy : X.N[i]? = some y) (hyl : X.env.scope.names.lookup y = some .local)
    (hsw : swapsWith (.ListComp elt [⟨tg, iter, ifs, 0⟩] scope pos) (some (.Name y py)) spos.line X.env = pure true) (hi : XI X J W tg iter q src) (ok : BlkOk X.N X.env.scope scope own)
    (hg : ∀ (s : Shared) (H : Hp) (C : Addr) (cl : List (Str × Addr)) (fp : List Addr), XG (X.blk s H scope (compEnvC scope cl C X.env) fp) J tg ix tgt) (ht : ∀ (s : Shared) (H : Hp) (C : Addr) (cl : List (Str × Addr)) (fp : List Addr), XPs (X.blk s H scope (compEnvC scope cl C X.env) fp) J WN ifs qc cond)
    (he : ∀ (s : Shared) (H : Hp) (C : Addr) (cl : List (Str × Addr)) (fp : List Addr), XE (X.blk s H scope (compEnvC scope cl C X.env) fp) J WN elt qe felt) (hs : ∀ x, foldedSetIterable iter X.env x = pure x := by intro _; rfl) (nf : ∀ i ∈ own.map (·.2), NF J i := by first | exact fun _ _ => nf_none (by assumption) | exact nfs_ne (by assumption) rfl) (nfi : NF J i := by first | exact nf_none (by assumption) | exact nf_ne (by assumption) rfl) :
    XS X J W (.Assign [.Name y py] (.ListComp elt [⟨tg, iter, ifs, 0⟩] scope pos) spos) (sAsg i (fLc (qc && qe) (own.map (·.2)) src tgt cond felt)) := by
  refine ⟨(ps_setLc hc hN hy hyl hsw hi.pi ok (fun s H C cl fp => (hg s H C cl fp).pg) (fun s H C cl fp => (ht s H C cl fp).pts) (fun s H C cl fp => (he s H C cl fp).pe) hs).imp fun σ H D h => ?_⟩
  obtain ⟨ρ, τ, I, c, m⟩ := h
  exact lc_ok nf hix ⟨ρ, τ, I, .inr c, outS_bnd m fun s ρ1 m1 v H1 I1 => stS_ok nfi m1 I1⟩
theorem xs_asgLcF {i : Nat} {y : Str} {py spos : Pos} {src : SemI} {tgt : SemG} {ix : List Nat} {cond : SemB} {felt : Sem1} {ifs : List Expr} {scope : Scope} {own : List (Str × Nat)} (hix : ∀ i ∈ ix, i ∈ own.map (·.2)) (hc : X.calm = true) (hN : X.N.Nodup) (hy : X.N[i]? = some y) (hyl : X.env.scope.names.lookup y = some .local)
    (hsw : swapsWith (.ListComp elt [⟨tg, iter, ifs, 0⟩] scope pos) (some (.Name y py)) spos.line X.env = pure true) (hi : XI X J W tg iter q src) (ok : BlkOk X.N X.env.scope scope own)
    (hg : ∀ (s : Shared) (H : Hp) (C : Addr) (cl : List (Str × Addr)) (fp : List Addr), XG (X.blk s H scope (compEnvC scope cl C X.env) fp) J tg ix tgt) (ht : ∀ (s : Shared) (H : Hp) (C : Addr) (cl : List (Str × Addr)) (fp : List Addr), XPs (X.blk s H scope (compEnvC scope cl C X.env) fp) J WN ifs qc cond)
    (he : ∀ (s : Shared) (H : Hp) (C : Addr) (cl : List (Str × Addr)) (fp : List Addr), XE (X.blk s H scope (compEnvC scope cl C X.env) fp) J WN elt qe felt) (hs : ∀ x, foldedSetIterable iter X.env x = pure x := by intro _; rfl) (nf : ∀ i ∈ own.map (·.2), NF J i := by first | exact fun _ _ => nf_none (by assumption) | exact nfs_ne (by assumption) rfl) (nfi : NF J i := by first | exact nf_none (by assumption) | exact nf_ne (by assumption) rfl) :
    XS X J W (.Assign [.Name y py] (.ListComp elt [⟨tg, iter, ifs, 0⟩] scope pos) spos) (sAsg i (fFrz (fLc (qc && qe) (own.map (·.2)) src tgt cond felt))) := by
  refine ⟨(ps_setLc hc hN hy hyl hsw hi.pi ok (fun s H C cl fp => (hg s H C cl fp).pg) (fun s H C cl fp => (ht s H C cl fp).pts) (fun s H C cl fp => (he s H C cl fp).pe) hs).imp fun σ H D h => ?_⟩
  obtain ⟨ρ, τ, I, c, m⟩ := h
  refine lc_ok nf hix ⟨ρ, τ, I, .inr c, ?_⟩
  have m2 : Out J W τ σ (fFrz (fLc (qc && qe) (own.map (·.2)) src tgt cond felt) ρ) (fun v H => D.nx (σ.set i (some v)) H) := outS_bnd m fun s ρ1 m1 v H1 I1 => stS_ok nfi m1 I1
  unfold fFrz at m2
  cases e : fLc (qc && qe) (own.map (·.2)) src tgt cond felt ρ with
  | ok s ρ1 =>
    rw [e] at m2
    rintro v H1 ⟨F, B, O, I1⟩
    obtain ⟨md, d⟩ := s
    cases md with
    | own => exact m2 v H1 I1.frz
    | shr => exact m2 v H1 ⟨F, B, O, I1⟩
    | _ => exact m2.elim
  | exc cc fs ρ1 => rw [e] at m2; exact m2
  | bad => rw [e] at m2; exact m2
def setAll : List Nat → List Vl → Md → En → Option En
  | [], [], _, ρ => some ρ
  | i :: is, d :: ds, m, ρ => (match noIo ρ i with
    | true => setAll is ds m (ρ.set i (some (mk m d)))
    | false => none)
  | _, _, _, _ => none
end
end MV
namespace MV
open PySem PySem.Spec PyProof.Rows L2
section
variable {X : Cx} {J : Jx} {W : WX} {e a b c o tg iter elt : Expr} {es : List Expr} {st : Stmt} {sts body orelse : List Stmt} {q qa qb qc qr qe : Bool} {fa fb fc : Sem1} {f g : SemS} {gc : SemB} {pos : Pos} {τ τ1 : List (Sv × V)} {σ : St} {H : Hp} {ρ : En}
def kFld (f : Str) (cs : List Str) : K1 := fun s ρ => match s.d with
  | .ins c fs => grd (decide (c ∈ cs)) (match fs.lookup f with
    | some d => .ok (mk s.m.kid d) ρ
    | none => .bad)
  | _ => .bad
structure FldOk (K : PySem.W.Frag) (cs : List Str) (f : Str) : Prop where
  ok : ∀ c ∈ cs, Cls K (He.ga K c) ∧ NoAttr K (He.ga K c) f
theorem xe_fld {f : Str} {cs : List Str} (hK : J.K = X.K) (hf : FldOk X.K cs f) (ha : XE X J W a qa fa) (hb : attributeBase a f X.env (eval a X.env) = eval a X.env := by rfl) : XE X J W (.Attribute a f pos) qa (fOne fa (kFld f cs)) := by
  refine ⟨(pe_fld ha.pe hb).imp fun σ H Q h => tE_one (fun _ _ _ _ _ I _ _ _ o h => o _ _ _ _ _ _ _ I h) (r := fun x H1 Q => ∃ a C dx fs v, x = .ref a ∧ H1 a = some (.ins C dx fs) ∧ Cls X.K C ∧ NoAttr X.K C f ∧ fs.lookup f = some v ∧ Q v H1) ?_ h⟩
  rintro ρ τ σ H ⟨md, d⟩ v Q ⟨F, B, O, I⟩ m
  cases d with
  | ins c fs =>
    obtain ⟨h, m⟩ := out_grd (b := decide (c ∈ cs)) m
    obtain ⟨p, dx, ws, e, g, r⟩ := I.top.ins I.base
    obtain ⟨h1, h2⟩ := hf.ok c (of_decide_eq_true h)
    cases z : fs.lookup f with
    | none => rw [z] at m; exact m.elim
    | some d =>
      rw [z] at m
      obtain ⟨w, w1, w2⟩ := r.look z
      rw [hK] at g
      exact ⟨p, _, dx, ws, w, e, g, h1, h2, w1, kid_out I.drop1 w2 m⟩
  | _ => exact m.elim
def sFldS (i : Nat) (f : Str) (cs : List Str) (fa : Sem1) : SemS := fun ρ => bndS (fa ρ) fun s ρ1 => grdS (isShr s.m) (match ρ1[i]? with
  | some (some ⟨m, .ins c fs⟩) => grdS (mutb m && decide (c ∈ cs) && decide (fs.length < 1000)) (.next (ρ1.set i (some ⟨m, .ins c (putFV f s.d fs)⟩)))
  | _ => .bad)
theorem xs_fld {i : Nat} {x f : Str} {cs : List Str} {p pos' : Pos} (hK : J.K = X.K) (hf : FldOk X.K cs f) (hN : X.N[i]? = some x) (hv : Vis X.env.scope x) (ha : XE X J W a qa fa) (hs : swapsWith a (some (.Attribute (.Name x p) f pos')) pos.line X.env = pure false := by rfl)
    (hd : (x == ("__debug__" : Str)) = false := by decide) (hcd : (x == ("__classdict__" : Str)) = false := by decide) : XS X J W (.Assign [.Attribute (.Name x p) f pos'] a pos) (sFldS i f cs fa) := by
  refine ⟨(ps_fld (pe_var hN hv hd hcd) ha.pe hs).imp fun σ H D h => ?_⟩
  obtain ⟨ρ, τ, I, c, m⟩ := h
  refine ⟨ρ, τ, I, .inr c, outS_bnd m fun s ρ1 m1 v H1 ⟨F, B, O, I1⟩ => ?_⟩
  obtain ⟨h, m1⟩ := outS_grd m1
  obtain ⟨md, d⟩ := s
  cases md with
  | shr =>
    have rd : Rep J.K F d v := I1.top
    cases e : ρ1[i]? with
    | none => rw [e] at m1; exact m1.elim
    | some s2 =>
      cases s2 with
      | none => rw [e] at m1; exact m1.elim
      | some s2 =>
        obtain ⟨m2, d2⟩ := s2
        rw [e] at m1
        cases d2 with
        | ins cc fs =>
          obtain ⟨h2, m1⟩ := outS_grd (b := mutb m2 && decide (cc ∈ cs) && decide (fs.length < 1000)) m1
          rw [Bool.and_eq_true, Bool.and_eq_true] at h2
          obtain ⟨p, o, e1, g, ⟨dx, ws, eo, r⟩, nw⟩ := I1.drop1.mut c e (mutb_or h2.1.1)
          subst eo
          obtain ⟨h3, h4⟩ := hf.ok cc (of_decide_eq_true h2.1.2)
          have I2 := nw (.ins cc (putFV f d fs)) (.ins (He.ga J.K cc) dx (putF f v ws)) ⟨dx, _, rfl, r.put rd⟩
          rw [hK] at I2 g
          exact ⟨.ref p, e1, p, _, dx, ws, rfl, g, h3, h4, by rw [r.len]; exact of_decide_eq_true h2.2, m1 σ _ ⟨F, B, O, I2⟩⟩
        | _ => exact m1.elim
  | _ => cases h
end
end MV
namespace MV
open PySem PySem.Spec PyProof.Rows L2
inductive PM where
  | sca | bor | shr | io
inductive FRes where
  | ret (r : Vl) (outs : List Vl)
  | exc (c : Str) (fs : List (Str × Vl)) (outs : List Vl)
  | bad
abbrev Fn := List Vl → FRes
def mns (H : Hp) (ios : List Addr) : Hp := fun b => if b ∈ ios then none else H b
theorem mns_sub {H : Hp} {ios : List Addr} : Sub (mns H ios) H := fun b o e => by
  unfold mns at e
  split at e
  · cases e
  · exact e
theorem mns_of {H : Hp} {ios : List Addr} {b : Addr} {o : HO} (h : H b = some o) (n : b ∉ ios) : mns H ios b = some o := by
  unfold mns; rw [if_neg n]; exact h
theorem mns_no {H : Hp} {ios : List Addr} {b : Addr} (n : b ∈ ios) : mns H ios b = none := by
  unfold mns; rw [if_pos n]
def ArgsR (K : PySem.W.Frag) (F H : Hp) (all : List Addr) : List PM → List Vl → List V → List Addr → Prop
  | [], [], [], as => as = []
  | .sca :: pm, d :: ds, v :: vs, as => isSc d = true ∧ Rep K F d v ∧ ArgsR K F H all pm ds vs as
  | .bor :: pm, d :: ds, v :: vs, as => Rep K (mns H all) d v ∧ ArgsR K F H all pm ds vs as
  | .shr :: pm, d :: ds, v :: vs, as => Rep K F d v ∧ ArgsR K F H all pm ds vs as
  | .io :: pm, d :: ds, v :: vs, as => ∃ a r, as = a :: r ∧ v = .ref a ∧ (∃ o, H a = some o ∧ OwnO K F d o) ∧ ArgsR K F H all pm ds vs r
  | _, _, _, _ => False
def OutsR (K : PySem.W.Frag) (F H : Hp) : List Vl → List Addr → Prop
  | [], as => as = []
  | d :: ds, as => ∃ a r, as = a :: r ∧ (∃ o, H a = some o ∧ OwnO K F d o) ∧ OutsR K F H ds r
structure After (K : PySem.W.Frag) (F H : Hp) (ios : List Addr) (F' H' : Hp) (outs : List Vl) : Prop where
  keep : ∀ b o, H b = some o → b ∉ ios → H' b = some o
  ff : Sub F F'
  fh : Sub F' H'
  new : ∀ b o, F' b = some o → F b = some o ∨ H b = none
  outs : OutsR K F' H' outs ios
  iof : ∀ a, a ∈ ios → F' a = none
def ResR (K : PySem.W.Frag) (rm : Bool) (H F' H' : Hp) (r : Vl) (v : V) : Prop :=
  if isSc r = true then Rep K F' r v else match rm with
  | true => ∃ a o, v = .ref a ∧ H' a = some o ∧ OwnO K F' r o ∧ F' a = none ∧ H a = none
  | false => Rep K F' r v
def spF (K : PySem.W.Frag) (pm : List PM) (rm : Bool) (fn : Fn) : Sp := fun vs H Q E => ∃ F ios ds, Sub F (mns H ios) ∧ ios.Nodup ∧ ArgsR K F H ios pm ds vs ios ∧ match fn ds with
  | .ret r outs => ∀ v H' F', After K F H ios F' H' outs → ResR K rm H F' H' r v → Q v H'
  | .exc c fs outs => ∀ cls d H' F', After K F H ios F' H' outs → ErrR K F' c fs cls d → E cls d H'
  | .bad => False
def initP : List PM → List Vl → En
  | .sca :: pm, d :: ds => some ⟨.shr, d⟩ :: initP pm ds
  | .bor :: pm, d :: ds => some (mk .bor d) :: initP pm ds
  | .shr :: pm, d :: ds => some ⟨.shr, d⟩ :: initP pm ds
  | .io :: pm, d :: ds => some ⟨.io, d⟩ :: initP pm ds
  | _, _ => []
def initE (pm : List PM) (ds : List Vl) (n : Nat) : En := initP pm ds ++ List.replicate (n - pm.length) none
def outsOf : List PM → Nat → En → Option (List Vl)
  | [], _, _ => some []
  | .io :: pm, j, ρ => (match ρ[j]? with
    | some (some ⟨.io, d⟩) => (outsOf pm (j + 1) ρ).map (d :: ·)
    | _ => none)
  | _ :: pm, j, ρ => outsOf pm (j + 1) ρ
def resOk (rm : Bool) (s : Sv) : Bool := isSc s.d || (match s.m, rm with
  | .own, _ => true
  | .shr, false => true
  | _, _ => false)
def fin (pm : List PM) (rm : Bool) (s : Sv) (ρ : En) : FRes := match outsOf pm 0 ρ with
  | some outs => (match resOk rm s with
    | true => .ret s.d outs
    | false => .bad)
  | none => .bad
def runB (pm : List PM) (rm : Bool) (n : Nat) (body : SemS) : Fn := fun ds => match body (initE pm ds n) with
  | .ret s ρ => fin pm rm s ρ
  | .next ρ => fin pm rm ⟨.shr, .non⟩ ρ
  | .exc c fs ρ => (match outsOf pm 0 ρ with
    | some outs => .exc c fs outs
    | none => .bad)
  | _ => .bad
def ioIx : List PM → Nat → List Nat
  | [], _ => []
  | .io :: pm, j => j :: ioIx pm (j + 1)
  | _ :: pm, j => ioIx pm (j + 1)
section
variable {K : PySem.W.Frag} {F H : Hp} {all : List Addr}
theorem ArgsR.len : ∀ {pm : List PM} {ds : List Vl} {vs : List V} {as : List Addr} (j : Nat), ArgsR K F H all pm ds vs as → ds.length = pm.length ∧ vs.length = pm.length ∧ as.length = (ioIx pm j).length
  | [], [], [], _, _, h => by rw [show _ = [] from h]; exact ⟨rfl, rfl, rfl⟩
  | [], _ :: _, _, _, _, h => by cases h
  | [], [], _ :: _, _, _, h => by cases h
  | .sca :: pm, [], _, _, _, h => by cases h
  | .bor :: pm, [], _, _, _, h => by cases h
  | .shr :: pm, [], _, _, _, h => by cases h
  | .io :: pm, [], _, _, _, h => by cases h
  | .sca :: pm, _ :: _, [], _, _, h => by cases h
  | .bor :: pm, _ :: _, [], _, _, h => by cases h
  | .shr :: pm, _ :: _, [], _, _, h => by cases h
  | .io :: pm, _ :: _, [], _, _, h => by cases h
  | .sca :: pm, d :: ds, v :: vs, as, j, ⟨_, _, h⟩ => by
    obtain ⟨h1, h2, h3⟩ := h.len (j + 1)
    exact ⟨by rw [List.length_cons, List.length_cons, h1], by rw [List.length_cons, List.length_cons, h2], h3⟩
  | .bor :: pm, d :: ds, v :: vs, as, j, ⟨_, h⟩ => by
    obtain ⟨h1, h2, h3⟩ := h.len (j + 1)
    exact ⟨by rw [List.length_cons, List.length_cons, h1], by rw [List.length_cons, List.length_cons, h2], h3⟩
  | .shr :: pm, d :: ds, v :: vs, as, j, ⟨_, h⟩ => by
    obtain ⟨h1, h2, h3⟩ := h.len (j + 1)
    exact ⟨by rw [List.length_cons, List.length_cons, h1], by rw [List.length_cons, List.length_cons, h2], h3⟩
  | .io :: pm, d :: ds, v :: vs, as, j, ⟨a, r, e, _, _, h⟩ => by
    obtain ⟨h1, h2, h3⟩ := h.len (j + 1)
    subst e
    exact ⟨by rw [List.length_cons, List.length_cons, h1], by rw [List.length_cons, List.length_cons, h2], by show _ = (ioIx pm (j + 1)).length + 1; rw [List.length_cons, h3]⟩
theorem initP_len : ∀ {pm : List PM} {ds : List Vl}, ds.length = pm.length → (initP pm ds).length = pm.length
  | [], [], _ => rfl
  | [], _ :: _, h => by cases h
  | p :: pm, [], h => by cases h
  | p :: pm, d :: ds, h => by
    have ih := initP_len (pm := pm) (ds := ds) (by simpa using h)
    cases p <;> (show (initP pm ds).length + 1 = _; rw [ih]; rfl)
theorem args_slot {J : Jx} {B : Hp} {O : Addr → Option Ow} (hJ : J.K = K) (hB : B = mns H all) (hF : Sub F B) : ∀ {pm : List PM} {ds : List Vl} {vs : List V} {as : List Addr} (j : Nat), ArgsR K F H all pm ds vs as →
    (∀ p ∈ (ioIx pm j).zip as, O p.2 = some (.inl p.1) ∧ J.ios.lookup p.1 = some p.2 ∧ B p.2 = none) →
    ∀ i s, (initP pm ds)[i]? = some (some s) → s.m ≠ .tmp ∧ ∃ v, vs[i]? = some v ∧ SR J F B H O (.inl (j + i)) s v
  | [], [], [], _, _, _, _, i, s, e => by cases e
  | [], _ :: _, _, _, _, h, _, _, _, _ => by cases h
  | [], [], _ :: _, _, _, h, _, _, _, _ => by cases h
  | .sca :: pm, [], _, _, _, h, _, _, _, _ => by cases h
  | .bor :: pm, [], _, _, _, h, _, _, _, _ => by cases h
  | .shr :: pm, [], _, _, _, h, _, _, _, _ => by cases h
  | .io :: pm, [], _, _, _, h, _, _, _, _ => by cases h
  | .sca :: pm, _ :: _, [], _, _, h, _, _, _, _ => by cases h
  | .bor :: pm, _ :: _, [], _, _, h, _, _, _, _ => by cases h
  | .shr :: pm, _ :: _, [], _, _, h, _, _, _, _ => by cases h
  | .io :: pm, _ :: _, [], _, _, h, _, _, _, _ => by cases h
  | .sca :: pm, d :: ds, v :: vs, as, j, ⟨_, r, h⟩, ho, i, s, e => by
    cases i with
    | zero => cases e; exact ⟨(fun z => nomatch z), v, rfl, by subst hJ; exact r⟩
    | succ i =>
      obtain ⟨h1, v, h2, h3⟩ := args_slot hJ hB hF (j + 1) h ho i s e
      exact ⟨h1, v, h2, by rw [show j + (i + 1) = j + 1 + i by omega]; exact h3⟩
  | .shr :: pm, d :: ds, v :: vs, as, j, ⟨r, h⟩, ho, i, s, e => by
    cases i with
    | zero => cases e; exact ⟨(fun z => nomatch z), v, rfl, by subst hJ; exact r⟩
    | succ i =>
      obtain ⟨h1, v, h2, h3⟩ := args_slot hJ hB hF (j + 1) h ho i s e
      exact ⟨h1, v, h2, by rw [show j + (i + 1) = j + 1 + i by omega]; exact h3⟩
  | .bor :: pm, d :: ds, v :: vs, as, j, ⟨r, h⟩, ho, i, s, e => by
    cases i with
    | zero =>
      cases e
      subst hJ hB
      refine ⟨?_, v, rfl, ?_⟩
      · unfold mk; split <;> exact fun z => nomatch z
      · unfold mk
        split
        · rename_i q; exact Rep.sc r q
        · exact r
    | succ i =>
      obtain ⟨h1, v, h2, h3⟩ := args_slot hJ hB hF (j + 1) h ho i s e
      exact ⟨h1, v, h2, by rw [show j + (i + 1) = j + 1 + i by omega]; exact h3⟩
  | .io :: pm, d :: ds, v :: vs, as, j, ⟨a, r, ea, ev, ⟨o, g, ow⟩, h⟩, ho, i, s, e => by
    subst ea
    have ho' : ∀ p ∈ (j :: ioIx pm (j + 1)).zip (a :: r), O p.2 = some (.inl p.1) ∧ J.ios.lookup p.1 = some p.2 ∧ B p.2 = none := ho
    cases i with
    | zero =>
      cases e
      obtain ⟨q1, q2, q3⟩ := ho' (j, a) List.mem_cons_self
      exact ⟨(fun z => nomatch z), v, rfl, a, o, ev, g, by rw [hJ]; exact ow, q1, q3, j, rfl, q2⟩
    | succ i =>
      obtain ⟨h1, v, h2, h3⟩ := args_slot hJ hB hF (j + 1) h (fun p hp => ho' p (List.mem_cons_of_mem _ hp)) i s e
      exact ⟨h1, v, h2, by rw [show j + (i + 1) = j + 1 + i by omega]; exact h3⟩
theorem outs_end {J : Jx} {B : Hp} {O : Addr → Option Ow} {ρ : En} {σ : St} {τ : List (Sv × V)} (hJ : J.K = K) (I : IvW J F B O ρ τ σ H) : ∀ {pm : List PM} {as : List Addr} {outs : List Vl} (j : Nat), as.length = (ioIx pm j).length →
    (∀ p ∈ (ioIx pm j).zip as, J.ios.lookup p.1 = some p.2) → outsOf pm j ρ = some outs → OutsR K F H outs as ∧ ∀ a ∈ as, B a = none
  | [], as, outs, j, hl, _, e => by
    cases e
    have : as = [] := List.length_eq_zero_iff.mp hl
    subst this
    exact ⟨rfl, fun a h => by cases h⟩
  | .sca :: pm, as, outs, j, hl, hp, e => outs_end hJ I (pm := pm) (j + 1) hl hp e
  | .bor :: pm, as, outs, j, hl, hp, e => outs_end hJ I (pm := pm) (j + 1) hl hp e
  | .shr :: pm, as, outs, j, hl, hp, e => outs_end hJ I (pm := pm) (j + 1) hl hp e
  | .io :: pm, [], outs, j, hl, hp, e => by cases hl
  | .io :: pm, a :: as, outs, j, hl, hp, e => by
    have e : (match ρ[j]? with
      | some (some ⟨.io, d⟩) => (outsOf pm (j + 1) ρ).map (d :: ·)
      | _ => none) = some outs := e
    have hp' : ∀ p ∈ (j :: ioIx pm (j + 1)).zip (a :: as), J.ios.lookup p.1 = some p.2 := hp
    cases q : ρ[j]? with
    | none => rw [q] at e; cases e
    | some x =>
      cases x with
      | none => rw [q] at e; cases e
      | some s =>
        obtain ⟨m, d⟩ := s
        rw [q] at e
        cases m with
        | io =>
          obtain ⟨ds, e1, e2⟩ := Option.map_eq_some_iff.mp (show (outsOf pm (j + 1) ρ).map (d :: ·) = some outs from e)
          subst e2
          obtain ⟨h1, h2⟩ := outs_end hJ I (pm := pm) (as := as) (j + 1) (Nat.succ.inj hl) (fun p h => hp' p (List.mem_cons_of_mem _ h)) e1
          obtain ⟨_, v, e3, a2, o, ev, g, r, qo, nb, i2, ei, lk⟩ := I.slot j _ q
          have ei' : j = i2 := Sum.inl.inj ei
          subst ei'
          have lk2 := hp' (j, a) List.mem_cons_self
          rw [lk] at lk2
          have : a2 = a := Option.some.inj lk2
          subst this
          rw [hJ] at r
          exact ⟨⟨a2, as, rfl, ⟨o, g, r⟩, h1⟩, fun b hb => by
            rcases List.mem_cons.mp hb with z | z
            · rw [z]; exact nb
            · exact h2 b z⟩
        | _ => cases e
end
theorem lookup_zip {is : List Nat} {as : List Addr} (nd : is.Nodup) : ∀ p ∈ is.zip as, (is.zip as).lookup p.1 = some p.2 := by
  induction is generalizing as with
  | nil => intro p h; simp at h
  | cons i is ih =>
    cases as with
    | nil => intro p h; simp at h
    | cons a as =>
      intro p h
      rw [List.zip_cons_cons] at h ⊢
      rw [List.lookup_cons]
      rcases List.mem_cons.mp h with z | z
      · subst z; simp
      · have hne : p.1 ≠ i := fun y => (List.nodup_cons.mp nd).1 (by rw [← y]; exact (List.of_mem_zip z).1)
        have : (p.1 == i) = false := by simpa using hne
        rw [this]
        exact ih (List.nodup_cons.mp nd).2 p z
theorem ioIx_ge : ∀ {pm : List PM} {j i : Nat}, i ∈ ioIx pm j → j ≤ i
  | [], _, _, h => by cases h
  | .sca :: pm, j, i, h => Nat.le_of_succ_le (ioIx_ge (pm := pm) h)
  | .bor :: pm, j, i, h => Nat.le_of_succ_le (ioIx_ge (pm := pm) h)
  | .shr :: pm, j, i, h => Nat.le_of_succ_le (ioIx_ge (pm := pm) h)
  | .io :: pm, j, i, h => by
    rcases List.mem_cons.mp (show i ∈ j :: ioIx pm (j + 1) from h) with z | z
    · exact Nat.le_of_eq z.symm
    · exact Nat.le_of_succ_le (ioIx_ge z)
theorem ioIx_nd : ∀ {pm : List PM} {j : Nat}, (ioIx pm j).Nodup
  | [], _ => List.nodup_nil
  | .sca :: pm, j => ioIx_nd (pm := pm)
  | .bor :: pm, j => ioIx_nd (pm := pm)
  | .shr :: pm, j => ioIx_nd (pm := pm)
  | .io :: pm, j => by
    show (j :: ioIx pm (j + 1)).Nodup
    exact List.nodup_cons.mpr ⟨fun h => Nat.not_succ_le_self _ (ioIx_ge h), ioIx_nd⟩
def ownOf (l : List (Nat × Addr)) (b : Addr) : Option Ow := match l with
  | [] => none
  | (i, a) :: r => if b = a then some (.inl i) else ownOf r b
theorem ownOf_zip {is : List Nat} {as : List Addr} (nd : as.Nodup) : ∀ p ∈ is.zip as, ownOf (is.zip as) p.2 = some (.inl p.1) := by
  induction is generalizing as with
  | nil => intro p h; simp at h
  | cons i is ih =>
    cases as with
    | nil => intro p h; simp at h
    | cons a as =>
      intro p h
      rw [List.zip_cons_cons] at h ⊢
      unfold ownOf
      rcases List.mem_cons.mp h with z | z
      · subst z; exact if_pos rfl
      · have hne : p.2 ≠ a := fun y => (List.nodup_cons.mp nd).1 (by rw [← y]; exact (List.of_mem_zip z).2)
        rw [if_neg hne]
        exact ih (List.nodup_cons.mp nd).2 p z
theorem zip_snd {is : List Nat} {as : List Addr} (h : as.length = is.length) : (is.zip as).map (·.2) = as := by
  induction is generalizing as with
  | nil => cases as with
    | nil => rfl
    | cons a as => cases h
  | cons i is ih => cases as with
    | nil => rfl
    | cons a as => rw [List.zip_cons_cons, List.map_cons, ih (by simpa using h)]
theorem entry {K : PySem.W.Frag} {F H : Hp} {ios : List Addr} {pm : List PM} {ds : List Vl} {vs : List V} {N : List Str} (hn : pm.length ≤ N.length) (hF : Sub F (mns H ios)) (nd : ios.Nodup) (a : ArgsR K F H ios pm ds vs ios) (iot : ∀ x, x ∈ ios → ∃ o, H x = some o) :
    Iv ⟨K, H, F, (ioIx pm 0).zip ios, none⟩ (initE pm ds N.length) [] (L2.start N vs) H := by
  obtain ⟨l1, l2, l3⟩ := a.len 0
  have em : ((ioIx pm 0).zip ios).map (·.2) = ios := zip_snd l3
  have eio : (Jx.mk K H F ((ioIx pm 0).zip ios) none).io = ios := em
  refine ⟨F, mns H ios, ownOf ((ioIx pm 0).zip ios), ⟨hF, mns_sub, fun _ _ e => e, fun b o e => .inl e, fun b o e n => e, fun b hb => ?_⟩, ?_, fun i s e => ?_, trivial⟩
  · rw [eio] at hb; exact iot b hb
  · refine ⟨?_, fun i v e => by cases e⟩
    unfold initE L2.start
    rw [List.length_append, List.length_append, List.length_replicate, List.length_replicate, List.length_map, initP_len l1, l2]
  · have hi : i < (initP pm ds).length := by
      by_cases c : i < (initP pm ds).length
      · exact c
      · unfold initE at e
        rw [List.getElem?_append_right (Nat.le_of_not_lt c), List.getElem?_replicate] at e
        split at e <;> cases e
    have e2 : (initP pm ds)[i]? = some (some s) := by
      unfold initE at e
      rwa [List.getElem?_append_left hi] at e
    obtain ⟨h1, v, h2, h3⟩ := args_slot (J := ⟨K, H, F, (ioIx pm 0).zip ios, none⟩) (B := mns H ios) (O := ownOf ((ioIx pm 0).zip ios)) rfl rfl hF 0 a (fun p hp => ⟨ownOf_zip nd p hp, lookup_zip ioIx_nd p hp, mns_no (List.of_mem_zip hp).2⟩) i s e2
    rw [Nat.zero_add] at h3
    refine ⟨h1, v, ?_, h3⟩
    unfold L2.start
    have hv : i < vs.length := (List.getElem?_eq_some_iff.mp h2).1
    rw [List.getElem?_append_left (by rw [List.length_map]; exact hv), List.getElem?_map, h2]
    rfl
theorem after_of {K : PySem.W.Frag} {F H F' B' H' : Hp} {O' : Addr → Option Ow} {ios : List Addr} {pm : List PM} {outs : List Vl} {ρ : En} {σ : St} {τ : List (Sv × V)} (l3 : ios.length = (ioIx pm 0).length) (I : IvW ⟨K, H, F, (ioIx pm 0).zip ios, none⟩ F' B' O' ρ τ σ H') (ho : outsOf pm 0 ρ = some outs) : After K F H ios F' H' outs := by
  have eio : (Jx.mk K H F ((ioIx pm 0).zip ios) none).io = ios := zip_snd l3
  obtain ⟨h1, h2⟩ := outs_end (J := ⟨K, H, F, (ioIx pm 0).zip ios, none⟩) rfl I 0 l3 (fun p hp => lookup_zip ioIx_nd p hp) ho
  exact ⟨fun b o e n => I.base.keep b o e (by rw [eio]; exact n), I.base.f0, fun b o e => I.base.bh _ _ (I.base.fb b o e), I.base.new, h1, fun a ha => I.base.freeF (h2 a ha)⟩
theorem res_of {K : PySem.W.Frag} {F H F' B' H' : Hp} {O' : Addr → Option Ow} {ios : List (Nat × Addr)} {rm : Bool} {ρ : En} {σ : St} {s : Sv} {v : V} {τ : List (Sv × V)} (I : IvW ⟨K, H, F, ios, none⟩ F' B' O' ρ ((s, v) :: τ) σ H') (h : resOk rm s = true) (nf : s.m = .own → rm = true) : ResR K rm H F' H' s.d v := by
  unfold ResR
  split
  · rename_i q; exact Rep.sc (I.top.rep I.base) q
  · rename_i q
    have q' : isSc s.d = false := by simpa using q
    obtain ⟨m, d⟩ := s
    unfold resOk at h
    rw [q', Bool.false_or] at h
    cases m with
    | own =>
      rw [nf rfl]
      obtain ⟨a, o, e, g, r, _, nb, h0⟩ := I.top
      exact ⟨a, o, e, g, r, I.base.freeF nb, h0⟩
    | shr =>
      cases rm with
      | true => cases h
      | false => exact I.top
    | _ => cases rm <;> cases h
theorem argsR_io {K : PySem.W.Frag} {F H : Hp} {all : List Addr} : ∀ {pm : List PM} {ds : List Vl} {vs : List V} {as : List Addr}, ArgsR K F H all pm ds vs as → ∀ x, x ∈ as → ∃ o, H x = some o
  | [], [], [], _, h, x, hx => by rw [show _ = [] from h] at hx; cases hx
  | [], _ :: _, _, _, h, _, _ => by cases h
  | [], [], _ :: _, _, h, _, _ => by cases h
  | .sca :: pm, [], _, _, h, _, _ => by cases h
  | .bor :: pm, [], _, _, h, _, _ => by cases h
  | .shr :: pm, [], _, _, h, _, _ => by cases h
  | .io :: pm, [], _, _, h, _, _ => by cases h
  | .sca :: pm, _ :: _, [], _, h, _, _ => by cases h
  | .bor :: pm, _ :: _, [], _, h, _, _ => by cases h
  | .shr :: pm, _ :: _, [], _, h, _, _ => by cases h
  | .io :: pm, _ :: _, [], _, h, _, _ => by cases h
  | .sca :: pm, d :: ds, v :: vs, as, ⟨_, _, h⟩, x, hx => argsR_io h x hx
  | .bor :: pm, d :: ds, v :: vs, as, ⟨_, h⟩, x, hx => argsR_io h x hx
  | .shr :: pm, d :: ds, v :: vs, as, ⟨_, h⟩, x, hx => argsR_io h x hx
  | .io :: pm, d :: ds, v :: vs, as, ⟨a, r, e, _, ⟨o, g, _⟩, h⟩, x, hx => by
    subst e
    rcases List.mem_cons.mp hx with z | z
    · rw [z]; exact ⟨o, g⟩
    · exact argsR_io h x z
theorem body_ends {K : PySem.W.Frag} {F H : Hp} {ios : List Addr} {pm : List PM} {rm : Bool} {ds : List Vl} {n : Nat} {body : SemS} {Q : VK} {E : XK} (l3 : ios.length = (ioIx pm 0).length) (h : match runB pm rm n body ds with
    | .ret r outs => ∀ v H' F', After K F H ios F' H' outs → ResR K rm H F' H' r v → Q v H'
    | .exc c fs outs => ∀ cls d H' F', After K F H ios F' H' outs → ErrR K F' c fs cls d → E cls d H'
    | .bad => False) : OutS ⟨K, H, F, (ioIx pm 0).zip ios, none⟩ (fun cls d _ H => E cls d H) [] (body (initE pm ds n)) { nx := fun _ H' => Q .non H', rt := Q } := by
  have fin_ok : ∀ (s : Sv) (ρ : En), (match fin pm rm s ρ with
    | .ret r outs => ∀ v H' F', After K F H ios F' H' outs → ResR K rm H F' H' r v → Q v H'
    | .exc c fs outs => ∀ cls d H' F', After K F H ios F' H' outs → ErrR K F' c fs cls d → E cls d H'
    | .bad => False) → ∀ v σ H', Iv ⟨K, H, F, (ioIx pm 0).zip ios, none⟩ ρ [(s, v)] σ H' → Q v H' := fun s ρ h v σ H' I => by
    unfold fin at h
    cases e : outsOf pm 0 ρ with
    | none => rw [e] at h; exact h.elim
    | some outs =>
      rw [e] at h
      replace h : (match (match resOk rm s with | true => FRes.ret s.d outs | false => FRes.bad) with
        | .ret r outs => ∀ v H' F', After K F H ios F' H' outs → ResR K rm H F' H' r v → Q v H'
        | .exc c fs outs => ∀ cls d H' F', After K F H ios F' H' outs → ErrR K F' c fs cls d → E cls d H'
        | .bad => False) := h
      cases z : resOk rm s with
      | false => rw [z] at h; exact h.elim
      | true =>
        rw [z] at h
        obtain ⟨m, d⟩ := s
        by_cases y : m = .own ∧ rm = false
        · obtain ⟨y1, y2⟩ := y
          subst y1 y2
          obtain ⟨F', B', O', I⟩ := I
          obtain ⟨F', B', O', I2⟩ := I.frz
          have I3 : IvW ⟨K, H, F, (ioIx pm 0).zip ios, none⟩ F' B' O' ρ [(⟨.shr, d⟩, v)] σ H' := I2
          refine h v H' F' (after_of l3 I3 e) ?_
          unfold ResR
          split
          · exact I3.top
          · exact I3.top
        · obtain ⟨F', B', O', I⟩ := I
          refine h v H' F' (after_of l3 I e) (res_of I z fun q => ?_)
          cases rm with
          | true => rfl
          | false => exact absurd ⟨q, rfl⟩ y
  unfold runB at h
  cases e : body (initE pm ds n) with
  | ret s ρ => rw [e] at h; exact fun v σ H' I => fin_ok s ρ h v σ H' I
  | next ρ =>
    rw [e] at h
    refine fun σ H' I => fin_ok ⟨.shr, .non⟩ ρ h .non σ H' ?_
    obtain ⟨F', B', O', I⟩ := I
    exact I.push (s := ⟨.shr, .non⟩) rfl
  | exc c fs ρ =>
    rw [e] at h
    rintro cls d σ H' ⟨F', B', O', I, er⟩
    replace h : (match (match outsOf pm 0 ρ with | some outs => FRes.exc c fs outs | none => FRes.bad) with
        | .ret r outs => ∀ v H' F', After K F H ios F' H' outs → ResR K rm H F' H' r v → Q v H'
        | .exc c fs outs => ∀ cls d H' F', After K F H ios F' H' outs → ErrR K F' c fs cls d → E cls d H'
        | .bad => False) := h
    cases z : outsOf pm 0 ρ with
    | none => rw [z] at h; exact h.elim
    | some outs => rw [z] at h; exact h cls d H' F' (after_of l3 I z) er
  | brk ρ => rw [e] at h; exact h.elim
  | cont ρ => rw [e] at h; exact h.elim
  | bad => rw [e] at h; exact h.elim
theorem fn_mv {P : Program} {w : World} {K : PySem.W.Frag} {mg : Str → Option Value} {base : Heap} {x qual : Str} {params : Arguments} {body : List Stmt} {scope : Scope} {dvs : List V} {kws : List (Str × V)} {f : Addr} {fd : FuncData} {N ps : List Str} {k : Nat} {pm : List PM} {rm : Bool} {bd : SemS}
    (F : FunD K x qual params body scope dvs kws f fd) (S : FnScope N ps scope) (hp : pm.length = ps.length)
    (hb : ∀ (cdv : Value) (A : Around) (outer : List Env) (s : Shared) (H : Hp) (E : XK) (J : Jx), J.K = K → J.fx = none → Room k (A.deeper (envOfC qual scope s.heap.objs.size f cdv)) →
      XB (cxOf (L2N.CX P w) P w K mg base N qual scope f cdv A outer s H E) J (fun cls d _ H => E cls d H) body bd) :
    FnOk P w K mg base (L2N.CX P w) (k + 1) f fd ps (spF K pm rm (runB pm rm N.length bd)) := by
  have hpl : ps.length ≤ N.length := by have := congrArg List.length S.pre; rw [List.length_take] at this; omega
  refine F.ok S (fun vs H Q E h => ?_) fun cdv A outer s H vs Q E hr h => ?_
  · obtain ⟨F0, ios, ds, _, _, a, _⟩ := h
    rw [(a.len 0).2.1, hp]
  · obtain ⟨F0, ios, ds, hF, nd, a, m⟩ := h
    refine ⟨_, (hb cdv A outer s H E ⟨K, H, F0, (ioIx pm 0).zip ios, none⟩ rfl rfl hr).pss, initE pm ds N.length, [], entry (by rw [hp]; exact hpl) hF nd a (argsR_io a), fun _ h => by simp at h, body_ends (a.len 0).2.2 m⟩
end MV
namespace MV
open PySem PySem.Spec PyProof.Rows L2
def CallAt (X : Cx) (W : WX) (f : Addr) (sp : Sp) : Prop := ∀ (pins : List (Addr × Obj)) (σ : St) (H : Hp) (s : Shared) (Q : VK) (us : List Value) (vs : List V), Inv X pins σ H s → Vals vs us → sp vs H Q (WE W σ) →
  wpAny (model X.prog X.w) X.A (call (.ref f) us) (EP X pins σ Q) X.xe s
theorem callAt0 {X : Cx} {W : WX} {k : Nat} {f : Addr} {fd : FuncData} {ps : List Str} {sp : Sp} (F : FnOk X.prog X.w X.K X.mg X.base (L2N.CX X.prog X.w) k f fd ps sp) (hr : Room k X.A) (hb : Binds X.K fd ps []) (tk : Takes X W) :
    CallAt X W f sp := fun pins σ H s Q us vs I r h => run_fnS F hr hb (passAt tk σ) I r h
def ioSl : List PM → List Ar → List Nat
  | .io :: pm, .sl i :: as => i :: ioSl pm as
  | _ :: pm, _ :: as => ioSl pm as
  | _, _ => []
def chkA (is : List Nat) : List PM → List Ar → Bool
  | [], [] => true
  | .io :: pm, .sl _ :: as => chkA is pm as
  | .io :: _, .ex _ :: _ => false
  | _ :: pm, .sl i :: as => !(is.contains i) && chkA is pm as
  | _ :: pm, .ex _ :: as => chkA is pm as
  | _, _ => false
def arV (ρ : En) : Ar → Option Sv
  | .ex s => some s
  | .sl i => match ρ[i]? with
    | some (some s) => some s
    | _ => none
def arD (p : PM) (s : Sv) : Option Vl := match p with
  | .sca => if isSc s.d then some s.d else none
  | .bor => if s.m.isT then none else some s.d
  | .shr => match s.m with
    | .shr => some s.d
    | _ => none
  | .io => match s.m with
    | .own => some s.d
    | .io => some s.d
    | _ => none
def argVs (ρ : En) : List PM → List Ar → Option (List Vl)
  | [], [] => some []
  | p :: pm, a :: as => match arV ρ a with
    | some s => match arD p s with
      | some d => (argVs ρ pm as).map (d :: ·)
      | none => none
    | none => none
  | _, _ => none
theorem arV_sl {ρ : En} {i : Nat} : arV ρ (.sl i) = (match ρ[i]? with
    | some (some s) => some s
    | _ => none) := rfl
theorem argVs_cons {ρ : En} {p : PM} {pm : List PM} {a : Ar} {as : List Ar} : argVs ρ (p :: pm) (a :: as) = (match arV ρ a with
    | some s => match arD p s with
      | some d => (argVs ρ pm as).map (d :: ·)
      | none => none
    | none => none) := rfl
def putD (ρ : En) (i : Nat) (d : Vl) : En := match ρ[i]? with
  | some (some ⟨m, _⟩) => ρ.set i (some ⟨m, d⟩)
  | _ => ρ
def setOuts : List Nat → List Vl → En → En
  | i :: is, d :: ds, ρ => setOuts is ds (putD ρ i d)
  | _, _, ρ => ρ
def resM (rm : Bool) (r : Vl) : Sv := if isSc r then ⟨.shr, r⟩ else match rm with
  | true => ⟨.own, r⟩
  | false => ⟨.shr, r⟩
def ndB : List Nat → Bool
  | [] => true
  | i :: is => !(is.contains i) && ndB is
theorem ndB_nd : ∀ {is : List Nat}, ndB is = true → is.Nodup
  | [], _ => List.nodup_nil
  | i :: is, h => by
    obtain ⟨h1, h2⟩ := Bool.and_eq_true_iff.mp (show (!(is.contains i) && ndB is) = true from h)
    refine List.nodup_cons.mpr ⟨fun z => ?_, ndB_nd h2⟩
    rw [List.contains_iff_mem.mpr z] at h1
    cases h1
def kCall (pm : List PM) (rm : Bool) (fn : Fn) (as : List Ar) (ρ : En) : Rs Sv :=
  grd (ndB (ioSl pm as) && chkA (ioSl pm as) pm as) (match argVs ρ pm as with
    | none => .bad
    | some ds => match fn ds with
      | .ret r outs => .ok (resM rm r) (setOuts (ioSl pm as) outs ρ)
      | .exc c fs outs => .exc c fs (setOuts (ioSl pm as) outs ρ)
      | .bad => .bad)
def fCall (pm : List PM) (rm : Bool) (fn : Fn) (fa : SemA) : Sem1 := fun ρ => bnd (fa ρ) fun as ρ1 => kCall pm rm fn as ρ1
def adr (σ : St) (i : Nat) : Addr := match σ[i]? with
  | some (some (.ref a)) => a
  | _ => 0
def isO : Md → Bool
  | .own => true
  | .io => true
  | _ => false
section
variable {J : Jx} {F B H : Hp} {O : Addr → Option Ow} {ρ : En} {τ : List (Sv × V)} {σ : St} {ow : Ow} {s : Sv} {v : V}
theorem IvW.oslot {i : Nat} {m : Md} {d : Vl} (I : IvW J F B O ρ τ σ H) (e : ρ[i]? = some (some ⟨m, d⟩)) (hm : isO m = true) : σ[i]? = some (some (.ref (adr σ i))) ∧ (∃ o, H (adr σ i) = some o ∧ OwnO J.K F d o) ∧ O (adr σ i) = some (.inl i) ∧ B (adr σ i) = none ∧ (J.H0 (adr σ i) = none ∨ adr σ i ∈ J.io) := by
  obtain ⟨_, v, e1, r⟩ := I.slot i _ e
  cases m with
  | own =>
    obtain ⟨a, o, ev, g, w, q, n, z⟩ := r
    subst ev
    have : adr σ i = a := by unfold adr; rw [e1]
    rw [this]
    exact ⟨e1, ⟨o, g, w⟩, q, n, .inl z⟩
  | io =>
    obtain ⟨a, o, ev, g, w, q, n, j, ej, z⟩ := r
    subst ev
    have : adr σ i = a := by unfold adr; rw [e1]
    rw [this]
    exact ⟨e1, ⟨o, g, w⟩, q, n, .inr (lookup_io z)⟩
  | _ => cases hm
def OSl (ρ : En) (i : Nat) : Prop := ∃ m d, ρ[i]? = some (some ⟨m, d⟩) ∧ isO m = true
theorem arD_sca {s : Sv} {d : Vl} (e : arD .sca s = some d) : isSc s.d = true ∧ d = s.d := by
  unfold arD at e
  split at e
  · rename_i z; split at e
    · rename_i q; cases e; exact ⟨q, rfl⟩
    · cases e
  all_goals (rename_i h; cases h)
theorem arD_bor {s : Sv} {d : Vl} (e : arD .bor s = some d) : d = s.d ∧ s.m ≠ .tmp := by
  obtain ⟨m, d0⟩ := s
  cases m <;> first | (cases e; done) | (cases e; exact ⟨rfl, fun z => nomatch z⟩)
theorem Rep.up {K : PySem.W.Frag} {G G' : Hp} {d : Vl} {v : V} (q : Sub G G') (h : Rep K G d v) : Rep K G' d v := Rep.mono q h
theorem fmns {is : List Nat} (I : IvW J F B O ρ τ σ H) (ok : ∀ i ∈ is, OSl ρ i) : Sub F (mns H (is.map (adr σ))) := fun b o e => by
  refine mns_of (I.base.bh _ _ (I.base.fb _ _ e)) fun hm => ?_
  obtain ⟨i, hi, rfl⟩ := List.mem_map.mp hm
  obtain ⟨m, d, e1, e2⟩ := ok i hi
  have := (I.oslot e1 e2).2.2.2.1
  rw [I.base.fb _ _ e] at this
  cases this
theorem bmns {is : List Nat} (I : IvW J F B O ρ τ σ H) (ok : ∀ i ∈ is, OSl ρ i) : Sub B (mns H (is.map (adr σ))) := fun b o e => by
  refine mns_of (I.base.bh _ _ e) fun hm => ?_
  obtain ⟨i, hi, rfl⟩ := List.mem_map.mp hm
  obtain ⟨m, d, e1, e2⟩ := ok i hi
  have := (I.oslot e1 e2).2.2.2.1
  rw [e] at this
  cases this
theorem SR.bor {is : List Nat} (I : IvW J F B O ρ τ σ H) (ok : ∀ i ∈ is, OSl ρ i) (h : SR J F B H O ow s v) (nt : s.m ≠ .tmp) (hw : ∀ i ∈ is, ow ≠ .inl i) : Rep J.K (mns H (is.map (adr σ))) s.d v := by
  have key : ∀ {a : Addr} {o : HO}, H a = some o → O a = some ow → mns H (is.map (adr σ)) a = some o := fun {a o} g q => mns_of g fun hm => by
    obtain ⟨i, hi, e⟩ := List.mem_map.mp hm
    obtain ⟨m, d, e1, e2⟩ := ok i hi
    have := (I.oslot e1 e2).2.2.1
    rw [e, q] at this
    exact hw i hi (Option.some.inj this)
  obtain ⟨m, d⟩ := s
  cases m with
  | shr => exact Rep.mono (fmns I ok) h
  | bor => exact Rep.mono (bmns I ok) h
  | tmp => exact absurd rfl nt
  | own => obtain ⟨a, o, e, g, r, q, _⟩ := h; subst e; exact r.rep (fmns I ok) (key g q)
  | io => obtain ⟨a, o, e, g, r, q, _⟩ := h; subst e; exact r.rep (fmns I ok) (key g q)
theorem nmem_of {is : List Nat} {i : Nat} (h : (!(is.contains i)) = true) : ∀ j ∈ is, (Sum.inl i : Ow) ≠ .inl j := fun j hj e => by
  cases e
  rw [List.contains_iff_mem.mpr hj] at h
  cases h
theorem args_R {is : List Nat} (nt : NoTmp τ) (ok : ∀ i ∈ is, OSl ρ i) : ∀ (pm : List PM) (as : List Ar) (ds : List Vl) (vs : List V) (τ τ' : List (Sv × V)), argVs ρ pm as = some ds → chkA is pm as = true → (∀ i ∈ ioSl pm as, i ∈ is) → Stk σ as vs τ τ' → IvW J F B O ρ τ' σ H →
    IvW J F B O ρ τ σ H ∧ ArgsR J.K F H (is.map (adr σ)) pm ds vs ((ioSl pm as).map (adr σ))
  | [], [], ds, vs, τ, τ', e, _, _, k, I => by
    cases e
    cases vs with
    | nil => rw [show τ' = τ from k] at I; exact ⟨I, rfl⟩
    | cons v vs => exact k.elim
  | [], a :: as, _, _, _, _, e, _, _, _, _ => by cases e
  | p :: pm, [], _, _, _, _, e, _, _, _, _ => by cases e
  | p :: pm, .ex s :: as, ds, [], τ, τ', e, c, hi, k, I => k.elim
  | p :: pm, .sl i :: as, ds, [], τ, τ', e, c, hi, k, I => k.elim
  | p :: pm, .ex s :: as, ds, v :: vs, τ, τ', e, c, hi, k, I => by
    have e' : (match arD p s with | some d => (argVs ρ pm as).map (d :: ·) | none => none) = some ds := e
    cases ed : arD p s with
    | none => rw [ed] at e'; cases e'
    | some d =>
      rw [ed] at e'
      obtain ⟨ds', e1, e2⟩ := Option.map_eq_some_iff.mp (show (argVs ρ pm as).map (d :: ·) = some ds from e')
      subst e2
      cases p with
      | io => cases c
      | sca =>
        obtain ⟨I1, r⟩ := args_R nt ok pm as ds' vs ((s, v) :: τ) τ' e1 c hi k I
        obtain ⟨q, hd⟩ := arD_sca ed
        subst hd
        exact ⟨I1.drop1, q, Rep.sc (I1.top.rep I1.base) q, r⟩
      | bor =>
        obtain ⟨I1, r⟩ := args_R nt ok pm as ds' vs ((s, v) :: τ) τ' e1 c hi k I
        obtain ⟨hd, nts⟩ := arD_bor ed
        subst hd
        exact ⟨I1.drop1, I1.top.bor I1 ok nts (fun _ _ z => nomatch z), r⟩
      | shr =>
        obtain ⟨I1, r⟩ := args_R nt ok pm as ds' vs ((s, v) :: τ) τ' e1 c hi k I
        obtain ⟨m, d0⟩ := s
        cases m <;> first | (cases ed; done) | (cases ed; exact ⟨I1.drop1, I1.top, r⟩)
  | p :: pm, .sl i :: as, ds, v :: vs, τ, τ', e, c, hi, k, I => by
    cases es : ρ[i]? with
    | none => rw [argVs_cons, arV_sl, es] at e; cases e
    | some so =>
      cases so with
      | none => rw [argVs_cons, arV_sl, es] at e; cases e
      | some s =>
        have e' : (match arD p s with | some d => (argVs ρ pm as).map (d :: ·) | none => none) = some ds := by
          rw [argVs_cons, arV_sl, es] at e; exact e
        cases ed : arD p s with
        | none => rw [ed] at e'; cases e'
        | some d =>
          rw [ed] at e'
          obtain ⟨ds', e1, e2⟩ := Option.map_eq_some_iff.mp (show (argVs ρ pm as).map (d :: ·) = some ds from e')
          subst e2
          obtain ⟨k1, k2⟩ := (show σ[i]? = some (some v) ∧ Stk σ as vs τ τ' from k)
          obtain ⟨nts, v', ev, r0⟩ := I.slot i s es
          rw [k1] at ev
          cases ev
          cases p with
          | io =>
            obtain ⟨I1, r⟩ := args_R nt ok pm as ds' vs τ τ' e1 c (fun j hj => hi j (List.mem_cons_of_mem _ hj)) k2 I
            have ho : ∃ m, s = ⟨m, d⟩ ∧ isO m = true := by
              obtain ⟨m, d0⟩ := s
              cases m <;> first | (cases ed; done) | (cases ed; exact ⟨_, rfl, rfl⟩)
            obtain ⟨m, hs, hm⟩ := ho
            subst hs
            obtain ⟨z1, z2, _⟩ := I1.oslot es hm
            rw [k1] at z1
            have z1 : v = .ref (adr σ i) := Option.some.inj (Option.some.inj z1)
            exact ⟨I1, adr σ i, _, rfl, z1, z2, r⟩
          | sca =>
            have c' := Bool.and_eq_true_iff.mp (show (!(is.contains i) && chkA is pm as) = true from c)
            obtain ⟨I1, r⟩ := args_R nt ok pm as ds' vs τ τ' e1 c'.2 hi k2 I
            obtain ⟨q, hd⟩ := arD_sca ed
            subst hd
            exact ⟨I1, q, Rep.sc (r0.rep I.base) q, r⟩
          | bor =>
            have c' := Bool.and_eq_true_iff.mp (show (!(is.contains i) && chkA is pm as) = true from c)
            obtain ⟨I1, r⟩ := args_R nt ok pm as ds' vs τ τ' e1 c'.2 hi k2 I
            obtain ⟨hd, nts⟩ := arD_bor ed
            subst hd
            exact ⟨I1, r0.bor I ok nts (nmem_of c'.1), r⟩
          | shr =>
            have c' := Bool.and_eq_true_iff.mp (show (!(is.contains i) && chkA is pm as) = true from c)
            obtain ⟨I1, r⟩ := args_R nt ok pm as ds' vs τ τ' e1 c'.2 hi k2 I
            obtain ⟨m, d0⟩ := s
            cases m <;> first | (cases ed; done) | (cases ed; exact ⟨I1, r0, r⟩)
theorem ioSl_ok : ∀ {pm : List PM} {as : List Ar} {ds : List Vl}, argVs ρ pm as = some ds → ∀ i ∈ ioSl pm as, OSl ρ i
  | [], as, ds, e, i, hi => by cases as <;> cases hi
  | p :: pm, [], ds, e, i, hi => by cases e
  | p :: pm, a :: as, ds, e, i, hi => by
    unfold argVs at e
    cases ea : arV ρ a with
    | none => rw [ea] at e; cases e
    | some s =>
      rw [ea] at e
      replace e : (match arD p s with | some d => (argVs ρ pm as).map (d :: ·) | none => none) = some ds := e
      cases ed : arD p s with
      | none => rw [ed] at e; cases e
      | some d =>
        rw [ed] at e
        obtain ⟨ds', e1, _⟩ := Option.map_eq_some_iff.mp (show (argVs ρ pm as).map (d :: ·) = some ds from e)
        cases p with
        | io =>
          cases a with
          | ex s => exact ioSl_ok e1 i hi
          | sl j =>
            rcases List.mem_cons.mp (show i ∈ j :: ioSl pm as from hi) with z | z
            · subst z
              rw [arV_sl] at ea
              cases er : ρ[i]? with
              | none => rw [er] at ea; cases ea
              | some so =>
                cases so with
                | none => rw [er] at ea; cases ea
                | some s' =>
                  rw [er] at ea
                  cases ea
                  obtain ⟨m, d0⟩ := s
                  cases m <;> first | (cases ed; done) | exact ⟨_, _, er, rfl⟩
            · exact ioSl_ok e1 i z
        | sca => cases a <;> exact ioSl_ok e1 i hi
        | bor => cases a <;> exact ioSl_ok e1 i hi
        | shr => cases a <;> exact ioSl_ok e1 i hi
theorem putD_ne {ρ : En} {i j : Nat} {d : Vl} (h : i ≠ j) : (putD ρ i d)[j]? = ρ[j]? := by
  unfold putD
  split
  · rw [List.getElem?_set_ne h]
  · rfl
theorem putD_len {ρ : En} {i : Nat} {d : Vl} : (putD ρ i d).length = ρ.length := by
  unfold putD
  split
  · rw [List.length_set]
  · rfl
theorem setOuts_len : ∀ {is : List Nat} {ds : List Vl} {ρ : En}, (setOuts is ds ρ).length = ρ.length
  | [], _, _ => rfl
  | _ :: _, [], _ => rfl
  | i :: is, d :: ds, ρ => by
    show (setOuts is ds (putD ρ i d)).length = _
    rw [setOuts_len, putD_len]
theorem setOuts_ne : ∀ {is : List Nat} {ds : List Vl} {ρ : En} {j : Nat}, j ∉ is → (setOuts is ds ρ)[j]? = ρ[j]?
  | [], _, _, _, _ => rfl
  | _ :: _, [], _, _, _ => rfl
  | i :: is, d :: ds, ρ, j, h => by
    show (setOuts is ds (putD ρ i d))[j]? = _
    rw [setOuts_ne fun z => h (List.mem_cons_of_mem _ z), putD_ne fun z => h (by rw [z]; exact List.mem_cons_self)]
theorem setOuts_at {K : PySem.W.Frag} {F' H' : Hp} {g : Nat → Addr} : ∀ {is : List Nat} {ds : List Vl} {ρ : En}, is.Nodup → OutsR K F' H' ds (is.map g) → ∀ j ∈ is, ∀ m d0, ρ[j]? = some (some ⟨m, d0⟩) → ∃ d, (setOuts is ds ρ)[j]? = some (some ⟨m, d⟩) ∧ ∃ o, H' (g j) = some o ∧ OwnO K F' d o
  | [], _, _, _, _, j, hj, _, _, _ => by cases hj
  | i :: is, [], ρ, nd, h, j, hj, m, d0, e => by cases h
  | i :: is, d :: ds, ρ, nd, ⟨a, r, ea, hd, h⟩, j, hj, m, d0, e => by
    obtain ⟨rfl, rfl⟩ := List.cons.inj ea
    obtain ⟨n1, n2⟩ := List.nodup_cons.mp nd
    show ∃ d', (setOuts is ds (putD ρ i d))[j]? = some (some ⟨m, d'⟩) ∧ _
    rcases List.mem_cons.mp hj with z | z
    · subst z
      refine ⟨d, ?_, hd⟩
      rw [setOuts_ne n1]
      unfold putD
      rw [e]
      show (ρ.set j (some ⟨m, d⟩))[j]? = _
      rw [List.getElem?_set_self (List.getElem?_eq_some_iff.mp e).1]
    · exact setOuts_at n2 h j z m d0 (by rw [putD_ne fun y => n1 (by rw [y]; exact z)]; exact e)
def bUp (B F' : Hp) : Hp := fun b => match B b with
  | some o => some o
  | none => F' b
theorem bUp_none {B F' : Hp} {a : Addr} (h1 : B a = none) (h2 : F' a = none) : bUp B F' a = none := by unfold bUp; rw [h1]; exact h2
theorem bUp_old {B F' : Hp} {a : Addr} {o : HO} (h1 : B a = some o) : bUp B F' a = some o := by unfold bUp; rw [h1]
def oUp (O : Addr → Option Ow) (H : Hp) : Addr → Option Ow := fun b => match H b with
  | some _ => O b
  | none => none
theorem oUp_old {O : Addr → Option Ow} {H : Hp} {a : Addr} {o : HO} (g : H a = some o) : oUp O H a = O a := by unfold oUp; rw [g]
theorem oUp_none {O : Addr → Option Ow} {H : Hp} {a : Addr} (g : H a = none) : oUp O H a = none := by unfold oUp; rw [g]
theorem IvW.call {F' H' : Hp} {is : List Nat} {outs : List Vl} (I : IvW J F B O ρ τ σ H) (nt : NoTmp τ) (nd : is.Nodup) (ok : ∀ i ∈ is, OSl ρ i) (A : After J.K F H (is.map (adr σ)) F' H' outs) :
    IvW J F' (bUp B F') (oUp O H) (setOuts is outs ρ) τ σ H' := by
  have own : ∀ a ∈ is.map (adr σ), ∃ i ∈ is, O a = some (.inl i) ∧ B a = none ∧ (J.H0 a = none ∨ a ∈ J.io) ∧ ∃ o, H a = some o := fun a ha => by
    obtain ⟨i, hi, rfl⟩ := List.mem_map.mp ha
    obtain ⟨m, d, e1, e2⟩ := ok i hi
    obtain ⟨_, ⟨o, g, _⟩, q, n, z⟩ := I.oslot e1 e2
    exact ⟨i, hi, q, n, z, o, g⟩
  have keepB : ∀ b o, B b = some o → H' b = some o := fun b o e => A.keep b o (I.base.bh _ _ e) fun z => by
    obtain ⟨_, _, _, n, _⟩ := own b z; rw [e] at n; cases n
  have freeF : ∀ a, (∃ o, H a = some o) → B a = none → F' a = none := fun a ⟨o, g⟩ n => by
    cases e : F' a with
    | none => rfl
    | some u =>
      rcases A.new a u e with z | z
      · rw [I.base.fb _ _ z] at n; cases n
      · rw [g] at z; cases z
  have fB : Sub F' (bUp B F') := fun b o e => by
    cases z : B b with
    | none => unfold bUp; rw [z]; exact e
    | some u =>
      rw [bUp_old z]
      rcases A.new b o e with y | y
      · rw [I.base.fb _ _ y] at z; exact z.symm
      · rw [I.base.bh _ _ z] at y; cases y
  have base : Base J F' (bUp B F') H' := by
    refine ⟨fB, fun b o e => ?_, fun b o e => A.ff _ _ (I.base.f0 _ _ e), fun b o e => ?_, fun b o e q => ?_, fun b e => ?_⟩
    · cases z : B b with
      | none => unfold bUp at e; rw [z] at e; exact A.fh _ _ e
      | some u => rw [bUp_old z] at e; cases e; exact keepB _ _ z
    · rcases A.new b o e with z | z
      · exact I.base.new _ _ z
      · exact .inr (I.base.freeH0 z)
    · refine A.keep b o (I.base.keep _ _ e q) fun z => ?_
      obtain ⟨_, _, _, _, y, _⟩ := own b z
      rcases y with y | y
      · rw [e] at y; cases y
      · exact q y
    · obtain ⟨o, g⟩ := I.base.iot b e
      by_cases z : b ∈ is.map (adr σ)
      · obtain ⟨i, hi, rfl⟩ := List.mem_map.mp z
        obtain ⟨m, d, e1, e2⟩ := ok i hi
        obtain ⟨d', _, o', g', _⟩ := setOuts_at nd A.outs i hi m d e1
        exact ⟨o', g'⟩
      · exact ⟨o, A.keep b o g z⟩
  have keep : ∀ (ow : Ow) (s : Sv) (v : V), s.m ≠ .tmp → (∀ i ∈ is, ow ≠ .inl i) → SR J F B H O ow s v → SR J F' (bUp B F') H' (oUp O H) ow s v := fun ow s v n1 n2 h => by
    have nm : ∀ {a : Addr}, O a = some ow → a ∉ is.map (adr σ) := fun {a} q z => by
      obtain ⟨i, hi, y, _⟩ := own a z
      rw [q] at y
      exact n2 i hi (Option.some.inj y)
    obtain ⟨m, d⟩ := s
    cases m with
    | shr => exact Rep.mono A.ff h
    | bor => exact Rep.mono (fun b o e => bUp_old e) h
    | tmp => exact absurd rfl n1
    | own =>
      obtain ⟨a, o, e, g, r, q, n, z⟩ := h
      exact ⟨a, o, e, A.keep _ _ g (nm q), r.mono A.ff, (oUp_old g).trans q, bUp_none n (freeF a ⟨o, g⟩ n), z⟩
    | io =>
      obtain ⟨a, o, e, g, r, q, n, z⟩ := h
      exact ⟨a, o, e, A.keep _ _ g (nm q), r.mono A.ff, (oUp_old g).trans q, bUp_none n (freeF a ⟨o, g⟩ n), z⟩
  refine ⟨base, I.len.of setOuts_len, fun j s e => ?_, I.temp.imp fun s v k hm _ h => keep _ s v (nt _ hm) (fun _ _ z => nomatch z) h⟩
  by_cases hj : j ∈ is
  · obtain ⟨m, d, e1, e2⟩ := ok j hj
    obtain ⟨d', e3, o', g', r'⟩ := setOuts_at nd A.outs j hj m d e1
    rw [e3] at e
    cases e
    obtain ⟨t, v, e4, h⟩ := I.slot j _ e1
    refine ⟨t, v, e4, ?_⟩
    have fr : F' (adr σ j) = none := A.iof _ (List.mem_map.mpr ⟨j, hj, rfl⟩)
    cases m with
    | own =>
      obtain ⟨a, o, ev, g, r, q, n, z⟩ := h
      subst ev
      have ha : adr σ j = a := by unfold adr; rw [e4]
      rw [ha] at g' fr
      exact ⟨a, o', rfl, g', r', (oUp_old g).trans q, bUp_none n fr, z⟩
    | io =>
      obtain ⟨a, o, ev, g, r, q, n, z⟩ := h
      subst ev
      have ha : adr σ j = a := by unfold adr; rw [e4]
      rw [ha] at g' fr
      exact ⟨a, o', rfl, g', r', (oUp_old g).trans q, bUp_none n fr, z⟩
    | _ => cases e2
  · rw [setOuts_ne hj] at e
    obtain ⟨t, v, e4, h⟩ := I.slot j s e
    exact ⟨t, v, e4, keep _ s v t (fun i hi z => hj (by cases z; exact hi)) h⟩
theorem IvW.res {F' H0 H' : Hp} {B' : Hp} {rm : Bool} {r : Vl} (I : IvW J F' B' O ρ τ σ H') (hn : ∀ a, H0 a = none → J.H0 a = none ∧ (F' a = none → B' a = none) ∧ O a = none) (h : ResR J.K rm H0 F' H' r v) : Iv J ρ ((resM rm r, v) :: τ) σ H' := by
  unfold ResR at h
  unfold resM
  split
  · rename_i q
    rw [if_pos q] at h
    exact I.push (s := ⟨.shr, r⟩) h
  · rename_i q
    rw [if_neg q] at h
    cases rm with
    | false => exact I.push (s := ⟨.shr, r⟩) h
    | true =>
      obtain ⟨a, o, ev, g, w, f, n⟩ := h
      obtain ⟨h1, h2, h3⟩ := hn a n
      have hO : ∀ (ow : Ow) s v, SR J F' B' H' O ow s v → SR J F' B' H' (fun b => if b = a then some (.inr τ.length) else O b) ow s v := fun ow s v h => by
        have ne : ∀ {x : Addr} {ow : Ow}, O x = some ow → x ≠ a := fun {x ow} e z => by subst z; rw [h3] at e; cases e
        obtain ⟨m, d⟩ := s
        cases m with
        | shr => exact h
        | bor => exact h
        | tmp => obtain ⟨x, u, e, g, r, j, q⟩ := h; exact ⟨x, u, e, g, r, j, (if_neg (ne q)).trans q⟩
        | own => obtain ⟨x, u, e, g, r, q, z⟩ := h; exact ⟨x, u, e, g, r, (if_neg (ne q)).trans q, z⟩
        | io => obtain ⟨x, u, e, g, r, q, z⟩ := h; exact ⟨x, u, e, g, r, (if_neg (ne q)).trans q, z⟩
      exact ⟨F', B', fun b => if b = a then some (.inr τ.length) else O b, I.base, I.len, fun i s e => (let ⟨t, v, e1, h⟩ := I.slot i s e; ⟨t, v, e1, hO _ _ _ h⟩), ⟨a, o, ev, g, w, if_pos rfl, h2 f, h1⟩, I.temp.imp fun s v k _ _ h => hO _ _ _ h⟩
theorem IvW.unstk : ∀ {as : List Ar} {vs : List V} {τ τ' : List (Sv × V)}, Stk σ as vs τ τ' → IvW J F B O ρ τ' σ H → IvW J F B O ρ τ σ H
  | [], [], τ, τ', k, I => by rw [show τ' = τ from k] at I; exact I
  | [], _ :: _, _, _, k, _ => k.elim
  | .ex s :: as, [], _, _, k, _ => k.elim
  | .sl i :: as, [], _, _, k, _ => k.elim
  | .ex s :: as, v :: vs, τ, τ', k, I => (IvW.unstk (show Stk σ as vs ((s, v) :: τ) τ' from k) I).drop1
  | .sl i :: as, v :: vs, τ, τ', k, I => IvW.unstk (show σ[i]? = some (some v) ∧ Stk σ as vs τ τ' from k).2 I
end
end MV
namespace MV
open PySem PySem.Spec PyProof.Rows L2
section
variable {X : Cx} {J : Jx} {W : WX} {pm : List PM} {rm : Bool} {fn : Fn} {fa : SemA} {q qo : Bool} {σ : St} {H : Hp} {Q : VK} {τ : List (Sv × V)} {ρ : En} {F B : Hp} {O : Addr → Option Ow}
theorem nd_map {α β : Type} {f : α → β} {l : List α} (h : ∀ x ∈ l, ∀ y ∈ l, f x = f y → x = y) (d : l.Nodup) : (l.map f).Nodup := by
  induction l with
  | nil => exact List.nodup_nil
  | cons a l ih =>
    obtain ⟨d1, d2⟩ := List.nodup_cons.mp d
    rw [List.map_cons]
    refine List.nodup_cons.mpr ⟨fun z => ?_, ih (fun x hx y hy => h x (List.mem_cons_of_mem _ hx) y (List.mem_cons_of_mem _ hy)) d2⟩
    obtain ⟨y, hy, e⟩ := List.mem_map.mp z
    rw [h y (List.mem_cons_of_mem _ hy) a List.mem_cons_self e] at hy
    exact d1 hy
theorem adr_nd {is : List Nat} (I : IvW J F B O ρ τ σ H) (nd : is.Nodup) (ok : ∀ i ∈ is, OSl ρ i) : (is.map (adr σ)).Nodup := by
  refine nd_map (fun i hi j hj e => ?_) nd
  obtain ⟨m, d, e1, e2⟩ := ok i hi
  obtain ⟨m', d', e3, e4⟩ := ok j hj
  have h1 := (I.oslot e1 e2).2.2.1
  have h2 := (I.oslot e3 e4).2.2.1
  rw [e] at h1
  rw [h1] at h2
  exact Sum.inl.inj (Option.some.inj h2)
theorem call_sp {as : List Ar} {vs : List V} {τ' : List (Sv × V)} (nt : NoTmp τ) (k : Stk σ as vs τ τ') (I : Iv J ρ τ' σ H) (m : Out J W τ σ (kCall pm rm fn as ρ) Q) : spF J.K pm rm fn vs H Q (WE W σ) := by
  obtain ⟨F, B, O, I⟩ := I
  obtain ⟨hc, m⟩ := out_grd (b := ndB (ioSl pm as) && chkA (ioSl pm as) pm as) m
  obtain ⟨h1, h2⟩ := Bool.and_eq_true_iff.mp hc
  have nd := ndB_nd h1
  cases e : argVs ρ pm as with
  | none => rw [e] at m; exact m.elim
  | some ds =>
    rw [e] at m
    have ok := ioSl_ok e
    obtain ⟨I1, ar⟩ := args_R nt ok pm as ds vs τ τ' e h2 (fun i hi => hi) k I
    refine ⟨F, (ioSl pm as).map (adr σ), ds, fmns I1 ok, adr_nd I1 nd ok, ar, ?_⟩
    have m : Out J W τ σ (match fn ds with
      | .ret r outs => .ok (resM rm r) (setOuts (ioSl pm as) outs ρ)
      | .exc c fs outs => .exc c fs (setOuts (ioSl pm as) outs ρ)
      | .bad => .bad) Q := m
    cases z : fn ds with
    | ret r outs =>
      rw [z] at m
      refine fun v H' F' A rr => m v H' ?_
      have I2 := I1.call nt nd ok A
      refine I2.res (H0 := H) (fun a n => ⟨I1.base.freeH0 n, fun f => bUp_none (I1.base.freeB n) f, oUp_none n⟩) rr
    | exc c fs outs =>
      rw [z] at m
      refine fun cls d H' F' A er => m cls d H' ?_
      have I2 := I1.call nt nd ok A
      exact ⟨F', _, _, ⟨I2.base, I2.len, I2.slot, trivial⟩, er⟩
    | bad => rw [z] at m; exact m.elim
theorem tA_call (h : tE J W false (fCall pm rm fn fa) σ H Q) : tA J W q fa σ H fun vs H1 => spF J.K pm rm fn vs H1 Q (WE W σ) := by
  obtain ⟨ρ, τ, I, c, m⟩ := h
  have nt : NoTmp τ := c.elim (fun z => nomatch z) id
  refine ⟨ρ, τ, I, .inr nt, ?_⟩
  unfold fCall at m
  cases e : fa ρ with
  | ok as ρ1 => rw [e] at m; exact fun vs τ' H1 k I1 => call_sp nt k I1 m
  | exc c fs ρ1 => rw [e] at m; exact m
  | bad => rw [e] at m; exact m
theorem xe_call {x : Str} {f : Addr} {p pos : Pos} {e : Expr} {es : List Expr} (hK : J.K = X.K) (hc : CallAt X W f (spF X.K pm rm fn)) (hg : Gl X x) (hm : X.mg x = some (.ref f)) (hk : PySem.W.keepIn X.K (.ref f) = true) (ha : XA X J W (e :: es) q fa)
    (hdb : (x == ("__debug__" : Str)) = false := by decide) (he : starEach (e :: es) X.env = (false, eval e X.env) :: starEach es X.env := by rfl) (hpl : (backTo pos (starEach es X.env)).any (·.1) = false := by rfl) :
    XE X J W (.Call (.Name x p) (e :: es) [] pos) false (fCall pm rm fn fa) := by
  refine ⟨⟨fun pins s σ H Q I h => ?_⟩⟩
  refine wpAny_Call_Name_kw (ld_glob I hg hm ?_ hdb)
  exact PySem.W.callWith_K (h₀ := X.base) I.ok.mod.kin hk (thn (ha.pa.run pos pins s σ H _ I (tA_call h)) fun us s1 ⟨vs, H1, I1, r, q⟩ => ⟨I1.kIn, hc _ _ _ _ _ _ _ I1 r (hK ▸ q)⟩) he hpl
abbrev SemR := En → Rs Ar
def OutR (J : Jx) (W : WX) (τ : List (Sv × V)) (σ : St) (r : Rs Ar) (Q : VK) : Prop := match r with
  | .ok a ρ => ∀ v τ' H, Stk σ [a] [v] τ τ' → Iv J ρ τ' σ H → Q v H
  | .exc c fs ρ => ∀ cls d H, Ix J ρ c fs σ H cls d → W cls d σ H
  | .bad => False
structure XR (X : Cx) (J : Jx) (W : WX) (e : Expr) (q : Bool) (f : SemR) : Prop where
  pe : PE X e (fun σ H Q => ∃ ρ τ, Iv J ρ τ σ H ∧ (q = true ∨ NoTmp τ) ∧ OutR J W τ σ (f ρ) Q)
def rEx (fa : Sem1) : SemR := fun ρ => bnd (fa ρ) fun s ρ1 => grd (!s.m.isT) (.ok (.ex s) ρ1)
def rSl (i : Nat) : SemR := fun ρ => grd (asg ρ i) (.ok (.sl i) ρ)
theorem xr_ex {e : Expr} {f1 : Sem1} (h : XE X J W e q f1) : XR X J W e q (rEx f1) := by
  refine ⟨h.pe.imp ?_⟩
  rintro σ H Q ⟨ρ, τ, I, c, m⟩
  refine ⟨ρ, τ, I, c, ?_⟩
  unfold rEx at m
  cases e : f1 ρ with
  | ok s ρ1 =>
    rw [e] at m
    have m2 : OutR J W τ σ (.ok (.ex s) ρ1) Q := by
      obtain ⟨md, d⟩ := s
      cases md <;> first | exact m.elim | exact m
    exact fun v H1 I1 => m2 v _ H1 rfl I1
  | exc cc fs ρ1 => rw [e] at m; exact m
  | bad => rw [e] at m; exact m
theorem xr_sl {i : Nat} {x : Str} {p : Pos} (hN : X.N[i]? = some x) (hv : Vis X.env.scope x) (hd : (x == ("__debug__" : Str)) = false := by decide) (hcd : (x == ("__classdict__" : Str)) = false := by decide) : XR X J W (.Name x p) true (rSl i) := by
  refine ⟨(pe_var hN hv hd hcd).imp ?_⟩
  rintro σ H Q ⟨ρ, τ, ⟨F, B, O, I⟩, c, m⟩
  unfold rSl asg at m
  cases e : ρ[i]? with
  | none => rw [e] at m; exact m.elim
  | some o =>
    cases o with
    | none => rw [e] at m; exact m.elim
    | some s =>
      rw [e] at m
      obtain ⟨_, v, e1, _⟩ := I.slot i s e
      exact ⟨v, e1, m v τ H ⟨e1, rfl⟩ ⟨F, B, O, I⟩⟩
def clsOk (c m : Str) (ρ : En) (a : Ar) : Bool := match arV ρ a with
  | some ⟨md, .ins c' fs⟩ => !md.isT && (c == c') && (fs.lookup m).isNone
  | _ => false
theorem clsOk_at {c m : Str} {a : Ar} {v : V} {τ' : List (Sv × V)} (h : clsOk c m ρ a = true) (k : Stk σ [a] [v] τ τ') (I : Iv J ρ τ' σ H) : ∃ x dx ws, v = .ref x ∧ H x = some (.ins (He.ga J.K c) dx ws) ∧ ws.lookup m = none ∧ (NoTmp τ → NoTmp τ') := by
  obtain ⟨F, B, O, I⟩ := I
  have key : ∀ {s : Sv} {ow : Ow}, SR J F B H O ow s v → arV ρ a = some s → ∃ x dx ws, v = .ref x ∧ H x = some (.ins (He.ga J.K c) dx ws) ∧ ws.lookup m = none ∧ s.m ≠ .tmp := fun {s ow} r e => by
    unfold clsOk at h
    rw [e] at h
    obtain ⟨md, d⟩ := s
    cases d with
    | ins c' fs =>
      obtain ⟨h12, h3⟩ := Bool.and_eq_true_iff.mp (show (!md.isT && (c == c') && (fs.lookup m).isNone) = true from h)
      obtain ⟨h1, h2⟩ := Bool.and_eq_true_iff.mp h12
      have hc : c = c' := eq_of_beq h2
      subst hc
      obtain ⟨p, dx, ws, e1, g, rf⟩ := r.ins I.base
      exact ⟨p, dx, ws, e1, g, rf.lookN (Option.isNone_iff_eq_none.mp h3), fun z => by rw [show md = .tmp from z] at h1; cases h1⟩
    | _ => cases h
  cases a with
  | ex s =>
    rw [show τ' = (s, v) :: τ from k] at I ⊢
    obtain ⟨x, dx, ws, h1, h2, h3, h4⟩ := key I.top rfl
    exact ⟨x, dx, ws, h1, h2, h3, fun n => n.cons h4⟩
  | sl i =>
    obtain ⟨k1, k2⟩ := (show σ[i]? = some (some v) ∧ τ' = τ from k)
    subst k2
    cases e : ρ[i]? with
    | none => unfold clsOk at h; rw [arV_sl, e] at h; cases h
    | some so =>
      cases so with
      | none => unfold clsOk at h; rw [arV_sl, e] at h; cases h
      | some s =>
        obtain ⟨_, v', e1, r⟩ := I.slot i s e
        rw [k1] at e1
        cases e1
        obtain ⟨x, dx, ws, h1, h2, h3, h4⟩ := key r (by rw [arV_sl, e])
        exact ⟨x, dx, ws, h1, h2, h3, id⟩
theorem stk_cons {a : Ar} {as : List Ar} {v : V} {vs : List V} {τ1 τ2 : List (Sv × V)} (h1 : Stk σ [a] [v] τ τ1) (h2 : Stk σ as vs τ1 τ2) : Stk σ (a :: as) (v :: vs) τ τ2 := by
  cases a with
  | ex s => rw [show τ1 = (s, v) :: τ from h1] at h2; exact h2
  | sl i => obtain ⟨k1, k2⟩ := (show σ[i]? = some (some v) ∧ τ1 = τ from h1); subst k2; exact ⟨k1, h2⟩
end
end MV
namespace MV
open PySem PySem.Spec PyProof.Rows L2
def MakeAt (X : Cx) (W : WX) (C : Addr) (sp : Sp) : Prop := ∀ (pins : List (Addr × Obj)) (σ : St) (H : Hp) (s : Shared) (Q : VK) (us : List Value) (vs : List V), Inv X pins σ H s → Vals vs us →
  (∀ x dx, H x = none → H dx = none → dx ≠ x → sp (.ref x :: vs) (upd (upd H dx (.own x)) x (.ins C dx [])) (fun v H2 => v = .non ∧ Q (.ref x) H2) (WE W σ)) →
  wpAny (model X.prog X.w) X.A (call (.ref C) us) (EP X pins σ Q) X.xe s
theorem makeAt {X : Cx} {W : WX} {k : Nat} {C f : Addr} {fd : FuncData} {ps : List Str} {sp : Sp} {dvs : List V} {ds : List Value} (M : Mk X.K C f) (F : FnOk X.prog X.w X.K X.mg X.base (L2N.CX X.prog X.w) k f fd ps sp) (hr : Room (k + 1) X.A) (hb : Binds X.K fd ps ds) (hd : Vals dvs ds) (tk : Takes X W) :
    MakeAt X W C (fun vs => sp (vs ++ dvs)) := fun pins σ H s Q us vs I r h => by
  have hq := h (s.heap.objs.size + 1) s.heap.objs.size (I.hok.fresh (Nat.le_succ _)) (I.hok.fresh (Nat.le_refl _)) (Nat.ne_of_lt (Nat.lt_succ_self _))
  have I2 := Inv.made (C := C) I
  have r2 : Vals (V.ref (s.heap.objs.size + 1) :: (vs ++ dvs)) (Value.ref (s.heap.objs.size + 1) :: (us ++ ds)) := .cons rfl (r.append hd)
  have hl : (Value.ref (s.heap.objs.size + 1) :: us ++ ds).length = ps.length := by
    have e := r2.length
    have hq' : sp (V.ref (s.heap.objs.size + 1) :: (vs ++ dvs)) _ _ _ := hq
    rw [F.len _ _ _ _ hq'] at e
    exact e.symm
  refine wpAny_call (make_map (f := f) I.kIn M.makes M.init (beq_iff_eq.mp M.fn) (codeAny_mono (F.run _ X.stack _ _ ⟨Value.ref (s.heap.objs.size + 1) :: us, []⟩ (Value.ref (s.heap.objs.size + 1) :: (us ++ ds)) _ _ (WE W σ) (hr.make C us [])
    (I2.env0.make C us []) (hb _ (Value.ref (s.heap.objs.size + 1) :: us) I2.kIn hl) r2 hq) fun r s' hq' => ?_))
  cases r with
  | error e => exact passAt tk σ pins _ _ e s' I2 hq'
  | ok fl =>
    cases fl with
    | ret u =>
      obtain ⟨v, H', I3, rv, ev, q3⟩ := I2.after hq'
      subst ev
      exact ⟨rv, ⟨V.ref (s.heap.objs.size + 1), H', I3, rfl, q3⟩⟩
    | next => exact False.elim hq'
    | brk => exact False.elim hq'
    | cont => exact False.elim hq'
theorem makeAt0 {X : Cx} {W : WX} {k : Nat} {C f : Addr} {fd : FuncData} {ps : List Str} {sp : Sp} (M : Mk X.K C f) (F : FnOk X.prog X.w X.K X.mg X.base (L2N.CX X.prog X.w) k f fd ps sp) (hr : Room (k + 1) X.A) (hb : Binds X.K fd ps []) (tk : Takes X W) : MakeAt X W C sp := by
  have h := makeAt (dvs := []) M F hr hb .nil tk
  intro pins σ H s Q us vs I r g
  refine h pins σ H s Q us vs I r fun x dx h1 h2 h3 => ?_
  have g' := g x dx h1 h2 h3
  show sp ((V.ref x :: vs) ++ []) _ _ _
  rw [List.append_nil]
  exact g'
def kMake (c : Str) (pm : List PM) (fn : Fn) (as : List Ar) (ρ : En) : Rs Sv :=
  grd ((ioSl pm as).isEmpty && chkA [] pm as) (match argVs ρ pm as with
    | none => .bad
    | some ds => match fn (.ins c [] :: ds) with
      | .ret .non [d] => .ok ⟨.own, d⟩ ρ
      | .exc c fs [_] => .exc c fs ρ
      | _ => .bad)
def fMake (c : Str) (pm : List PM) (fn : Fn) (fa : SemA) : Sem1 := fun ρ => bnd (fa ρ) fun as ρ1 => kMake c pm fn as ρ1
section
variable {X : Cx} {J : Jx} {W : WX} {pm : List PM} {rm : Bool} {fn : Fn} {fa : SemA} {q qo : Bool} {σ : St} {H : Hp} {Q : VK} {τ : List (Sv × V)} {ρ : En} {F B : Hp} {O : Addr → Option Ow}
theorem argsR_up {K : PySem.W.Frag} {H2 : Hp} {x : Addr} (hx : H x = none) (hs : ∀ b o, H b = some o → H2 b = some o) : ∀ {pm : List PM} {ds : List Vl} {vs : List V}, ArgsR K F H [] pm ds vs [] → ArgsR K F H2 [x] pm ds vs []
  | [], [], [], _ => rfl
  | [], _ :: _, _, h => by cases h
  | [], [], _ :: _, h => by cases h
  | .sca :: pm, [], _, h => by cases h
  | .bor :: pm, [], _, h => by cases h
  | .shr :: pm, [], _, h => by cases h
  | .io :: pm, [], _, h => by cases h
  | .sca :: pm, _ :: _, [], h => by cases h
  | .bor :: pm, _ :: _, [], h => by cases h
  | .shr :: pm, _ :: _, [], h => by cases h
  | .io :: pm, _ :: _, [], h => by cases h
  | .sca :: pm, d :: ds, v :: vs, ⟨h1, h2, h⟩ => ⟨h1, h2, argsR_up hx hs h⟩
  | .bor :: pm, d :: ds, v :: vs, ⟨h1, h⟩ => ⟨Rep.mono (fun b o e => mns_of (hs _ _ (mns_sub _ _ e)) fun z => by
    rw [List.mem_singleton] at z
    subst z
    rw [mns_sub _ _ e] at hx; cases hx) h1, argsR_up hx hs h⟩
  | .shr :: pm, d :: ds, v :: vs, ⟨h1, h⟩ => ⟨h1, argsR_up hx hs h⟩
  | .io :: pm, d :: ds, v :: vs, ⟨a, r, e, _⟩ => by cases e
theorem IvW.made {F' H2 H' : Hp} {x : Addr} {d : Vl} (I : IvW J F B O ρ τ σ H) (nt : NoTmp τ) (hx : H x = none) (hs : ∀ b o, H b = some o → H2 b = some o) (hn : ∀ b, H2 b = none → H b = none) (A : After J.K F H2 [x] F' H' [d]) :
    IvW J F' (bUp B F') (fun b => if b = x then some (.inr τ.length) else oUp O H b) ρ ((⟨.own, d⟩, .ref x) :: τ) σ H' := by
  have nx : ∀ {b : Addr} {o : HO}, H b = some o → b ≠ x := fun {b o} e z => by subst z; rw [hx] at e; cases e
  have keepH : ∀ b o, H b = some o → H' b = some o := fun b o e => A.keep b o (hs _ _ e) fun z => nx e (List.mem_singleton.mp z)
  have new : ∀ b o, F' b = some o → F b = some o ∨ H b = none := fun b o e => (A.new b o e).imp id (hn b)
  have freeF : ∀ a, (∃ o, H a = some o) → B a = none → F' a = none := fun a ⟨o, g⟩ n => by
    cases e : F' a with
    | none => rfl
    | some u =>
      rcases new a u e with z | z
      · rw [I.base.fb _ _ z] at n; cases n
      · rw [g] at z; cases z
  have fB : Sub F' (bUp B F') := fun b o e => by
    cases z : B b with
    | none => unfold bUp; rw [z]; exact e
    | some u =>
      rw [bUp_old z]
      rcases new b o e with y | y
      · rw [I.base.fb _ _ y] at z; exact z.symm
      · rw [I.base.bh _ _ z] at y; cases y
  have base : Base J F' (bUp B F') H' := by
    refine ⟨fB, fun b o e => ?_, fun b o e => A.ff _ _ (I.base.f0 _ _ e), fun b o e => ?_, fun b o e q => ?_, fun b e => ?_⟩
    · cases z : B b with
      | none => unfold bUp at e; rw [z] at e; exact A.fh _ _ e
      | some u => rw [bUp_old z] at e; cases e; exact keepH _ _ (I.base.bh _ _ z)
    · rcases new b o e with z | z
      · exact I.base.new _ _ z
      · exact .inr (I.base.freeH0 z)
    · exact keepH b o (I.base.keep _ _ e q)
    · obtain ⟨o, g⟩ := I.base.iot b e
      exact ⟨o, keepH b o g⟩
  have keep : ∀ (ow : Ow) (s : Sv) (v : V), s.m ≠ .tmp → SR J F B H O ow s v → SR J F' (bUp B F') H' (fun b => if b = x then some (.inr τ.length) else oUp O H b) ow s v := fun ow s v n1 h => by
    obtain ⟨m, d⟩ := s
    cases m with
    | shr => exact Rep.mono A.ff h
    | bor => exact Rep.mono (fun b o e => bUp_old e) h
    | tmp => exact absurd rfl n1
    | own =>
      obtain ⟨a, o, e, g, r, q, n, z⟩ := h
      exact ⟨a, o, e, keepH _ _ g, r.mono A.ff, (if_neg (nx g)).trans ((oUp_old g).trans q), bUp_none n (freeF a ⟨o, g⟩ n), z⟩
    | io =>
      obtain ⟨a, o, e, g, r, q, n, z⟩ := h
      exact ⟨a, o, e, keepH _ _ g, r.mono A.ff, (if_neg (nx g)).trans ((oUp_old g).trans q), bUp_none n (freeF a ⟨o, g⟩ n), z⟩
  obtain ⟨a, r, e, ⟨o, g, w⟩, _⟩ := A.outs
  obtain ⟨rfl, _⟩ := List.cons.inj e
  have fx : F' x = none := A.iof x (List.mem_singleton.mpr rfl)
  exact ⟨base, I.len, fun i s e => (let ⟨t, v, e1, h⟩ := I.slot i s e; ⟨t, v, e1, keep _ _ _ t h⟩), ⟨x, o, rfl, g, w, if_pos rfl, bUp_none (I.base.freeB hx) fx, I.base.freeH0 hx⟩, I.temp.imp fun s v k hm _ h => keep _ s v (nt _ hm) h⟩
theorem make_sp {c : Str} {as : List Ar} {vs : List V} {τ' : List (Sv × V)} (nt : NoTmp τ) (k : Stk σ as vs τ τ') (I : Iv J ρ τ' σ H) (m : Out J W τ σ (kMake c pm fn as ρ) Q) (x dx : Addr) (hx : H x = none) (hd : H dx = none) (hne : dx ≠ x) :
    spF J.K (.io :: pm) rm fn (.ref x :: vs) (upd (upd H dx (.own x)) x (.ins (He.ga J.K c) dx [])) (fun v H2 => v = .non ∧ Q (.ref x) H2) (WE W σ) := by
  obtain ⟨F, B, O, I⟩ := I
  obtain ⟨hc, m⟩ := out_grd (b := (ioSl pm as).isEmpty && chkA [] pm as) m
  obtain ⟨h1, h2⟩ := Bool.and_eq_true_iff.mp hc
  have h1 : ioSl pm as = [] := List.isEmpty_iff.mp h1
  cases e : argVs ρ pm as with
  | none => rw [e] at m; exact m.elim
  | some ds =>
    rw [e] at m
    obtain ⟨I1, ar⟩ := args_R (is := []) nt (fun i hi => by cases hi) pm as ds vs τ τ' e h2 (fun i hi => by rw [h1] at hi; exact hi) k I
    rw [h1] at ar
    have ar : ArgsR J.K F H [] pm ds vs [] := ar
    have hs : ∀ b o, H b = some o → upd (upd H dx (.own x)) x (.ins (He.ga J.K c) dx []) b = some o := fun b o g => by
      rw [upd_ne (ne_of_none g hx), upd_ne (ne_of_none g hd)]; exact g
    have hn : ∀ b, upd (upd H dx (.own x)) x (.ins (He.ga J.K c) dx []) b = none → H b = none := fun b g => by
      cases z : H b with
      | none => rfl
      | some o => rw [hs _ _ z] at g; cases g
    have fx : Sub F (mns (upd (upd H dx (.own x)) x (.ins (He.ga J.K c) dx [])) [x]) := fun b o g => by
      have g := I1.base.bh _ _ (I1.base.fb _ _ g)
      exact mns_of (hs _ _ g) fun z => by
        rw [List.mem_singleton] at z
        subst z
        rw [hx] at g; cases g
    refine ⟨F, [x], .ins c [] :: ds, fx, List.nodup_cons.mpr ⟨(fun z => by cases z), List.nodup_nil⟩, ⟨x, [], rfl, rfl, ⟨_, upd_same, dx, [], rfl, rfl⟩, argsR_up hx hs ar⟩, ?_⟩
    have m : Out J W τ σ (match fn (.ins c [] :: ds) with
      | .ret .non [d] => .ok ⟨.own, d⟩ ρ
      | .exc c fs [_] => .exc c fs ρ
      | _ => .bad) Q := m
    cases z : fn (.ins c [] :: ds) with
    | ret r outs =>
      rw [z] at m
      intro v H' F' A rr
      cases r with
      | non =>
        cases outs with
        | nil => exact m.elim
        | cons d outs =>
          cases outs with
          | cons _ _ => exact m.elim
          | nil => exact ⟨(show Rep J.K F' .non v from rr), m _ H' ⟨_, _, _, I1.made nt hx hs hn A⟩⟩
      | _ => exact m.elim
    | exc cc fs outs =>
      rw [z] at m
      intro cls d H' F' A er
      cases outs with
      | nil => exact m.elim
      | cons d' outs =>
        cases outs with
        | cons _ _ => exact m.elim
        | nil =>
          have I2 := I1.made nt hx hs hn A
          exact m cls d H' ⟨_, _, _, ⟨I2.base, I2.len, I2.slot, trivial⟩, er⟩
    | bad => rw [z] at m; exact m.elim
theorem xe_make {c x : Str} {p pos : Pos} {e : Expr} {es : List Expr} (hK : J.K = X.K) (hc : MakeAt X W (He.ga X.K c) (spF X.K (.io :: pm) rm fn)) (hg : Gl X x) (hm : X.mg x = some (.ref (He.ga X.K c))) (hk : PySem.W.keepIn X.K (.ref (He.ga X.K c)) = true) (ha : XA X J W (e :: es) q fa)
    (hdb : (x == ("__debug__" : Str)) = false := by decide) (he : starEach (e :: es) X.env = (false, eval e X.env) :: starEach es X.env := by rfl) (hpl : (backTo pos (starEach es X.env)).any (·.1) = false := by rfl) :
    XE X J W (.Call (.Name x p) (e :: es) [] pos) false (fMake c pm fn fa) := by
  refine ⟨⟨fun pins s σ H Q I h => ?_⟩⟩
  refine wpAny_Call_Name_kw (ld_glob I hg hm ?_ hdb)
  refine PySem.W.callWith_K (h₀ := X.base) I.ok.mod.kin hk (thn (ha.pa.run pos pins s σ H (fun vs H1 => ∀ x dx, H1 x = none → H1 dx = none → dx ≠ x → spF J.K (.io :: pm) rm fn (.ref x :: vs) (upd (upd H1 dx (.own x)) x (.ins (He.ga J.K c) dx [])) (fun v H2 => v = .non ∧ Q (.ref x) H2) (WE W σ)) I ?_) fun us s1 ⟨vs, H1, I1, r, q⟩ => ⟨I1.kIn, hc _ _ _ _ _ _ _ I1 r (hK ▸ q)⟩) he hpl
  obtain ⟨ρ, τ, I, c0, m⟩ := h
  have nt : NoTmp τ := c0.elim (fun z => nomatch z) id
  refine ⟨ρ, τ, I, .inr nt, ?_⟩
  unfold fMake at m
  cases e : fa ρ with
  | ok as ρ1 => rw [e] at m; exact fun vs τ' H1 k I1 x dx h1 h2 h3 => make_sp nt k I1 m x dx h1 h2 h3
  | exc c fs ρ1 => rw [e] at m; exact m
  | bad => rw [e] at m; exact m
def noX (r : Rs Sv) : Rs Sv := match r with
  | .exc _ _ _ => .bad
  | r => r
def fProp (c f : Str) (rm : Bool) (fn : Fn) (fo : SemR) : Sem1 := fun ρ => bnd (fo ρ) fun a ρ1 => grd (clsOk c f ρ1 a) (noX (kCall [.bor] rm fn [a] ρ1))
theorem out_noX {r : Rs Sv} (h : Out J W τ σ (noX r) Q) : Out J (fun _ _ _ _ => False) τ σ r Q := by
  cases r with
  | ok s ρ => exact h
  | exc c fs ρ => exact h.elim
  | bad => exact h.elim
end
section
variable {X : Cx} {J : Jx} {W : WX} {rm : Bool} {fn : Fn} {q qo : Bool}
theorem xe_prop {c f : Str} {p g : Addr} {k : Nat} {fd : FuncData} {ps : List Str} {fo : SemR} {o : Expr} {pos : Pos} (hK : J.K = X.K) (k1 : Cls X.K (He.ga X.K c)) (hp : PropOf X.K (He.ga X.K c) f p g) (F : FnOk X.prog X.w X.K X.mg X.base (L2N.CX X.prog X.w) k g fd ps (spF X.K [.bor] rm fn))
    (hr : Room (k + 1) X.A) (hb : Binds X.K fd ps []) (ho : XR X J W o qo fo) (hab : attributeBase o f X.env (eval o X.env) = eval o X.env := by rfl) : XE X J W (.Attribute o f pos) false (fProp c f rm fn fo) := by
  refine ⟨⟨fun pins s σ H Q I h => ?_⟩⟩
  obtain ⟨ρ, τ, I0, c0, m0⟩ := h
  have nt : NoTmp τ := c0.elim (fun z => nomatch z) id
  have h1 : ∃ ρ τ, Iv J ρ τ σ H ∧ (qo = true ∨ NoTmp τ) ∧ OutR J W τ σ (fo ρ) (fun x H1 => ∃ a dx ws, x = .ref a ∧ H1 a = some (.ins (He.ga X.K c) dx ws) ∧ spF X.K [.bor] rm fn [.ref a] H1 Q (fun _ _ _ => False)) := by
    refine ⟨ρ, τ, I0, .inr nt, ?_⟩
    unfold fProp at m0
    cases e : fo ρ with
    | ok a ρ1 =>
      rw [e] at m0
      intro v τ' H1 k0 I1
      obtain ⟨hc, m1⟩ := out_grd (b := clsOk c f ρ1 a) m0
      obtain ⟨x, dx, ws, h1, h2, h3, h4⟩ := clsOk_at hc k0 I1
      subst h1
      exact ⟨x, dx, ws, rfl, hK ▸ h2, hK ▸ call_sp nt k0 I1 (out_noX m1)⟩
    | exc cc fs ρ1 => rw [e] at m0; exact m0
    | bad => rw [e] at m0; exact m0
  refine attr_of hab (thn (ho.pe.run pins s σ H _ I h1) fun u s1 ⟨x, H1, I1, rx, a, dx, fs, ex, ea, q⟩ => ?_)
  subst ex
  obtain rfl : u = Value.ref a := rx
  exact getprop_ok I1 ea k1 hp F hr hb .nil (L2N.passes_call (W := fun _ _ _ _ => False) takes_none5 (fun _ _ _ _ h => h)) q
end
end MV
namespace MV
open PySem PySem.Spec PyProof.Rows L2
def spX (fs : List Str) (K : PySem.W.Frag) : Sp := fun vs H Q E => ∃ (a C : Addr) (ws : List V), vs = .ref a :: ws ∧ ws.length = fs.length ∧ OexC K C ∧ (∀ f, f ∈ fs → PySem.W.findIn K (.ref C) f = some none) ∧ H a = some (exo a C none) ∧
  ∀ (dx : Addr) (H' : Hp), H dx = none → dx ≠ a → H' a = some (exo a C (some dx)) → H' dx = some (exd dx (fs.zip ws).reverse) → (∀ b, b ≠ a → b ≠ dx → H' b = H b) → Q .non H'
section
variable {P : Program} {w : World} {K : PySem.W.Frag} {mg : Str → Option Value} {base : Heap} {qual : Str} {params : Arguments} {body : List Stmt} {scope : Scope} {dvs : List V} {kws : List (Str × V)} {f : Addr} {fd : FuncData} {k : Nat} {name : Str}
theorem fn_ex1 {x : Str} {p1 p2 p3 p4 : Pos} (F : FunD K name qual params [.Assign [.Attribute (.Name "self" p1) x p2] (.Name x p3) p4] scope dvs kws f fd) (S : FnScope ["self", x] ["self", x] scope) (v1 : Vis scope "self") (v2 : Vis scope x)
    (hs : ∀ env : Env, swapsWith (.Name x p3) (some (.Attribute (.Name "self" p1) x p2)) p4.line env = pure false := by intro _; rfl)
    (hd : (x == ("__debug__" : Str)) = false := by decide) (hcd : (x == ("__classdict__" : Str)) = false := by decide) : FnOk P w K mg base (L2N.CX P w) (k + 1) f fd ["self", x] (spX [x] K) := by
  refine F.ok S (fun vs H Q E h => ?_) fun cdv A outer s H vs Q E hr h => ?_
  · obtain ⟨a, C, ws, e, l, _⟩ := h
    rw [e, List.length_cons, l]; rfl
  · obtain ⟨a, C, ws, rfl, l, T, hn, ea, q⟩ := h
    match ws, l with
    | [y], _ =>
      refine ⟨_, pss_cons (ps_ost (pe_var (i := 0) rfl v1 (by decide) (by decide)) (pe_var (i := 1) rfl v2 hd hcd) (hs _)) pss_nil, ?_⟩
      refine ⟨y, rfl, V.ref a, rfl, a, C, rfl, T, hn x (by simp), .inl ⟨ea, fun dx h1 h2 => ?_⟩⟩
      refine q dx _ h1 h2 upd_same ?_ fun b h3 h4 => ?_
      · rw [upd_ne h2, upd_same]; rfl
      · rw [upd_ne h3, upd_ne h4]
theorem fn_ex2 {x y : Str} {p1 p2 p3 p4 p5 p6 p7 p8 : Pos} (F : FunD K name qual params [.Assign [.Attribute (.Name "self" p1) x p2] (.Name x p3) p4, .Assign [.Attribute (.Name "self" p5) y p6] (.Name y p7) p8] scope dvs kws f fd) (S : FnScope ["self", x, y] ["self", x, y] scope) (v1 : Vis scope "self") (v2 : Vis scope x) (v3 : Vis scope y)
    (hs : ∀ env : Env, swapsWith (.Name x p3) (some (.Attribute (.Name "self" p1) x p2)) p4.line env = pure false := by intro _; rfl) (hs2 : ∀ env : Env, swapsWith (.Name y p7) (some (.Attribute (.Name "self" p5) y p6)) p8.line env = pure false := by intro _; rfl)
    (hd : (x == ("__debug__" : Str)) = false := by decide) (hcd : (x == ("__classdict__" : Str)) = false := by decide) (hd2 : (y == ("__debug__" : Str)) = false := by decide) (hcd2 : (y == ("__classdict__" : Str)) = false := by decide) : FnOk P w K mg base (L2N.CX P w) (k + 1) f fd ["self", x, y] (spX [x, y] K) := by
  refine F.ok S (fun vs H Q E h => ?_) fun cdv A outer s H vs Q E hr h => ?_
  · obtain ⟨a, C, ws, e, l, _⟩ := h
    rw [e, List.length_cons, l]; rfl
  · obtain ⟨a, C, ws, rfl, l, T, hn, ea, q⟩ := h
    match ws, l with
    | [u, z], _ =>
      refine ⟨_, pss_cons (ps_ost (pe_var (i := 0) rfl v1 (by decide) (by decide)) (pe_var (i := 1) rfl v2 hd hcd) (hs _)) (pss_cons (ps_ost (pe_var (i := 0) rfl v1 (by decide) (by decide)) (pe_var (i := 2) rfl v3 hd2 hcd2) (hs2 _)) pss_nil), ?_⟩
      refine ⟨u, rfl, V.ref a, rfl, a, C, rfl, T, hn x (by simp), .inl ⟨ea, fun dx h1 h2 => ?_⟩⟩
      refine ⟨z, rfl, V.ref a, rfl, a, C, rfl, T, hn y (by simp), .inr ⟨dx, [(x, u)], upd_same, by rw [upd_ne h2, upd_same], Nat.le_of_ble_eq_true rfl, ?_⟩⟩
      refine q dx _ h1 h2 ?_ upd_same fun b h3 h4 => ?_
      · rw [upd_ne (fun e => h2 e.symm), upd_same]
      · rw [upd_ne h4, upd_ne h3, upd_ne h4]
end
section
variable {X : Cx} {J : Jx} {W : WX} {q : Bool} {fa : SemA} {σ : St} {H : Hp} {τ : List (Sv × V)} {ρ : En} {F B : Hp} {O : Addr → Option Ow}
section
variable {X : Cx} {e : Expr} {es : List Expr} {ta : TA} {p pos : Pos}
theorem pmk_oexN {CX : CXT} {x : Str} {C fI : Addr} {k : Nat} {fd : FuncData} {ps : List Str} {sp : Sp} {ds : List Value} {dvs : List V} (T : OexC X.K C) (iC : PySem.W.findIn X.K (.ref C) "__init__" = some (some (.ref fI))) (tI : PySem.W.typeIn X.K (.ref fI) = some (.type "function"))
    (F1 : FnOk X.prog X.w X.K X.mg X.base CX k fI fd ps sp) (hr : Room (k + 1) X.A) (hb : Binds X.K fd ps ds) (hd : Vals dvs ds) (hx : Passes CX X (fun _ _ _ => False)) (hg : Gl X x) (hm : X.mg x = some (.ref C)) (ha : PA X (e :: es) ta)
    (hdb : (x == ("__debug__" : Str)) = false := by decide) (he : starEach (e :: es) X.env = (false, eval e X.env) :: starEach es X.env := by rfl) (hpl : (backTo pos (starEach es X.env)).any (·.1) = false := by rfl) :
    L2N.PMk X (.Call (.Name x p) (e :: es) [] pos) (tMkO C sp dvs ta) := by
  intro pins s σ H Q I h
  obtain ⟨_, _, _, _, bm, _, _, _, _, _, _, _, _, _, _, hC, hbm⟩ := T.cls
  refine wpAny_Call_Name_kw (ld_glob I hg hm ?_ hdb)
  refine PySem.W.callWith_K (h₀ := X.base) I.ok.mod.kin T.kC (thn (ha.run pos pins s σ H _ I h) fun us s1 ⟨vs, H1, I1, r1, hz, q1⟩ => ⟨I1.kIn, ?_⟩) he hpl
  show wpAny _ _ (call (.ref C) us) _ _ _
  obtain ⟨hp, g, dr, tk, os⟩ := s1
  generalize hn1 : hp.objs.size + 1 = n1
  have le1 : hp.objs.size ≤ n1 := by omega
  have hq := q1 n1 (I1.hok.fresh le1)
  generalize hnew : (hp.push (PySem.W.kdv_tup us)).push (PySem.HandSPX.excO C hp.objs.size) = hN
  have up : ∀ b o, hp.get? b = some o → hN.get? b = some o := fun b o z => by rw [← hnew]; exact Heap.get?_push_of_some _ (Heap.get?_push_of_some _ z)
  have at1 : hN.get? n1 = some (PySem.HandSPX.excO C hp.objs.size) := by rw [← hnew, ← hn1]; heap_get
  have I2 : Inv X pins σ (upd H1 n1 (exo n1 C none)) ⟨hN, g, dr, tk, os⟩ := I1.laid (t' := tk) (a := n1) (o := exo n1 C none) (h' := hN) up le1 (exo_ok at1)
  have r2 : Vals (V.ref n1 :: (vs ++ dvs)) (Value.ref n1 :: (us ++ ds)) := .cons rfl (r1.append hd)
  have len2 : (Value.ref n1 :: us ++ ds).length = ps.length := by
    have z := r2.length
    rw [F1.len _ _ _ _ hq] at z
    exact z.symm
  have small : us.length ≤ sizeLine := by rw [← Paired.length r1, sizeLine_eq]; omega
  subst hnew
  subst hn1
  refine wpAny_call (PySem.HandSPX.call_own F.excBase_ValueError (fun Y => PySem.HandSPX.refsVE_contains Y bm hbm) (I1.kIn _ _ hC) (PySem.W.looks_findIn I1.kIn iC) (fun self => PySem.W.bind_fn I1.kIn self tI) small
    (codeAny_mono (F1.run _ X.stack _ _ ⟨Value.ref (hp.objs.size + 1) :: us, []⟩ (Value.ref (hp.objs.size + 1) :: (us ++ ds)) _ _ (fun _ _ _ => False) (hr.make C us []) (I2.env0.make C us []) (hb _ (Value.ref (hp.objs.size + 1) :: us) I2.kIn len2) r2 hq) fun r s' hq' => ?_))
  cases r with
  | error er => exact hx pins σ _ _ er s' I2 hq'
  | ok fl =>
    cases fl with
    | ret u =>
      obtain ⟨v, H2, os2, bare2, un2, hok2, rv, rfl, d, fs, ea, ed, hd1, q2⟩ := hq'
      obtain ⟨h2, g2, d2, t2, os'⟩ := s'
      obtain ⟨t0, G, J, kG, ge, hoe, na⟩ := mk_end0 (d2 := d2) (t2 := t2) I1 le1 up un2 hok2 os2 bare2 ea ed hd1
      exact ⟨rv, ⟨hp.objs.size + 1, _, _, ⟨G, g2, d2, t2, os'⟩, _, .ref C, some d, rfl, J, kG, ge, hoe, ⟨rfl, rfl, fun vs hv => by cases hv; rfl⟩, rfl, rfl, na, rfl, bare2, raises_own T.exC T.tyC, q2⟩⟩
    | next => exact False.elim hq'
    | brk => exact False.elim hq'
    | cont => exact False.elim hq'
end
def sRaise (c : Str) (fs : List Str) (fa : SemA) : SemS := fun ρ => bndA (fa ρ) fun as ρ1 => match argVs ρ1 (fs.map fun _ => .shr) as with
    | some ds => .exc c (fs.zip ds).reverse ρ1
    | none => .bad
where
  bndA (r : Rs (List Ar)) (k : List Ar → En → Sr) : Sr := match r with
    | .ok as ρ => k as ρ
    | .exc c fs ρ => .exc c fs ρ
    | .bad => .bad
theorem IvW.addF {o : HO} {p : Addr} (I : IvW J F B O ρ τ σ H) (np : H p = none) : IvW J (upd F p o) (upd B p o) O ρ τ σ (upd H p o) := by
  have nB := I.base.freeB np
  have nF := I.base.freeF nB
  have hs := upd_sub (o := o) np
  refine ⟨I.base.grow hs upd_same (I.base.freeH0 np) nF nB, I.len, fun i s e => ?_, ?_⟩
  · obtain ⟨t, v, e1, h⟩ := I.slot i s e
    exact ⟨t, v, e1, h.grow nF nB hs fun a u g _ => ne_of_none g np⟩
  · exact I.temp.imp fun s v k _ _ h => h.grow nF nB hs fun a u g _ => ne_of_none g np
theorem argsShr {K : PySem.W.Frag} {all : List Addr} : ∀ {fs : List Str} {ds : List Vl} {vs : List V}, ArgsR K F H all (fs.map fun _ => .shr) ds vs [] → vs.length = fs.length ∧ ds.length = fs.length ∧ RepL K F ds vs
  | [], [], [], _ => ⟨rfl, rfl, rfl⟩
  | [], _ :: _, _, h => by cases h
  | [], [], _ :: _, h => by cases h
  | f :: fs, [], _, h => by cases h
  | f :: fs, _ :: _, [], h => by cases h
  | f :: fs, d :: ds, v :: vs, ⟨h1, h⟩ => by
    obtain ⟨h2, h3, h4⟩ := argsShr h
    exact ⟨by rw [List.length_cons, List.length_cons, h2], by rw [List.length_cons, List.length_cons, h3], v, vs, rfl, h1, h4⟩
theorem ioSl_shr : ∀ {fs : List Str} {as : List Ar}, ioSl (fs.map fun _ => .shr) as = []
  | [], as => by cases as <;> rfl
  | f :: fs, [] => rfl
  | f :: fs, .ex s :: as => ioSl_shr (fs := fs)
  | f :: fs, .sl i :: as => ioSl_shr (fs := fs)
theorem chkA_shr {ρ : En} : ∀ {fs : List Str} {as : List Ar} {ds : List Vl}, argVs ρ (fs.map fun _ => .shr) as = some ds → chkA [] (fs.map fun _ => .shr) as = true
  | [], [], _, _ => rfl
  | [], a :: as, _, e => by cases e
  | f :: fs, [], _, e => by cases e
  | f :: fs, a :: as, ds, e => by
    have e : argVs ρ (.shr :: fs.map fun _ => .shr) (a :: as) = some ds := e
    rw [argVs_cons] at e
    cases ea : arV ρ a with
    | none => rw [ea] at e; cases e
    | some s =>
      rw [ea] at e
      replace e : (match arD .shr s with | some d => (argVs ρ (fs.map fun _ => .shr) as).map (d :: ·) | none => none) = some ds := e
      cases ed : arD .shr s with
      | none => rw [ed] at e; cases e
      | some d =>
        rw [ed] at e
        obtain ⟨ds', e1, _⟩ := Option.map_eq_some_iff.mp (show (argVs ρ (fs.map fun _ => .shr) as).map (d :: ·) = some ds from e)
        have ih := chkA_shr e1
        cases a with
        | ex s => exact ih
        | sl i => exact ih
theorem repF_zip {K : PySem.W.Frag} {G : Hp} : ∀ {fs : List Str} {ds : List Vl} {vs : List V}, RepL K G ds vs → RepF K G (fs.zip ds) (fs.zip vs)
  | [], _, _, _ => rfl
  | f :: fs, [], vs, h => by rw [show vs = [] from h]; exact rfl
  | f :: fs, d :: ds, vs, ⟨v, r, e, h1, h2⟩ => by subst e; exact ⟨v, _, rfl, h1, repF_zip h2⟩
theorem repF_app {K : PySem.W.Frag} {G : Hp} : ∀ {a b : List (Str × Vl)} {u v : List (Str × V)}, RepF K G a u → RepF K G b v → RepF K G (a ++ b) (u ++ v)
  | [], b, u, v, h, g => by rw [show u = [] from h]; exact g
  | (f, x) :: a, b, u, v, ⟨y, r, e, h1, h2⟩, g => by subst e; exact ⟨y, _, rfl, h1, repF_app h2 g⟩
theorem repF_rev {K : PySem.W.Frag} {G : Hp} : ∀ {a : List (Str × Vl)} {u : List (Str × V)}, RepF K G a u → RepF K G a.reverse u.reverse
  | [], u, h => by rw [show u = [] from h]; exact rfl
  | (f, x) :: a, u, ⟨y, r, e, h1, h2⟩ => by
    subst e
    rw [List.reverse_cons, List.reverse_cons]
    exact repF_app (repF_rev h2) ⟨y, [], rfl, h1, rfl⟩
theorem exo_clean {H1 H' : Hp} {a C dx : Addr} {l : List (Str × V)} (hn : H1 a = none) (hne : dx ≠ a) (hk : ∀ b, b ≠ a → b ≠ dx → H' b = upd H1 a (exo a C none) b) : upd (del H' a) dx (.xd l) = upd H1 dx (.xd l) := by
  funext b
  by_cases h1 : b = dx
  · subst h1; rw [upd_same, upd_same]
  · rw [upd_ne h1, upd_ne h1]
    by_cases h2 : b = a
    · subst h2; rw [del_same, hn]
    · rw [del_ne h2, hk b h2 h1, upd_ne h2]
theorem xs_raise {c x : Str} {fI : Addr} {k : Nat} {fd : FuncData} {ps : List Str} {fs : List Str} {e : Expr} {es : List Expr} {p pos pos2 : Pos} (hK : J.K = X.K) (hc : X.calm = true) (tk : Takes X W)
    (T : OexC X.K (He.ga X.K c)) (hn : ∀ f, f ∈ fs → PySem.W.findIn X.K (.ref (He.ga X.K c)) f = some none) (iC : PySem.W.findIn X.K (.ref (He.ga X.K c)) "__init__" = some (some (.ref fI))) (tI : PySem.W.typeIn X.K (.ref fI) = some (.type "function"))
    (F1 : FnOk X.prog X.w X.K X.mg X.base (L2N.CX X.prog X.w) k fI fd ps (spX fs X.K)) (hr : Room (k + 1) X.A) (hb : Binds X.K fd ps []) (hg : Gl X x) (hm : X.mg x = some (.ref (He.ga X.K c))) (hl : (fs.length ≤ 1000) := by decide) (ha : XA X J W (e :: es) q fa)
    (hdb : (x == ("__debug__" : Str)) = false := by decide) (he : starEach (e :: es) X.env = (false, eval e X.env) :: starEach es X.env := by rfl) (hpl : (backTo pos (starEach es X.env)).any (·.1) = false := by rfl) :
    XS X J W (.Raise (some (.Call (.Name x p) (e :: es) [] pos)) none pos2) (sRaise c fs fa) := by
  refine ⟨(L2N.ps_raise hc tk (pmk_oexN (dvs := []) (ds := []) T iC tI F1 hr hb .nil (L2N.passes_call (W := fun _ _ _ _ => False) takes_none5 (fun _ _ _ _ h => h)) hg hm ha.pa hdb he hpl)).imp fun σ H D h => ?_⟩
  obtain ⟨ρ, τ, I, nt, m⟩ := h
  refine ⟨ρ, τ, I, .inr nt, ?_⟩
  unfold sRaise sRaise.bndA at m
  cases z : fa ρ with
  | ok as ρ1 =>
    rw [z] at m
    rintro vs τ' H1 k ⟨F, B, O, I1⟩
    have m : OutS J W τ (match argVs ρ1 (fs.map fun _ => .shr) as with
      | some ds => .exc c (fs.zip ds).reverse ρ1
      | none => .bad) D := m
    cases ea : argVs ρ1 (fs.map fun _ => .shr) as with
    | none => rw [ea] at m; exact m.elim
    | some ds =>
      rw [ea] at m
      obtain ⟨I2, ar⟩ := args_R (is := []) nt (fun i hi => by cases hi) _ as ds vs τ τ' ea (chkA_shr ea) (fun i hi => by rw [ioSl_shr] at hi; exact hi) k I1
      rw [ioSl_shr] at ar
      obtain ⟨l1, l2, rl⟩ := argsShr (show ArgsR J.K F H1 [] (fs.map fun _ => .shr) ds vs [] from ar)
      refine ⟨by rw [l1]; exact hl, fun a na => ?_⟩
      rw [List.append_nil]
      refine ⟨a, _, vs, rfl, l1, T, hn, upd_same, fun dx H' h1 h2 h3 h4 h5 => ⟨rfl, dx, _, h3, h4, ?_, ?_⟩⟩
      · rw [upd_ne h2] at h1; exact h1
      · rw [exo_clean na h2 h5]
        rw [upd_ne h2] at h1
        have I3 := I2.addF (o := .xd (fs.zip vs).reverse) h1
        refine m _ _ _ _ ⟨_, _, _, ⟨I3.base, I3.len, I3.slot, trivial⟩, by rw [hK], .inr ⟨dx, (fs.zip vs).reverse, rfl, upd_same, fun f y e => ?_⟩⟩
        have rl2 : RepL J.K (upd F dx (.xd (fs.zip vs).reverse)) ds vs := rl.mono (upd_sub (I2.base.freeF (I2.base.freeB h1)))
        exact (repF_rev (repF_zip rl2)).look e
  | exc cc fs' ρ1 => rw [z] at m; intro cls d H1 hx; exact m cls d σ H1 hx
  | bad => rw [z] at m; exact m.elim
end
end MV
namespace MV
open PySem PySem.Spec PyProof.Rows L2
abbrev Hdl := Option Nat × Value × (Addr → Value → Option Addr → TS)
def unD (D : Ends) : Option Nat → Ends
  | none => D
  | some i => { nx := fun σ' H' => D.nx (σ'.set i none) H', rt := D.rt, bk := fun σ' H' => D.bk (σ'.set i none) H', ct := fun σ' H' => D.ct (σ'.set i none) H' }
def inSt (σ : St) (a : Addr) : Option Nat → St
  | none => σ
  | some i => σ.set i (some (.ref a))
def wManyA (K : PySem.W.Frag) (Wout : WX) (D : Ends) : List Hdl → WX
  | [] => Wout
  | (o, c, ts) :: r => fun cls d σ H => ∃ b, PySem.W.exmOne K cls c = some b ∧ (b = true → ∀ a, H a = none → ts a cls d (unD D o) (inSt σ a o) H) ∧ (b = false → wManyA K Wout D r cls d σ H)
inductive HdsA (X : Cx) : List ExceptHandler → List Hdl → Prop
  | nil : HdsA X [] []
  | cons {x : Str} {c : Value} {ts : Addr → Value → Option Addr → TS} {b₀ : Stmt} {suite : List Stmt} {np pos' : Pos} {hds : List ExceptHandler} {l : List Hdl} (hc : Names X x c)
      (hsu : ∀ (a : Addr) (oe : Obj) (cls : Value) (d : Option Addr) (pn : List (Addr × Obj)), L2N.Zn cls d oe → (∃ vs, oe.data = .fields vs) → PSs (X.suite a ((a, oe) :: pn)) (b₀ :: suite) (ts a cls d)) (r : HdsA X hds l) :
      HdsA X (.ExceptHandler (some (.Name x np)) none (b₀ :: suite) pos' :: hds) ((none, c, ts) :: l)
  | as {x n : Str} {i : Nat} {c : Value} {ts : Addr → Value → Option Addr → TS} {b₀ : Stmt} {suite : List Stmt} {np pos' : Pos} {hds : List ExceptHandler} {l : List Hdl} (hc : Names X x c) (hi : X.N[i]? = some n) (hln : X.env.kindOf n = some .local)
      (hsu : ∀ (a : Addr) (oe : Obj) (cls : Value) (d : Option Addr) (pn : List (Addr × Obj)), L2N.Zn cls d oe → (∃ vs, oe.data = .fields vs) → PSs (X.suite a ((a, oe) :: pn)) (b₀ :: suite) (ts a cls d)) (r : HdsA X hds l) :
      HdsA X (.ExceptHandler (some (.Name x np)) (some n) (b₀ :: suite) pos' :: hds) ((some i, c, ts) :: l)
section
variable {X : Cx} {body : List Stmt} {h₀ : ExceptHandler} {hds : List ExceptHandler} {l : List Hdl} {pos : Pos} {tb : WX → TS} {Wout : WX}
theorem ps_try_all (hs : X.stack = X.env :: X.outer) (hf : X.env.frame = some X.env.locals) (hN : X.N.Nodup) (tk : Takes X Wout)
    (hb : ∀ (W : WX) (pn : List (Addr × Obj)) (xe : Value → Shared → Prop), Takes (X.tr pn xe) W → PassesOwn (model X.prog X.w) X.A X.env xe → PSs (X.tr pn xe) body (tb W))
    (hh : HdsA X (h₀ :: hds) l) : PS X (.Try body (h₀ :: hds) [] [] pos) (fun D σ H => tb (wManyA X.K Wout D l) D σ H) := by
  refine ⟨fun pins s σ H D I h => ?_⟩
  have ok := I.ok
  have hfr : X.A.frames = some (X.env :: X.outer) := by rw [ok.frames, hs]
  refine wpAny_Try_except ?_
  refine wpAny_mono ((hb (wManyA X.K Wout D l) (X.pn ++ pins) (fun e s₁ => wpAny (model X.prog X.w) X.A (noteFrame e X.env) (fun _ s₂ => wpAny (model X.prog X.w) X.A (setFlight e none) (fun _ s₃ =>
    wpAny (model X.prog X.w) X.A (handleBy e X.env (h₀ :: hds)) (SP X pins D) X.xe s₃) X.xe s₂) X.xe s₁) (fun u s' xx => ?_) PassesOwn.looking).run [] s σ H D (I.toTry _) h) (fun f s1 hsp => ?_) (fun e s1 he => he)
  · obtain ⟨a, B, sI, pins', σ', H', cls, d, rfl, J', nb, up, sky, na, os, ag, w⟩ := xx
    have J : Inv X pins σ' H' sI := J'.ofTry ok
    have sky' : Sky B (X.env :: X.outer) a (L2N.Zn cls d) X.env.locals s'.heap := by rw [← hs]; exact sky
    show wpAny (model X.prog X.w) X.A (noteFrame (.ref a) X.env) _ _ _
    refine L2N.Sky.land L2N.Zn.steady hfr hf sky' fun h3 fl3 up3 => ?_
    have J3 : Inv X pins σ' H' { s' with heap := h3 } := J.landed nb fl3.1 (up.trans up3) os ag
    obtain ⟨oe3, vs3, he3, hz3, hd3⟩ := fl3.there
    have notFr : ∀ {h : Heap} {o : Obj} {vs : Array Value}, h.FunFrames B (X.env :: X.outer) → h.get? a = some o → o.data = .fields vs → a ∉ frs (X.env :: X.outer) := fun {h o vs} ff e dd hm => by
      obtain ⟨_, o', e', hnf⟩ := ff.mem hm
      rw [e] at e'; cases e'
      exact hnf _ dd
    have nfr := notFr fl3.2.2.1 he3 hd3
    have nL : a ≠ X.env.locals := fun z => nfr (List.mem_filterMap.mpr ⟨X.env, List.mem_cons_self, by rw [hf, z]⟩)
    have nF : a ∉ X.fs := fun hm => by
      obtain ⟨e, he, q⟩ := List.mem_filterMap.mp hm
      exact nfr (List.mem_filterMap.mpr ⟨e, List.mem_cons_of_mem _ he, q⟩)
    have S3 := J3.suite he3 hd3 na nL nF
    have LT : PySem.W.Looks (model X.prog X.w) h3 (typeOf (.ref a)) cls := fun A Q E s k q => wpAny_typeOf_ref (k _ _ he3) (by rw [hz3.1]; exact q)
    have test : ∀ {x : Str} {c : Value} {np : Pos} {Q : Value → Shared → Prop} {E : Value → Shared → Prop}, Names X x c → Q c { s' with heap := h3 } → wpAny (model X.prog X.w) (X.A.mark (some (.ref a))) (eval (.Name x np) X.env) Q E { s' with heap := h3 } := fun {x c np Q E} hc q => by
      obtain ⟨hg, hdbg, hm | ⟨hm, hv, hnn⟩⟩ := hc
      · exact ld_glob (X := X.suite a ((a, oe3) :: (X.pn ++ pins))) S3 hg hm q hdbg
      · exact ld_blt (X := X.suite a ((a, oe3) :: (X.pn ++ pins))) S3 hg hm hv q hnn hdbg
    have go : ∀ {hds' : List ExceptHandler} {l' : List Hdl}, HdsA X hds' l' → wManyA X.K Wout D l' cls d σ' H' →
        wpAny (model X.prog X.w) X.A (handleBy (.ref a) X.env hds') (SP X pins D) X.xe { s' with heap := h3 } := by
      intro hds' l' hk
      induction hk with
      | nil =>
        intro w
        refine wpAny_handleBy_nil ?_
        obtain ⟨k1, k2, k3, oe, vs, T, oT, ts', he, hz, hd, h1, hr⟩ := id fl3
        unfold PySem.passOn
        refine wpAny_bind (wpAny_field he hd h1 ?_)
        rw [if_neg (show ¬ ((Value.ref T == Value.none) = true) from by simp)]
        have fin : wpAny (model X.prog X.w) X.A (setFlight (.ref a) X.env.frame) (fun _ s4 => wpAny (model X.prog X.w) X.A (throw (.ref a) : Sem Flow) (SP X pins D) X.xe s4) X.xe { s' with heap := h3 } := by
          rw [hf]
          refine HandSPX.setFlight_upZ fl3 fun h4 hh4 up4 => wpAny_throw (tk _ _ ?_)
          exact ⟨a, B, sI, pins, σ', H', cls, d, rfl, J, nb, (up.trans up3).trans up4, .inr (.inr (by rw [hs]; exact hh4)), na, os, ag, w⟩
        first
          | exact wpAny_bind (wpAny_pure (wpAny_bind fin))
          | exact wpAny_bind fin
      | @cons x c ts b₀ suite np pos' hds2 l2 hc hsu r ih =>
        intro w
        obtain ⟨b, hb1, hyes, hno⟩ := w
        refine wpAny_handleBy_cons (codeAny_handlers_test ?_) (by intro q; cases q)
        refine test hc ((PySem.W.exm_one (M := model X.prog X.w) (J3.kIn) LT hb1).here ?_)
        cases b with
        | true =>
          refine codeAny_handlers_suite ?_
          refine HandSPX.lands_againZ fl3 fun h4 fl4 up4 => ?_
          have J4 : Inv X pins σ' H' { s' with heap := h4 } := J.landed nb fl4.1 ((up.trans up3).trans up4) os ag
          obtain ⟨oe4, vs4, he4, hz4, hd4⟩ := fl4.there
          have S4 := J4.suite he4 hd4 na nL nF
          refine wpAny_mono ((hsu a oe4 cls d (X.pn ++ pins) hz4 ⟨_, hd4⟩).run [] _ _ H' _ S4 (hyes rfl a na)) (fun f s6 hsp => ?_) (fun _ _ z => False.elim z)
          cases f with
          | next =>
            obtain ⟨σ6, H6, S6, q6⟩ := hsp
            exact ⟨_, _, S6.unsuite ok, q6⟩
          | brk =>
            obtain ⟨σ6, H6, S6, q6⟩ := hsp
            exact ⟨_, _, S6.unsuite ok, q6⟩
          | cont =>
            obtain ⟨σ6, H6, S6, q6⟩ := hsp
            exact ⟨_, _, S6.unsuite ok, q6⟩
          | ret u =>
            obtain ⟨v6, σ6, H6, S6, r6, q6⟩ := hsp
            exact ⟨_, _, _, S6.unsuite ok, r6, q6⟩
        | false =>
          show wpAny _ X.A (handleBy (.ref a) X.env hds2) _ _ _
          exact ih (hno rfl)
      | @as x n i c ts b₀ suite np pos' hds2 l2 hc hi hln hsu r ih =>
        intro w
        obtain ⟨b, hb1, hyes, hno⟩ := w
        refine wpAny_handleBy_cons (codeAny_handlers_test ?_) (by intro q; cases q)
        refine test hc ((PySem.W.exm_one (M := model X.prog X.w) (J3.kIn) LT hb1).here ?_)
        cases b with
        | true =>
          refine codeAny_handlers_suite_as ?_
          refine HandSPX.lands_againZ fl3 fun h4 fl4 up4 => ?_
          have J4 : Inv X pins σ' H' { s' with heap := h4 } := J.landed nb fl4.1 ((up.trans up3).trans up4) os ag
          obtain ⟨oe4, vs4, he4, hz4, hd4⟩ := fl4.there
          have S4 := J4.suite he4 hd4 na nL nF
          refine store_ok (X := X.suite a ((a, oe4) :: (X.pn ++ pins))) (v := .ref a) S4 hN hi (.inl hln) rfl (fun s5 S5 => ?_) (.inr hln)
          refine wpAny_mono ((hsu a oe4 cls d (X.pn ++ pins) hz4 ⟨_, hd4⟩).run [] s5 _ H' _ S5 (hyes rfl a na)) (fun f s6 hsp => ?_) (fun _ _ z => False.elim z)
          have end_ : ∀ {σ6 : St} {H6 : Hp} {Q : Shared → Prop}, Inv (X.suite a ((a, oe4) :: (X.pn ++ pins))) [] σ6 H6 s6 → (∀ s7, Inv X pins (σ6.set i none) H6 s7 → Q s7) →
              wpAny (model X.prog X.w) X.A (do bindName X.env n .none; unbindBehindTheSuite X.env n pos') (fun _ s7 => Q s7) X.xe s6 := fun {σ6 H6 Q} S6 hq => gone_ok (S6.unsuite ok) hN hi hln hq
          cases f with
          | next =>
            obtain ⟨σ6, H6, S6, q6⟩ := hsp
            exact end_ S6 fun s7 J7 => ⟨_, _, J7, q6⟩
          | brk =>
            obtain ⟨σ6, H6, S6, q6⟩ := hsp
            exact end_ S6 fun s7 J7 => ⟨_, _, J7, q6⟩
          | cont =>
            obtain ⟨σ6, H6, S6, q6⟩ := hsp
            exact end_ S6 fun s7 J7 => ⟨_, _, J7, q6⟩
          | ret u =>
            obtain ⟨v6, σ6, H6, S6, r6, q6⟩ := hsp
            exact end_ S6 fun s7 J7 => ⟨_, _, _, J7, r6, q6⟩
        | false =>
          show wpAny _ X.A (handleBy (.ref a) X.env hds2) _ _ _
          exact ih (hno rfl)
    exact go hh w
  · cases f with
    | next =>
      obtain ⟨σ', H', J', q⟩ := hsp
      exact wpAny_execs_nil ⟨σ', H', J'.ofTry ok, q⟩
    | brk =>
      obtain ⟨σ', H', J', q⟩ := hsp
      exact ⟨σ', H', J'.ofTry ok, q⟩
    | cont =>
      obtain ⟨σ', H', J', q⟩ := hsp
      exact ⟨σ', H', J'.ofTry ok, q⟩
    | ret u =>
      obtain ⟨v, σ', H', J', r, q⟩ := hsp
      exact ⟨v, σ', H', J'.ofTry ok, r, q⟩
end
structure XS0 (X : Cx) (J : Jx) (W : WX) (st : Stmt) (f : SemS) : Prop where
  ps : PS X st (fun D σ H => ∃ ρ, Iv J ρ [] σ H ∧ OutS J W [] (f ρ) D)
structure XB0 (X : Cx) (J : Jx) (W : WX) (sts : List Stmt) (f : SemS) : Prop where
  pss : PSs X sts (fun D σ H => ∃ ρ, Iv J ρ [] σ H ∧ OutS J W [] (f ρ) D)
structure HSem where
  o : Option Nat
  mt : Str → Option Bool
  su : Str → List (Str × Vl) → SemS
def unR (o : Option Nat) (r : Sr) : Sr := match o with
  | none => (match r with
    | .exc _ _ _ => .bad
    | r => r)
  | some i => (match r with
    | .next ρ => .next (ρ.set i none)
    | .brk ρ => .brk (ρ.set i none)
    | .cont ρ => .cont (ρ.set i none)
    | .ret s ρ => .ret s ρ
    | .exc _ _ _ => .bad
    | .bad => .bad)
def outS' (ρ : En) : Option Nat → Option En
  | none => some ρ
  | some i => if noIo ρ i && decide (i < ρ.length) then some (ρ.set i none) else none
def hRun : List HSem → Str → List (Str × Vl) → En → Sr
  | [], c, fs, ρ => .exc c fs ρ
  | h :: r, c, fs, ρ => match h.mt c with
    | some true => (match outS' ρ h.o with
      | some ρ1 => unR h.o (h.su c fs ρ1)
      | none => .bad)
    | some false => hRun r c fs ρ
    | none => .bad
def sTry (f : SemS) (hs : List HSem) : SemS := fun ρ => match f ρ with
  | .exc c fs ρ1 => hRun hs c fs ρ1
  | r => r
def Jx.sub (J : Jx) (F : Hp) (fx : Option (Nat × V)) : Jx := ⟨J.K, J.H0, F, J.ios, fx⟩
section
variable {X : Cx} {J : Jx} {W : WX} {F B H : Hp} {O : Addr → Option Ow} {ρ : En} {τ : List (Sv × V)} {σ : St} {F' : Hp} {fx : Option (Nat × V)}
theorem sr_sub {ow : Ow} {s : Sv} {v : V} : SR (J.sub F' fx) F B H O ow s v = SR J F B H O ow s v := by
  obtain ⟨m, d⟩ := s
  cases m <;> rfl
theorem tok_sub : ∀ {τ : List (Sv × V)}, TOk (J.sub F' fx) F B H O τ = TOk J F B H O τ
  | [] => rfl
  | (s, v) :: t => by
    show (SR (J.sub F' fx) F B H O _ s v ∧ TOk (J.sub F' fx) F B H O t) = (SR J F B H O _ s v ∧ TOk J F B H O t)
    rw [sr_sub, tok_sub]
theorem IvW.enter {o : Option Nat} {a : Addr} {ρ1 : En} (I : IvW J F B O ρ τ σ H) (h : outS' ρ o = some ρ1) : IvW (J.sub F (o.map fun i => (i, V.ref a))) F B O ρ1 τ (inSt σ a o) H := by
  have base : Base (J.sub F (o.map fun i => (i, V.ref a))) F B H := ⟨I.base.fb, I.base.bh, fun _ _ e => e, fun b u e => .inl e, I.base.keep, I.base.iot⟩
  cases o with
  | none =>
    cases h
    exact ⟨base, ⟨I.len.eq, fun i v e => by cases e⟩, fun i s e => (let ⟨t, v, e1, r⟩ := I.slot i s e; ⟨t, v, e1, by rw [sr_sub]; exact r⟩), by rw [tok_sub]; exact I.temp⟩
  | some k =>
    have h : (if noIo ρ k && decide (k < ρ.length) then some (ρ.set k none) else none) = some ρ1 := h
    by_cases c : (noIo ρ k && decide (k < ρ.length)) = true
    · rw [if_pos c] at h
      cases h
      have hl := of_decide_eq_true (Bool.and_eq_true_iff.mp c).2
      refine ⟨base, ⟨by show (ρ.set k none).length = (σ.set k _).length; rw [List.length_set, List.length_set]; exact I.len.eq, fun i v e => ?_⟩, fun i s e => ?_, by rw [tok_sub]; exact I.temp⟩
      · cases e
        show (σ.set k (some (.ref a)))[k]? = _
        rw [List.getElem?_set_self (by rw [← I.len.eq]; exact hl)]
      · by_cases hi : k = i
        · subst hi
          rw [List.getElem?_set_self hl] at e; cases e
        · rw [List.getElem?_set_ne hi] at e
          obtain ⟨t, v, e1, r⟩ := I.slot i s e
          refine ⟨t, v, ?_, by rw [sr_sub]; exact r⟩
          show (σ.set k (some (.ref a)))[i]? = _
          rw [List.getElem?_set_ne hi]; exact e1
    · rw [if_neg c] at h; cases h
def unσ (σ : St) : Option Nat → St
  | none => σ
  | some i => σ.set i none
def unρ (ρ : En) : Option Nat → En
  | none => ρ
  | some i => ρ.set i none
theorem IvW.leave {o : Option Nat} {F0 : Hp} (hfx : J.fx = none) (hs : Sub J.F0 F0) (hn : ∀ b u, F0 b = some u → J.F0 b = some u ∨ J.H0 b = none) (I : IvW (J.sub F0 fx) F B O ρ τ σ H) : IvW J F B O (unρ ρ o) τ (unσ σ o) H := by
  have base : Base J F B H := ⟨I.base.fb, I.base.bh, fun b u e => I.base.f0 _ _ (hs _ _ e), fun b u e => (I.base.new b u e).elim (hn b u) .inr, I.base.keep, I.base.iot⟩
  cases o with
  | none => exact ⟨base, ⟨I.len.eq, fun i v e => by rw [hfx] at e; cases e⟩, fun i s e => (let ⟨t, v, e1, r⟩ := I.slot i s e; ⟨t, v, e1, by rw [sr_sub] at r; exact r⟩), by have t := I.temp; rw [tok_sub] at t; exact t⟩
  | some k =>
    refine ⟨base, ⟨by show (ρ.set k none).length = (σ.set k none).length; rw [List.length_set, List.length_set]; exact I.len.eq, fun i v e => by rw [hfx] at e; cases e⟩, fun i s e => ?_, by have t := I.temp; rw [tok_sub] at t; exact t⟩
    by_cases hi : k = i
    · subst hi
      have e : (ρ.set k none)[k]? = some (some s) := e
      by_cases hl : k < ρ.length
      · rw [List.getElem?_set_self hl] at e; cases e
      · rw [List.getElem?_eq_none (by simpa using hl)] at e; cases e
    · have e : (ρ.set k none)[i]? = some (some s) := e
      rw [List.getElem?_set_ne hi] at e
      obtain ⟨t, v, e1, r⟩ := I.slot i s e
      refine ⟨t, v, ?_, by rw [sr_sub] at r; exact r⟩
      show (σ.set k none)[i]? = _
      rw [List.getElem?_set_ne hi]; exact e1
def tsOf (K : PySem.W.Frag) (h : HSem) : Addr → Value → Option Addr → TS := fun a cls d D σ H => ∃ (J' : Jx) (k : Str) (fs : List (Str × Vl)), J'.K = K ∧ J'.fx = (h.o.map fun i => (i, V.ref a)) ∧ ErrR J'.K J'.F0 k fs cls d ∧ h.mt k = some true ∧ tS J' WN (h.su k fs) D σ H
inductive HM (X : Cx) : List ExceptHandler → List (HSem × Value) → Prop
  | nil : HM X [] []
  | cons {x : Str} {c : Value} {h : HSem} {b₀ : Stmt} {suite : List Stmt} {np pos' : Pos} {hds : List ExceptHandler} {l : List (HSem × Value)} (hc : Names X x c) (ho : h.o = none) (hmt : ∀ k b, h.mt k = some b → PySem.W.exmOne X.K (.ref (He.ga X.K k)) c = some b)
      (hsu : ∀ (a : Addr) (oe : Obj) (d : Option Addr) (pn : List (Addr × Obj)) (J' : Jx) (k : Str) (fs : List (Str × Vl)), J'.K = X.K → J'.fx = none → L2N.Zn (.ref (He.ga X.K k)) d oe → (∃ vs, oe.data = .fields vs) → h.mt k = some true → XB (X.suite a ((a, oe) :: pn)) J' WN (b₀ :: suite) (h.su k fs))
      (r : HM X hds l) : HM X (.ExceptHandler (some (.Name x np)) none (b₀ :: suite) pos' :: hds) ((h, c) :: l)
  | as {x n : Str} {i : Nat} {c : Value} {h : HSem} {b₀ : Stmt} {suite : List Stmt} {np pos' : Pos} {hds : List ExceptHandler} {l : List (HSem × Value)} (hc : Names X x c) (hi : X.N[i]? = some n) (hln : X.env.kindOf n = some .local) (ho : h.o = some i) (hmt : ∀ k b, h.mt k = some b → PySem.W.exmOne X.K (.ref (He.ga X.K k)) c = some b)
      (hsu : ∀ (a : Addr) (oe : Obj) (d : Option Addr) (pn : List (Addr × Obj)) (J' : Jx) (k : Str) (fs : List (Str × Vl)), J'.K = X.K → J'.fx = some (i, .ref a) → ErrR J'.K J'.F0 k fs (.ref (He.ga X.K k)) d → L2N.Zn (.ref (He.ga X.K k)) d oe → (∃ vs, oe.data = .fields vs) → h.mt k = some true → XB (X.suite a ((a, oe) :: pn)) J' WN (b₀ :: suite) (h.su k fs))
      (r : HM X hds l) : HM X (.ExceptHandler (some (.Name x np)) (some n) (b₀ :: suite) pos' :: hds) ((h, c) :: l)
theorem hm_hds {hds : List ExceptHandler} {l : List (HSem × Value)} (h : HM X hds l) : HdsA X hds (l.map fun p => (p.1.o, p.2, tsOf X.K p.1)) := by
  induction h with
  | nil => exact .nil
  | cons hc ho hmt hsu r ih =>
    rw [List.map_cons, ho]
    refine .cons hc (fun a oe cls d pn hz hf => ⟨fun pins s σ H D I hts => ?_⟩) ih
    obtain ⟨J', k, fs, hK, hx, er, hm, ht⟩ := hts
    rw [ho] at hx
    obtain ⟨ec, _⟩ := id er
    rw [hK] at ec
    subst ec
    exact (hsu a oe d pn J' k fs hK hx hz hf hm).pss.run pins s σ H D I ht
  | as hc hi hln ho hmt hsu r ih =>
    rw [List.map_cons, ho]
    refine .as hc hi hln (fun a oe cls d pn hz hf => ⟨fun pins s σ H D I hts => ?_⟩) ih
    obtain ⟨J', k, fs, hK, hx, er, hm, ht⟩ := hts
    rw [ho] at hx
    obtain ⟨ec, _⟩ := id er
    rw [hK] at ec
    subst ec
    exact (hsu a oe d pn J' k fs hK hx er hz hf hm).pss.run pins s σ H D I ht
theorem hrun_ok {hds : List ExceptHandler} {l : List (HSem × Value)} {D : Ends} {c : Str} {fs : List (Str × Vl)} {cls : Value} {d : Option Addr} (hfx : J.fx = none) (hK : J.K = X.K) (h : HM X hds l) (m : OutS J W [] (hRun (l.map (·.1)) c fs ρ) D) (hx : Ix J ρ c fs σ H cls d) :
    wManyA X.K W D (l.map fun p => (p.1.o, p.2, tsOf X.K p.1)) cls d σ H := by
  obtain ⟨F, B, O, I, er⟩ := hx
  have ec : cls = .ref (He.ga X.K c) := hK ▸ er.1
  have key : ∀ {h : HSem} {u : Value}, (∀ k b, h.mt k = some b → PySem.W.exmOne X.K (.ref (He.ga X.K k)) u = some b) → ∀ {r : List HSem} {l2 : List Hdl}, (OutS J W [] (hRun r c fs ρ) D → wManyA X.K W D l2 cls d σ H) → OutS J W [] (hRun (h :: r) c fs ρ) D →
      wManyA X.K W D ((h.o, u, tsOf X.K h) :: l2) cls d σ H := fun {h u} hmt {r l2} ih m => by
    have m : OutS J W [] (match h.mt c with
      | some true => (match outS' ρ h.o with
        | some ρ1 => unR h.o (h.su c fs ρ1)
        | none => .bad)
      | some false => hRun r c fs ρ
      | none => .bad) D := m
    cases e : h.mt c with
    | none => rw [e] at m; exact m.elim
    | some b =>
      refine ⟨b, by rw [ec]; exact hmt c b e, fun hb a na => ?_, fun hb => ?_⟩
      · subst hb
        rw [e] at m
        have m : OutS J W [] (match outS' ρ h.o with
          | some ρ1 => unR h.o (h.su c fs ρ1)
          | none => .bad) D := m
        cases e2 : outS' ρ h.o with
        | none => rw [e2] at m; exact m.elim
        | some ρ1 =>
          rw [e2] at m
          have m : OutS J W [] (unR h.o (h.su c fs ρ1)) D := m
          have I1 := I.enter (a := a) e2
          refine ⟨J.sub F (h.o.map fun i => (i, V.ref a)), c, fs, hK, rfl, er, e, ρ1, [], ⟨F, B, O, I1⟩, (fun _ h => by cases h), ?_⟩
          have back : ∀ {ρ2 : En} {τ2 : List (Sv × V)} {σ2 : St} {H2 : Hp}, Iv (J.sub F (h.o.map fun i => (i, V.ref a))) ρ2 τ2 σ2 H2 → Iv J (unρ ρ2 h.o) τ2 (unσ σ2 h.o) H2 := fun ⟨F2, B2, O2, I2⟩ =>
            ⟨F2, B2, O2, I2.leave hfx I.base.f0 I.base.new⟩
          have back0 : ∀ {ρ2 : En} {τ2 : List (Sv × V)} {σ2 : St} {H2 : Hp}, Iv (J.sub F (h.o.map fun i => (i, V.ref a))) ρ2 τ2 σ2 H2 → Iv J ρ2 τ2 σ2 H2 := fun ⟨F2, B2, O2, I2⟩ =>
            ⟨F2, B2, O2, I2.leave (o := none) hfx I.base.f0 I.base.new⟩
          revert m back back0
          cases h.o with
          | none =>
            intro m back back0
            cases e3 : h.su c fs ρ1 with
            | next ρ2 => rw [e3] at m; exact fun σ2 H2 I2 => m _ _ (back I2)
            | brk ρ2 => rw [e3] at m; exact fun σ2 H2 I2 => m _ _ (back I2)
            | cont ρ2 => rw [e3] at m; exact fun σ2 H2 I2 => m _ _ (back I2)
            | ret s ρ2 => rw [e3] at m; exact fun v σ2 H2 I2 => m v _ _ (back0 I2)
            | exc c2 fs2 ρ2 => rw [e3] at m; exact m.elim
            | bad => rw [e3] at m; exact m.elim
          | some k =>
            intro m back back0
            cases e3 : h.su c fs ρ1 with
            | next ρ2 => rw [e3] at m; exact fun σ2 H2 I2 => m _ _ (back I2)
            | brk ρ2 => rw [e3] at m; exact fun σ2 H2 I2 => m _ _ (back I2)
            | cont ρ2 => rw [e3] at m; exact fun σ2 H2 I2 => m _ _ (back I2)
            | ret s ρ2 => rw [e3] at m; exact fun v σ2 H2 I2 => m v _ _ (back0 I2)
            | exc c2 fs2 ρ2 => rw [e3] at m; exact m.elim
            | bad => rw [e3] at m; exact m.elim
      · subst hb
        rw [e] at m
        exact ih m
  induction h with
  | nil => exact m cls d σ H ⟨F, B, O, I, er⟩
  | cons hc ho hmt hsu r ih => exact key hmt ih m
  | as hc hi hln ho hmt hsu r ih => exact key hmt ih m
theorem _root_.L2.PS.imp0 {X : Cx} {st : Stmt} {t t' : TS} (h : PS X st t) (i : ∀ D σ H, t' D σ H → t D σ H) : PS X st t' := ⟨fun pins s σ H D I q => h.run pins s σ H D I (i D σ H q)⟩
theorem xs0_try {body : List Stmt} {h₀ : ExceptHandler} {hds : List ExceptHandler} {l : List (HSem × Value)} {pos : Pos} {f : SemS} (hs : X.stack = X.env :: X.outer) (hf : X.env.frame = some X.env.locals) (hN : X.N.Nodup) (tk : Takes X W) (hfx : J.fx = none) (hK : J.K = X.K)
    (hb : ∀ (W' : WX) (pn : List (Addr × Obj)) (xe : Value → Shared → Prop), Takes (X.tr pn xe) W' → PassesOwn (model X.prog X.w) X.A X.env xe → XB (X.tr pn xe) J W' body f) (hh : HM X (h₀ :: hds) l) :
    XS0 X J W (.Try body (h₀ :: hds) [] [] pos) (sTry f (l.map (·.1))) := by
  refine ⟨(ps_try_all (tb := fun W' => tS J W' f) hs hf hN tk (fun W' pn xe tk' po => (hb W' pn xe tk' po).pss) (hm_hds hh)).imp0 fun D σ H h => ?_⟩
  obtain ⟨ρ, I, m⟩ := h
  refine ⟨ρ, [], I, (fun _ h => by cases h), ?_⟩
  unfold sTry at m
  cases e : f ρ with
  | exc c fs ρ1 =>
    rw [e] at m
    exact fun cls d σ1 H1 hx => hrun_ok hfx hK hh m hx
  | next ρ1 => rw [e] at m; exact m
  | brk ρ1 => rw [e] at m; exact m
  | cont ρ1 => rw [e] at m; exact m
  | ret s ρ1 => rw [e] at m; exact m
  | bad => rw [e] at m; exact m
theorem XS.to0 {st : Stmt} {f : SemS} (h : XS X J W st f) : XS0 X J W st f := ⟨h.ps.imp0 fun D σ H ⟨ρ, I, m⟩ => ⟨ρ, [], I, (fun _ h => by cases h), m⟩⟩
variable {st : Stmt} {sts body orelse : List Stmt} {f g : SemS} {c e : Expr} {gc : SemB} {pos : Pos} {qc : Bool}
theorem XB.to0 (h : XB X J W sts f) : XB0 X J W sts f := ⟨h.pss.imp fun σ H D ⟨ρ, I, m⟩ => ⟨ρ, [], I, (fun _ h => by cases h), m⟩⟩
theorem xb0_cons (h1 : XS0 X J W st f) (h2 : XB0 X J W sts g) : XB0 X J W (st :: sts) (sSeq f g) := by
  refine ⟨(pss_cons h1.ps h2.pss).imp fun σ H D h => ?_⟩
  obtain ⟨ρ, I, m⟩ := h
  refine ⟨ρ, I, ?_⟩
  unfold sSeq at m
  cases e : f ρ with
  | next ρ1 => rw [e] at m; exact fun σ1 H1 I1 => ⟨ρ1, I1, m⟩
  | brk ρ1 => rw [e] at m; exact m
  | cont ρ1 => rw [e] at m; exact m
  | ret s ρ1 => rw [e] at m; exact m
  | exc cc fs ρ1 => rw [e] at m; exact m
  | bad => rw [e] at m; exact m
theorem xb0_one (h1 : XS0 X J W st f) : XB0 X J W [st] f := ⟨pss_one h1.ps⟩
end
theorem fn_mv0 {P : Program} {w : World} {K : PySem.W.Frag} {mg : Str → Option Value} {base : Heap} {x qual : Str} {params : Arguments} {body : List Stmt} {scope : Scope} {dvs : List V} {kws : List (Str × V)} {f : Addr} {fd : FuncData} {N ps : List Str} {k : Nat} {pm : List PM} {rm : Bool} {bd : SemS}
    (F : FunD K x qual params body scope dvs kws f fd) (S : FnScope N ps scope) (hp : pm.length = ps.length)
    (hb : ∀ (cdv : Value) (A : Around) (outer : List Env) (s : Shared) (H : Hp) (E : XK) (J : Jx), J.K = K → J.fx = none → Room k (A.deeper (envOfC qual scope s.heap.objs.size f cdv)) →
      XB0 (cxOf (L2N.CX P w) P w K mg base N qual scope f cdv A outer s H E) J (fun cls d _ H => E cls d H) body bd) :
    FnOk P w K mg base (L2N.CX P w) (k + 1) f fd ps (spF K pm rm (runB pm rm N.length bd)) := by
  have hpl : ps.length ≤ N.length := by have := congrArg List.length S.pre; rw [List.length_take] at this; omega
  refine F.ok S (fun vs H Q E h => ?_) fun cdv A outer s H vs Q E hr h => ?_
  · obtain ⟨F0, ios, ds, _, _, a, _⟩ := h
    rw [(a.len 0).2.1, hp]
  · obtain ⟨F0, ios, ds, hF, nd, a, m⟩ := h
    exact ⟨_, (hb cdv A outer s H E ⟨K, H, F0, (ioIx pm 0).zip ios, none⟩ rfl rfl hr).pss, initE pm ds N.length, entry (by rw [hp]; exact hpl) hF nd a (argsR_io a), body_ends (a.len 0).2.2 m⟩
section
variable {X : Cx} {J : Jx} {W : WX} {i : Nat} {a : Addr} {oe : Obj} {d : Option Addr} {pn : List (Addr × Obj)} {k n : Str} {fs : List (Str × Vl)} {p pos : Pos}
theorem fx_at {F B H : Hp} {O : Addr → Option Ow} {ρ : En} {τ : List (Sv × V)} {σ : St} (hx : J.fx = some (i, .ref a)) (I : IvW J F B O ρ τ σ H) : σ[i]? = some (some (.ref a)) := I.len.fx i _ hx
def fXf (fs : List (Str × Vl)) (f : Str) : Sem1 := fun ρ => match fs.lookup f with
  | some d => .ok ⟨.shr, d⟩ ρ
  | none => .bad
theorem xe_xf {f : Str} (hK : J.K = X.K) (hx : J.fx = some (i, .ref a)) (er : ErrR J.K J.F0 k fs (.ref (He.ga X.K k)) d) (hz : L2N.Zn (.ref (He.ga X.K k)) d oe) (hf : ∃ vs, oe.data = .fields vs) (T : XfC X.K (He.ga X.K k)) (hno : PySem.W.findIn X.K (.ref (He.ga X.K k)) f = some none)
    (hN : X.N[i]? = some n) (hv : Vis X.env.scope n) (hd : (n == ("__debug__" : Str)) = false := by decide) (hcd : (n == ("__classdict__" : Str)) = false := by decide)
    (hb : attributeBase (.Name n p) f X.env (eval (.Name n p) X.env) = eval (.Name n p) X.env := by rfl) : XE (X.suite a ((a, oe) :: pn)) J W (.Attribute (.Name n p) f pos) true (fXf fs f) := by
  refine ⟨(pe_xf T hno hz.zc hf (pe_var (X := X.suite a ((a, oe) :: pn)) hN hv hd hcd) hb).imp ?_⟩
  rintro σ H Q ⟨ρ, τ, ⟨F, B, O, I⟩, _, m⟩
  refine ⟨_, fx_at hx I, rfl, rfl, ?_⟩
  unfold fXf at m
  cases e : fs.lookup f with
  | none => rw [e] at m; exact m.elim
  | some x =>
    rw [e] at m
    obtain ⟨_, ⟨e1, _⟩ | ⟨dd, ws, e1, e2, e3⟩⟩ := er
    · rw [e1] at e; cases e
    · obtain ⟨v, e4, r⟩ := e3 f x e
      have g := I.base.f0 _ _ e2
      exact ⟨dd, ws, v, e1, I.base.bh _ _ (I.base.fb _ _ g), e4, m v H (I.push (s := ⟨.shr, x⟩) (Rep.mono I.base.f0 r))⟩
end
end MV
namespace PySem.W
open PySem PySem.Spec PySem.Calls PyProof.Rows
section
variable {prog : Program} {w : World} {A : Around} {E : Value → Shared → Prop} {s : Shared} {K : Frag} {x D : Addr} {ox od : Obj}
theorem mv_kin_class {Q : Option Value → Shared → Prop} (hga : findIn K (.ref D) "__getattribute__" = some (some (.builtin "BaseException.__getattribute__"))) (hgt : findIn K (.ref D) "__getattr__" = some none) (hsub : subIn K (.ref D) (.type "BaseException") = some true)
    (hdct : hasDictIn K D = true) (ha : findIn K (.ref D) "__class__" = some (some (.builtin "object.__class__")))
    (hn : specialIn K (.builtin "object.__class__") "__get__" = some (some (.builtin "getset_descriptor.__get__"))) (htk : takesIn K (.builtin "object.__class__") = some true) (hm : mroIn K D (.type "object") = some true)
    (X : K.In s.heap) (I : InstAt s.heap x ox D (some od)) (h : Q (some (.ref D)) { s with toks := s.toks + 1 }) : wpAny (model prog w) A (getAttr? (.ref x) "__class__") Q E s := by
  have hf : findObj K D (some od) "__class__" = some (.bind (.builtin "getset_descriptor.__get__") (.builtin "object.__class__")) := findObj_data (by obtain ⟨cd, hc, _⟩ := any_some hdct; rw [hc]; rfl) ha hn htk
  obtain ⟨hp, g, d, t, os⟩ := s
  have L0 := I.type (M := model prog w)
  have L1 := looks_findIn (M := model prog w) X hga
  have L2 := looks_findIn (M := model prog w) X hgt
  have L3 := looks_find (M := model prog w) X I hf
  have sub : Looks (model prog w) hp (isInstance (.ref x) (.type "BaseException")) true := L0.andThen (looks_subIn X hsub)
  have n0 : (false && onTheHeap (Value.builtin "BaseException.__getattribute__")) = false := rfl
  have n2 : (Value.builtin "BaseException.__getattribute__" == Value.builtin "object.__getattribute__") = false := by decide +kernel
  have n1 : (onTheHeap (Value.ref D) && Value.builtin "BaseException.__getattribute__" == Value.builtin "object.__getattribute__") = false := by rw [n2]; rfl
  unfold getAttr? getAttrBy? getAttrBy
  refine wpAny_bind (wpAny_mkText (wpAny_bind (wpAny_attempt (wpAny_holding (wpAny_bind (L0.at (wpAny_bind (L1.at ?_))))))))
  show wpAny _ _ (if (onTheHeap (Value.ref D) && Value.builtin "BaseException.__getattribute__" == Value.builtin "object.__getattribute__") = true then _ else _) _ _ _
  rw [n1, if_neg Bool.false_ne_true]
  unfold getAttrByItsOwn hookBefore
  refine wpAny_bind ?_
  rw [if_pos (show onTheHeap (Value.ref D) = true from rfl)]
  refine L2.at ?_
  refine wpAny_bind (wpAny_attempt (wpAny_holding ?_))
  unfold callGetattribute
  rw [n0, if_neg Bool.false_ne_true]
  unfold boundAndCalled
  rw [PySem.F.excAttr_ValueError.ga.bind (.ref x)]
  refine wpAny_bind (wpAny_pure ?_)
  show wpAny _ _ (call (.builtin "BaseException.__getattribute__") [.ref x, .str "__class__" t]) _ _ _
  refine wpAny_call (codeAny_call_builtin PySem.F.excAttr_ValueError.ga.plain PySem.F.entry_bexc_ga ?_)
  refine @check_slot (model prog w) _ _ ⟨hp, g, d, t + 1, os⟩ "BaseException.__getattribute__" "BaseException" "__getattribute__" (.ref x) [.str "__class__" t] [] _ (by decide +kernel) (by decide +kernel) sub (PySem.F.args_bexc_ga (.ref x) (.str "__class__" t)) ?_
  unfold Builtin.«object.__getattribute__»
  refine wpAny_bind (wpAny_of_eq (a := ((Value.ref x : Value), [Value.str "__class__" t])) (by first | rfl | (simp only [slotArgs]; rfl)) ?_)
  refine wpAny_bind (wpAny_pure (wpAny_bind (L0.at (wpAny_bind (L3.at ?_)))))
  show wpAny _ _ (holding [Value.builtin "object.__class__"] (call (.builtin "getset_descriptor.__get__") [.builtin "object.__class__", .ref x, .ref D]) >>= ret) _ _ _
  refine wpAny_bind (wpAny_holding (wpAny_call (class_get (s := ⟨hp, g, d, t + 1, os⟩) (ox := ox) (od := some od) X I hm ?_)))
  refine wpAny_pure ?_
  show wpAny _ _ (handedOut (.ref D)) _ _ _
  rw [handedOut_of (v := .ref D) rfl]
  first
    | exact wpAny_pure (wpAny_pure h)
    | exact wpAny_pure h
    | exact wpAny_pure (wpAny_bind (wpAny_pure (wpAny_pure h)))
theorem mv_kit_exc (hga : findIn K (.ref D) "__getattribute__" = some (some (.builtin "BaseException.__getattribute__"))) (hgt : findIn K (.ref D) "__getattr__" = some none) (hsub : subIn K (.ref D) (.type "BaseException") = some true) (hdct : hasDictIn K D = true) (ha : findIn K (.ref D) "__class__" = some (some (.builtin "object.__class__")))
    (hn : specialIn K (.builtin "object.__class__") "__get__" = some (some (.builtin "getset_descriptor.__get__"))) (htk : takesIn K (.builtin "object.__class__") = some true) (hm : mroIn K D (.type "object") = some true) :
    KitX K (.ref x) (.ref D) (fun h => InstAt h x ox D (some od)) where
  ty := fun _ _ _ I => I.type
  it := fun _ _ X _ => by
    obtain ⟨cdD, hcD, _⟩ := any_some hdct
    unfold clsIn at hcD
    split at hcD
    · rename_i c' d' cd' sl' ho
      intro A' Q' E' s' k q
      unfold isType loadHead
      exact wpAny_bind (wpAny_loadPart (k _ _ (X _ _ ho)) (wpAny_pure q))
    · cases hcD
  ne := fun h tp dd its n sl X htp => by
    obtain ⟨cdD, hcD, _⟩ := any_some hdct
    refine Bool.eq_false_iff.mpr fun q => ?_
    have e : D = tp := Value.ref.inj (beq_iff_eq.mp q)
    subst e
    unfold clsIn at hcD
    split at hcD
    · rename_i c' d' cd' sl' ho
      have z := (X _ _ ho).symm.trans htp
      cases z
    · cases hcD
  ca := fun X I k => mv_kin_class hga hgt hsub hdct ha hn htk hm X I k
end
end PySem.W
namespace MV
open PySem PySem.Spec PyProof.Rows L2
section
variable {X : Cx} {J : Jx} {W : WX} {e a b c tg iter elt : Expr} {es : List Expr} {q qa : Bool} {fa : Sem1} {pos p : Pos} {τ : List (Sv × V)} {σ : St} {H : Hp} {ρ : En}
theorem pe_tyN {x : Str} {T : String} (hg : Gl X x) (hm : X.mg x = none) (hv : bootBuiltins x = some (.type T)) (hn : x ≠ "__name__" := by decide) (hdb : (x == ("__debug__" : Str)) = false := by decide) : PE X (.Name x p) (tC (.ty T)) :=
  ⟨fun pins s σ H Q I h => ld_blt I hg hm hv ⟨.ty T, H, I, rfl, h⟩ hn hdb⟩
theorem pe_ownN {x : Str} {C : Addr} (hg : Gl X x) (hm : X.mg x = some (.ref C)) (hdb : (x == ("__debug__" : Str)) = false := by decide) : PE X (.Name x p) (tC (.ref C)) := pe_glob hg hm rfl hdb
def IsOk (K : PySem.W.Frag) (u : Value) (g : Vl → Option Bool) : Prop := ∀ (H : Hp) (d : Vl) (v : V) (b : Bool), Rep K H d v → g d = some b → ∃ t, TyX K H v t ∧ PySem.W.kitOne K t u = some b
def kIsi (g : Vl → Option Bool) : K1 := fun s ρ => match g s.d with
  | some b => .ok ⟨.shr, .bl b⟩ ρ
  | none => .bad
theorem xe_isi {cv : V} {u : Value} {g : Vl → Option Bool} (hk : J.K = X.K) (hi : IsOk X.K u g) (hcv : ClsV cv u) (hg : Gl X "isinstance") (hm : X.mg "isinstance" = none) (hv : bootBuiltins "isinstance" = some (.builtin "isinstance")) (ha : XE X J W a qa fa) (hc : PE X c (tC cv))
    (he : starEach [a, c] X.env = (false, eval a X.env) :: starEach [c] X.env := by rfl) (he2 : starEach [c] X.env = (false, eval c X.env) :: starEach [] X.env := by rfl) (hpl : (backTo pos (starEach [c] X.env)).any (·.1) = false := by rfl) :
    XE X J W (.Call (.Name "isinstance" p) [a, c] [] pos) qa (fOne fa (kIsi g)) := by
  refine ⟨(pe_callB call_isi hg hm hv (pa_cons ha.pe (pa_cons hc pa_nil he2) he) (by decide) (by decide) he hpl).imp fun σ H Q h => tE_one (fun _ _ _ _ _ I _ _ _ o h => o _ _ _ _ _ _ _ I h) (r := fun v H Q => rIsi X.K [v, cv] H Q) ?_ h⟩
  rintro ρ τ σ H s v Q ⟨F, B, O, I⟩ m
  unfold kIsi at m
  cases e : g s.d with
  | none => rw [e] at m; exact m.elim
  | some b =>
    rw [e] at m
    obtain ⟨t, h1, h2⟩ := hi H s.d v b (hk ▸ I.top.rep I.base) e
    exact ⟨v, cv, t, u, b, rfl, hcv, h1, h2, m _ _ (I.drop1.pushSc (d := .bl b) rfl rfl)⟩
def isInt : Vl → Option Bool
  | .int _ => some true
  | .bl _ => some true
  | .ins _ _ => none
  | .scr _ => none
  | _ => some false
def isBl : Vl → Option Bool
  | .bl _ => some true
  | .ins _ _ => none
  | .scr _ => none
  | _ => some false
def isLst : Vl → Option Bool
  | .lst _ => some true
  | .ins _ _ => none
  | .scr _ => none
  | _ => some false
theorem isOk_int {K : PySem.W.Frag} : IsOk K (.type "int") isInt := fun H d v b r e => by
  cases d with
  | non => cases e; cases (show v = .non from r); exact ⟨_, .base .non, kit_ty (by decide +kernel)⟩
  | bl x => cases e; cases (show v = .bl x from r); exact ⟨_, .base (.bl x), kit_ty (by decide +kernel)⟩
  | int x => cases e; cases (show v = .int x from r); exact ⟨_, .base (.int x), kit_ty (by decide +kernel)⟩
  | str x => cases e; cases (show v = .str x from r); exact ⟨_, .base (.str x), kit_ty (by decide +kernel)⟩
  | lst xs => cases e; obtain ⟨a, vs, rfl, g, _⟩ := r; exact ⟨_, .base (.lst g), kit_ty (by decide +kernel)⟩
  | tup xs => cases e; obtain ⟨a, vs, rfl, g, _⟩ := r; exact ⟨_, .base (.tup g), kit_ty (by decide +kernel)⟩
  | ins c fs => cases e
  | scr ns => cases e
theorem isOk_bl {K : PySem.W.Frag} : IsOk K (.type "bool") isBl := fun H d v b r e => by
  cases d with
  | non => cases e; cases (show v = .non from r); exact ⟨_, .base .non, kit_ty (by decide +kernel)⟩
  | bl x => cases e; cases (show v = .bl x from r); exact ⟨_, .base (.bl x), kit_ty (by decide +kernel)⟩
  | int x => cases e; cases (show v = .int x from r); exact ⟨_, .base (.int x), kit_ty (by decide +kernel)⟩
  | str x => cases e; cases (show v = .str x from r); exact ⟨_, .base (.str x), kit_ty (by decide +kernel)⟩
  | lst xs => cases e; obtain ⟨a, vs, rfl, g, _⟩ := r; exact ⟨_, .base (.lst g), kit_ty (by decide +kernel)⟩
  | tup xs => cases e; obtain ⟨a, vs, rfl, g, _⟩ := r; exact ⟨_, .base (.tup g), kit_ty (by decide +kernel)⟩
  | ins c fs => cases e
  | scr ns => cases e
theorem isOk_lst {K : PySem.W.Frag} : IsOk K (.type "list") isLst := fun H d v b r e => by
  cases d with
  | non => cases e; cases (show v = .non from r); exact ⟨_, .base .non, kit_ty (by decide +kernel)⟩
  | bl x => cases e; cases (show v = .bl x from r); exact ⟨_, .base (.bl x), kit_ty (by decide +kernel)⟩
  | int x => cases e; cases (show v = .int x from r); exact ⟨_, .base (.int x), kit_ty (by decide +kernel)⟩
  | str x => cases e; cases (show v = .str x from r); exact ⟨_, .base (.str x), kit_ty (by decide +kernel)⟩
  | lst xs => cases e; obtain ⟨a, vs, rfl, g, _⟩ := r; exact ⟨_, .base (.lst g), kit_ty (by decide +kernel)⟩
  | tup xs => cases e; obtain ⟨a, vs, rfl, g, _⟩ := r; exact ⟨_, .base (.tup g), kit_ty (by decide +kernel)⟩
  | ins c fs => cases e
  | scr ns => cases e
end
section
variable {X : Cx} {J : Jx} {W : WX} {i : Nat} {a D : Addr} {oe : Obj} {d : Option Addr} {pn : List (Addr × Obj)} {k n : Str} {fs : List (Str × Vl)} {p p2 pos : Pos} {c : Expr} {es : List Expr}
def fIsX (b : Bool) : Sem1 := fun ρ => .ok ⟨.shr, .bl b⟩ ρ
theorem exc_at (hz : L2N.Zn (.ref D) d oe) (hf : ∃ vs, oe.data = .fields vs) {pins : List (Addr × Obj)} {σ : St} {H : Hp} {s : Shared} (I : Inv (X.suite a ((a, oe) :: pn)) pins σ H s) (hd : d = none ∨ ∃ dd ws, d = some dd ∧ H dd = some (.xd ws)) : ∃ od, PySem.W.InstAt s.heap a oe D od := by
  obtain ⟨hget, _⟩ := I.pin (a, oe) (List.mem_append.mpr (.inl List.mem_cons_self))
  obtain ⟨vs, hv⟩ := hf
  rcases hd with hd | ⟨dd, ws, hd, g⟩
  · subst hd
    exact ⟨none, hget, hz.1, by unfold PySem.W.notCls; rw [hv] <;> rfl, by rw [hz.2.1]; exact trivial⟩
  · subst hd
    obtain ⟨mA, hns, hr⟩ := (show ObjOk X.prog X.w H s.heap dd (.xd ws) from I.hok dd _ g)
    obtain ⟨od, ho, hl⟩ := lookIn_ns hns
    exact ⟨some od, hget, hz.1, by unfold PySem.W.notCls; rw [hv] <;> rfl, by rw [hz.2.1]; exact ho⟩
theorem exc_kit {K : PySem.W.Frag} {od : Option Obj} (C : ExcC K D) : PySem.W.KitX K (.ref a) (.ref D) (fun h => PySem.W.InstAt h a oe D od) := by
  cases od with
  | none => exact PySem.W.handS_kitx_exc C.hg C.hk C.hs C.hd C.ha C.hn C.ht C.hm
  | some od => exact PySem.W.mv_kit_exc C.hg C.hk C.hs C.hd C.ha C.hn C.ht C.hm
def rXI (K : PySem.W.Frag) (D a : Addr) (d : Option Addr) : List V → Hp → VK → Prop := fun xs H Q => ∃ (c : V) (cv : Value) (b : Bool), xs = [.ref a, c] ∧ (d = none ∨ ∃ dd ws, d = some dd ∧ H dd = some (.xd ws)) ∧ ClsV c cv ∧ PySem.W.kitOne K (.ref D) cv = some b ∧ Q (.bl b) H
theorem call_xi (C : ExcC X.K D) (hz : L2N.Zn (.ref D) d oe) (hf : ∃ vs, oe.data = .fields vs) : CallR (X.suite a ((a, oe) :: pn)) (.builtin "isinstance") (rXI X.K D a d) := by
  intro pins s σ H xs us Q I r h
  obtain ⟨c, cv, b, rfl, hd, hcv, e, q⟩ := h
  obtain ⟨u1, u2, rfl, r1, r2⟩ := vals2 r
  cases (show u1 = Value.ref a from r1)
  have ec := hcv.eq r2
  subst ec
  obtain ⟨od, J⟩ := exc_at hz hf I hd
  exact PySem.W.kia_one (exc_kit C) I.kIn J e (fun z => nomatch z) fun tk => ⟨.bl b, H, I.kept (t' := tk) fun _ _ z => z, rfl, q⟩
def rXT (K : PySem.W.Frag) (D a : Addr) (d : Option Addr) : List V → Hp → VK → Prop := fun xs H Q => ∃ (tp : Addr) (cs : List V) (us : List Value) (b : Bool), xs = [.ref a, .ref tp] ∧ (d = none ∨ ∃ dd ws, d = some dd ∧ H dd = some (.xd ws)) ∧ H tp = some (.tup cs) ∧ Paired ClsV cs us ∧ PySem.W.kitAny K (.ref D) us = some b ∧ Q (.bl b) H
theorem call_xt (C : ExcC X.K D) (hz : L2N.Zn (.ref D) d oe) (hf : ∃ vs, oe.data = .fields vs) : CallR (X.suite a ((a, oe) :: pn)) (.builtin "isinstance") (rXT X.K D a d) := by
  intro pins s σ H xs us Q I r h
  obtain ⟨tp, cs, ws, b, rfl, hd, hT, k, e, q⟩ := h
  obtain ⟨u1, u2, rfl, r1, r2⟩ := vals2 r
  cases (show u1 = Value.ref a from r1)
  cases (show u2 = Value.ref tp from r2)
  obtain ⟨od, J⟩ := exc_at hz hf I hd
  obtain ⟨_, its, rv, o, h1, h2, n, h3⟩ := (show ObjOk X.prog X.w H s.heap tp (.tup cs) from I.hok tp _ hT)
  have e3 := ClsV.all k rv
  subst e3
  obtain ⟨oc, od', dt, sl⟩ := o
  simp only at h2 h3
  subst h2 h3
  exact PySem.W.kia_tup (exc_kit C) I.kIn J h1 e (fun z => nomatch z) fun tk => ⟨.bl b, H, I.kept (t' := tk) fun _ _ z => z, rfl, q⟩
theorem err_dict {F : Hp} {K : PySem.W.Frag} {cls : Value} (er : ErrR K F k fs cls d) : d = none ∨ ∃ dd ws, d = some dd ∧ F dd = some (.xd ws) := by
  obtain ⟨_, ⟨_, e⟩ | ⟨dd, ws, e1, e2, _⟩⟩ := er
  · exact .inl e
  · exact .inr ⟨dd, ws, e1, e2⟩
theorem xe_isx {cv : V} {u : Value} {b : Bool} (hx : J.fx = some (i, .ref a)) (hK : J.K = X.K) (er : ErrR J.K J.F0 k fs (.ref (He.ga X.K k)) d) (hz : L2N.Zn (.ref (He.ga X.K k)) d oe) (hf : ∃ vs, oe.data = .fields vs) (C : ExcC X.K (He.ga X.K k)) (hcv : ClsV cv u) (hb : PySem.W.kitOne X.K (.ref (He.ga X.K k)) u = some b)
    (hg : Gl X "isinstance") (hm : X.mg "isinstance" = none) (hv : bootBuiltins "isinstance" = some (.builtin "isinstance")) (hN : X.N[i]? = some n) (hvis : Vis X.env.scope n) (hc : PE (X.suite a ((a, oe) :: pn)) c (tC cv))
    (hd : (n == ("__debug__" : Str)) = false := by decide) (hcd : (n == ("__classdict__" : Str)) = false := by decide)
    (he : starEach [.Name n p2, c] X.env = (false, eval (.Name n p2) X.env) :: starEach [c] X.env := by rfl) (he2 : starEach [c] X.env = (false, eval c X.env) :: starEach [] X.env := by rfl) (hpl : (backTo pos (starEach [c] X.env)).any (·.1) = false := by rfl) :
    XE (X.suite a ((a, oe) :: pn)) J W (.Call (.Name "isinstance" p) [.Name n p2, c] [] pos) true (fIsX b) := by
  refine ⟨(pe_callB (X := X.suite a ((a, oe) :: pn)) (call_xi C hz hf) hg hm hv (pa_cons (pe_var (X := X.suite a ((a, oe) :: pn)) hN hvis hd hcd) (pa_cons hc pa_nil he2) he) (by decide) (by decide) he hpl).imp ?_⟩
  rintro σ H Q ⟨ρ, τ, ⟨F, B, O, I⟩, _, m⟩
  refine ⟨_, fx_at hx I, cv, u, b, rfl, ?_, hcv, hb, m _ H (I.push (s := ⟨.shr, .bl b⟩) rfl)⟩
  rcases err_dict er with h | ⟨dd, ws, h1, h2⟩
  · exact .inl h
  · exact .inr ⟨dd, ws, h1, I.base.bh _ _ (I.base.fb _ _ (I.base.f0 _ _ h2))⟩
inductive PCs (X : Cx) : List Expr → List V → List Value → Prop
  | nil : PCs X [] [] []
  | cons {e : Expr} {es : List Expr} {v : V} {vs : List V} {u : Value} {us : List Value} (h : PE X e (tC v)) (k : ClsV v u) (r : PCs X es vs us) (hs : starEach (e :: es) X.env = (false, eval e X.env) :: starEach es X.env := by rfl) : PCs X (e :: es) (v :: vs) (u :: us)
theorem pcs_pa {X : Cx} {es : List Expr} {vs : List V} {us : List Value} (h : PCs X es vs us) : PA X es (fun σ H Q => Q vs H) ∧ Paired ClsV vs us := by
  induction h with
  | nil => exact ⟨pa_nil, .nil⟩
  | cons h k r hs ih => exact ⟨(pa_cons h ih.1 hs).imp fun σ H Q q => q, .cons k ih.2⟩
theorem xe_isxT {vs : List V} {us : List Value} {b : Bool} {k1} {p3 : Pos} (hx : J.fx = some (i, .ref a)) (hK : J.K = X.K) (er : ErrR J.K J.F0 k fs (.ref (He.ga X.K k)) d) (hz : L2N.Zn (.ref (He.ga X.K k)) d oe) (hf : ∃ vs, oe.data = .fields vs) (C : ExcC X.K (He.ga X.K k)) (hl : vs.length ≤ 1000) (hb : PySem.W.kitAny X.K (.ref (He.ga X.K k)) us = some b)
    (hg : Gl X "isinstance") (hm : X.mg "isinstance" = none) (hv : bootBuiltins "isinstance" = some (.builtin "isinstance")) (hN : X.N[i]? = some n) (hvis : Vis X.env.scope n) (hc : PCs (X.suite a ((a, oe) :: pn)) es vs us)
    (hd : (n == ("__debug__" : Str)) = false := by decide) (hcd : (n == ("__classdict__" : Str)) = false := by decide)
    (he : starEach [.Name n p2, .Tuple es k1 p3] X.env = (false, eval (.Name n p2) X.env) :: starEach [.Tuple es k1 p3] X.env := by rfl) (he2 : starEach [.Tuple es k1 p3] X.env = (false, eval (.Tuple es k1 p3) X.env) :: starEach [] X.env := by rfl) (hpl : (backTo pos (starEach [.Tuple es k1 p3] X.env)).any (·.1) = false := by rfl) :
    XE (X.suite a ((a, oe) :: pn)) J W (.Call (.Name "isinstance" p) [.Name n p2, .Tuple es k1 p3] [] pos) true (fIsX b) := by
  obtain ⟨h1, h2⟩ := pcs_pa hc
  refine ⟨(pe_callB (X := X.suite a ((a, oe) :: pn)) (call_xt C hz hf) hg hm hv (pa_cons (pe_var (X := X.suite a ((a, oe) :: pn)) hN hvis hd hcd) (pa_cons (pe_tup h1) pa_nil he2) he) (by decide) (by decide) he hpl).imp ?_⟩
  rintro σ H Q ⟨ρ, τ, ⟨F, B, O, I⟩, _, m⟩
  refine ⟨_, fx_at hx I, thousand hl, fun tp np => ?_⟩
  have I2 := I.addF (o := .tup vs) np
  refine ⟨tp, vs, us, b, rfl, ?_, upd_same, h2, hb, m _ _ (I2.push (s := ⟨.shr, .bl b⟩) rfl)⟩
  rcases err_dict er with h | ⟨dd, ws, h1, h2⟩
  · exact .inl h
  · have g := I.base.bh _ _ (I.base.fb _ _ (I.base.f0 _ _ h2))
    exact .inr ⟨dd, ws, h1, by rw [upd_ne (ne_of_none g np)]; exact g⟩
end
end MV
namespace MV
open PySem PySem.Spec PyProof.Rows L2 He
def oexB (K : PySem.W.Frag) (C : Addr) : Bool := match K.lookup C with
  | some ⟨.type "type", _, .cls cd, sl⟩ => (match cd.mro, sl.toList with
    | .ref C' :: bm, [_, _, _, _, some (.builtin n), _] => C' == C && (n == "ValueError.__new__" && (!cd.hasDel && (cd.hasDict && PySem.HandSPX.refsVE bm)))
    | _, _ => false)
  | _ => false
theorem oexB_ok {K : PySem.W.Frag} {C : Addr} (h : oexB K C = true) : ∃ nm q N bs bm sn sub ab col dd k0 k1 k2 k3 k5, K.lookup C = some (excClassObj nm q C N bs bm true sn sub ab col dd k0 k1 k2 k3 k5 "ValueError.__new__") ∧ PySem.HandSPX.refsVE bm = true := by
  unfold oexB at h
  split at h
  · rename_i dd cd sl ho
    split at h
    · rename_i C' bm k0 k1 k2 k3 n k5 hm hs
      simp only [Bool.and_eq_true, beq_iff_eq, Bool.not_eq_true'] at h
      obtain ⟨rfl, rfl, hdel, hd, hr⟩ := h
      obtain ⟨nm, bs, mro, ns, qn, hdct, sn, sub, ab, col, del⟩ := cd
      dsimp only at hm hdel hd
      subst hm hdel hd
      have hsl : sl = #[k0, k1, k2, k3, some (.builtin "ValueError.__new__"), k5] := by
        obtain ⟨l⟩ := sl
        simp only at hs
        rw [hs]
      subst hsl
      exact ⟨nm, qn, ns, bs, bm, sn, sub, ab, col, dd, k0, k1, k2, k3, k5, ho, hr⟩
    · cases h
  · cases h
def recAt (T : String) (K : PySem.W.Frag) (c f : Str) : Addr := match PySem.W.recIn K (ma K (ga K c) f) T with
  | some (.ref g :: _) => g
  | _ => 0
inductive Fm where
  | std (f : Fa)
  | xc (c : Str) (fs : List Str)
  | xr (c : Str)
  | kit (c u : Str) (b : Bool)
  | kiT (c : Str) (T : String) (b : Bool)
  | xT (c : Str) (T : String) (b : Bool)
  | prop (c f : Str)
  | cval (c f : Str) (i : Int)
  | same (x y : Str)
  | stat (c m : Str)
  | own (c m : Str)
  | insO (c : Str)
  | kiA (c : Str)
  | ownI (c m r : Str)
def Fm.ok (K : PySem.W.Frag) : Fm → Bool
  | .same x y => decide (ga K x = ga K y)
  | .insO c => eqO (PySem.W.findIn K (.ref (ga K c)) "__class__") (some (some (.builtin "object.__class__"))) && (eqO (PySem.W.specialIn K (.builtin "object.__class__") "__get__") (some (some (.builtin "getset_descriptor.__get__"))) && (decide (PySem.W.takesIn K (.builtin "object.__class__") = some true) && decide (PySem.W.mroIn K (ga K c) (.type "object") = some true)))
  | .ownI c m r => eqO (PySem.W.findIn K (.ref (ga K c)) m) (some (some (.ref (ma K (ga K c) m)))) && (PySem.W.isFn K (.ref (ma K (ga K c) m)) && (PySem.W.selfFirst K (ga K c) && (eqO (PySem.W.findIn K (.ref (ga K c)) r) (some none) && ((PySem.W.findIn K (.type "int") m).isSome && ((PySem.W.findIn K (.type "int") r).isSome && decide (PySem.W.subIn K (.type "int") (.ref (ga K c)) = some false))))))
  | .kiA c => decide (PySem.W.kitOne K (.type "NoneType") (.ref (ga K c)) = some false) && (decide (PySem.W.kitOne K (.type "bool") (.ref (ga K c)) = some false) && (decide (PySem.W.kitOne K (.type "int") (.ref (ga K c)) = some false) && (decide (PySem.W.kitOne K (.type "str") (.ref (ga K c)) = some false) && (decide (PySem.W.kitOne K (.type "list") (.ref (ga K c)) = some false) && decide (PySem.W.kitOne K (.type "tuple") (.ref (ga K c)) = some false)))))
  | .own c m => eqO (PySem.W.findIn K (.ref (ga K c)) m) (some (some (.ref (ma K (ga K c) m)))) && (PySem.W.isFn K (.ref (ma K (ga K c) m)) && PySem.W.selfFirst K (ga K c))
  | .stat c m => PySem.W.readsIn K (ga K c) (.type "type") && (eqO (PySem.W.specialIn K (.ref (ga K c)) "__getattribute__") (some (some (.builtin "type.__getattribute__"))) && (decide ((PySem.W.recIn K (ma K (ga K c) m) "staticmethod").bind (·.head?) = some (.ref (recAt "staticmethod" K c m))) && (match PySem.W.findCls K (.ref (ga K c)) (.type "type") m with
    | some (.get (.builtin b) (.ref p) .none (.ref C)) => decide (b = "staticmethod.__get__") && (decide (p = ma K (ga K c) m) && decide (C = ga K c))
    | _ => false)))
  | .cval c f i => PySem.W.readsIn K (ga K c) (.type "type") && (eqO (PySem.W.specialIn K (.ref (ga K c)) "__getattribute__") (some (some (.builtin "type.__getattribute__"))) && (match PySem.W.findCls K (.ref (ga K c)) (.type "type") f with
    | some (.val (.int j _)) => decide (j = i)
    | _ => false))
  | .std f => f.ok K
  | .xc c fs => oexB K (ga K c) && (eqO (PySem.W.findIn K (.ref (ga K c)) "__setattr__") (some (some (.builtin "object.__setattr__"))) && (decide (PySem.W.subIn K (.ref (ga K c)) (.type "BaseException") = some true) && (decide (PySem.W.typeIn K (.ref (ga K c)) = some (.type "type")) && (PySem.W.keepIn K (.ref (ga K c)) &&
      (fs.all (fun f => eqO (PySem.W.findIn K (.ref (ga K c)) f) (some none)) && (eqO (PySem.W.findIn K (.ref (ga K c)) "__init__") (some (some (.ref (ma K (ga K c) "__init__")))) && decide (PySem.W.typeIn K (.ref (ma K (ga K c) "__init__")) = some (.type "function"))))))))
  | .xr c => xfB K (ga K c) && (eqO (PySem.W.findIn K (.ref (ga K c)) "__class__") (some (some (.builtin "object.__class__"))) && (eqO (PySem.W.specialIn K (.builtin "object.__class__") "__get__") (some (some (.builtin "getset_descriptor.__get__"))) && (decide (PySem.W.takesIn K (.builtin "object.__class__") = some true) && decide (PySem.W.mroIn K (ga K c) (.type "object") = some true))))
  | .kit c u b => decide (PySem.W.kitOne K (.ref (ga K c)) (.ref (ga K u)) = some b)
  | .kiT c T b => decide (PySem.W.kitOne K (.ref (ga K c)) (.type T) = some b)
  | .xT c T b => decide (PySem.W.exmOne K (.ref (ga K c)) (.type T) = some b)
  | .prop c f => decide ((PySem.W.recIn K (ma K (ga K c) f) "property").bind (·.head?) = some (.ref (recAt "property" K c f))) && (eqO (PySem.W.findIn K (.ref (ga K c)) f) (some (some (.ref (ma K (ga K c) f)))) && (eqO (PySem.W.specialIn K (.ref (ma K (ga K c) f)) "__get__") (some (some (.builtin "property.__get__"))) && decide (PySem.W.takesIn K (.ref (ma K (ga K c) f)) = some true)))
section
variable {K : PySem.W.Frag}
theorem xc_ok {c : Str} {fs : List Str} (h : (Fm.xc c fs).ok K = true) : OexC K (ga K c) ∧ (∀ f, f ∈ fs → PySem.W.findIn K (.ref (ga K c)) f = some none) ∧ PySem.W.findIn K (.ref (ga K c)) "__init__" = some (some (.ref (ma K (ga K c) "__init__"))) ∧ PySem.W.typeIn K (.ref (ma K (ga K c) "__init__")) = some (.type "function") := by
  obtain ⟨h1, h⟩ := ba h
  obtain ⟨h2, h⟩ := ba h
  obtain ⟨h3, h⟩ := ba h
  obtain ⟨h4, h⟩ := ba h
  obtain ⟨h5, h⟩ := ba h
  obtain ⟨h6, h⟩ := ba h
  obtain ⟨h7, h8⟩ := ba h
  exact ⟨⟨oexB_ok h1, eqO_ok h2, of_decide_eq_true h3, of_decide_eq_true h4, h5⟩, fun f hf => eqO_ok (List.all_eq_true.mp h6 f hf), eqO_ok h7, of_decide_eq_true h8⟩
theorem xr_ok {c : Str} (h : (Fm.xr c).ok K = true) : XfC K (ga K c) ∧ ExcC K (ga K c) := by
  obtain ⟨h1, h⟩ := ba h
  obtain ⟨h2, h⟩ := ba h
  obtain ⟨h3, h⟩ := ba h
  obtain ⟨h4, h5⟩ := ba h
  have x := xfB_ok h1
  exact ⟨x, ⟨x.ga, x.gg, x.exC, x.hdC, eqO_ok h2, eqO_ok h3, of_decide_eq_true h4, of_decide_eq_true h5⟩⟩
theorem kit_ok {c u : Str} {b : Bool} (h : (Fm.kit c u b).ok K = true) : PySem.W.kitOne K (.ref (ga K c)) (.ref (ga K u)) = some b := of_decide_eq_true h
theorem prop_ok {c f : Str} (h : (Fm.prop c f).ok K = true) : PropOf K (ga K c) f (ma K (ga K c) f) (recAt "property" K c f) := by
  obtain ⟨h1, h⟩ := ba h
  obtain ⟨h2, h⟩ := ba h
  obtain ⟨h3, h4⟩ := ba h
  refine ⟨eqO_ok h2, eqO_ok h3, of_decide_eq_true h4, ?_⟩
  have h1 := of_decide_eq_true h1
  cases q : PySem.W.recIn K (ma K (ga K c) f) "property" with
  | none => rw [q] at h1; cases h1
  | some vs =>
    rw [q] at h1
    cases vs with
    | nil => cases h1
    | cons v vs =>
      have : v = .ref (recAt "property" K c f) := Option.some.inj h1
      exact ⟨vs, by rw [this]⟩
theorem own_ok {c m : Str} (h : (Fm.own c m).ok K = true) : PySem.W.findIn K (.ref (ga K c)) m = some (some (.ref (ma K (ga K c) m))) ∧ PySem.W.isFn K (.ref (ma K (ga K c) m)) = true ∧ PySem.W.selfFirst K (ga K c) = true := by
  obtain ⟨h1, h⟩ := ba h
  obtain ⟨h2, h3⟩ := ba h
  exact ⟨eqO_ok h1, h2, h3⟩
theorem kiT_ok {c : Str} {T : String} {b : Bool} (h : (Fm.kiT c T b).ok K = true) : PySem.W.kitOne K (.ref (ga K c)) (.type T) = some b := of_decide_eq_true h
end
structure DfM where
  ad : PySem.W.Frag → Addr
  name : Str
  qual : Str
  params : Arguments
  body : List Stmt
  scope : Scope
  dfl : List Dv := []
def fnWM (K : PySem.W.Frag) (a : Addr) : FnW := match K.lookup a with
  | some ⟨_, _, .func fd, _⟩ => some (fd.name, fd.qualname, fd.params, fd.body, fd.scope, fd.globals, fd.closure, fd.builtins)
  | _ => none
def DfM.val (d : DfM) : FnW := some (d.name, d.qual, d.params, .stmts d.body, d.scope, mainGlobals, [], builtinsNs)
def DfM.dvs (K : PySem.W.Frag) (d : DfM) : List V := d.dfl.map (Dv.v K)
def DfM.ok (K : PySem.W.Frag) (d : DfM) : Bool := PySem.W.keepIn K (.ref (d.ad K)) && (match K.lookup (d.ad K) with
  | some ⟨_, _, .func fd, _⟩ => PySem.W.codeIn K fd.code d.qual && dflB K fd.defaults (d.dvs K)
  | _ => false)
theorem DfM.funD {K : PySem.W.Frag} {d : DfM} (e : fnWM K (d.ad K) = d.val) (c : d.ok K = true) : ∃ fd, FunD K d.name d.qual d.params d.body d.scope (d.dvs K) [] (d.ad K) fd := by
  obtain ⟨kp, c2⟩ := ba c
  unfold fnWM at e
  cases q : K.lookup (d.ad K) with
  | none => rw [q] at c2; cases c2
  | some o =>
    obtain ⟨oc, od, dt, osl⟩ := o
    rw [q] at c2 e
    cases dt with
    | func fd =>
      obtain ⟨n1, n2, n3, n4, n5, n6, n7, n8, n9, n10, n11, n12, n13, n14, n15⟩ := fd
      have e2 : (some (n1, n2, n3, n4, n5, n6, n7, n15) : FnW) = some (d.name, d.qual, d.params, .stmts d.body, d.scope, mainGlobals, [], builtinsNs) := e
      simp only [Option.some.injEq, Prod.mk.injEq] at e2
      obtain ⟨h1, h2, h3, h4, h5, h6, h7, h8⟩ := e2
      subst h1 h2 h3 h4 h5 h6 h7 h8
      obtain ⟨k1, k2⟩ := ba (show (PySem.W.codeIn K n13 d.qual && dflB K n8 (d.dvs K)) = true from c2)
      exact ⟨_, ⟨oc, od, n8, n9, n10, n11, n12, n13, n14, osl, rfl, q, k1, dflB_ok k2, .inl rfl⟩, kp⟩
    | _ => cases c2
abbrev AlM : Type := Bool × List FnW
def obsM (fa : List Fm) (fn : List DfM) (K : PySem.W.Frag) : AlM := ((fa.all fun f => f.ok K) && fn.all fun d => d.ok K, fn.map fun d => fnWM K (d.ad K))
def valM (fn : List DfM) : AlM := (true, fn.map DfM.val)
def SaysM (fa : List Fm) (fn : List DfM) (K : PySem.W.Frag) : Prop := obsM fa fn K = valM fn
def obsMG (as : List Addr) (fa : List Fm) (fn : List DfM) (g : Addr → Option Obj) : AlM := obsM fa fn (frG g as)
def hookM (as : List Addr) (fa : List Fm) (fn : List DfM) : PySem.W.Hook where
  α := AlM
  obs := fun s => obsMG as fa fn s.heap.get?
  val := fun _ => valM fn
  says := fun _ h => ∃ K : PySem.W.Frag, K.In h ∧ SaysM fa fn K
  of := fun _ _ e => ⟨_, frG_in, e⟩
  keeps := fun _ _ _ ⟨K, hK, c⟩ k => ⟨K, PySem.W.Frag.In.keeps hK k, c⟩
theorem obsMG_eq {as : List Addr} {fa : List Fm} {fn : List DfM} {g : Addr → Option Obj} {s : Shared} (h : ∀ a, g a = s.heap.get? a) : obsMG as fa fn g = (hookM as fa fn).obs s := by
  have e : g = s.heap.get? := funext h
  rw [e] <;> rfl
theorem map3 {α β γ δ : Type} {e : Option α} {f : α → β} {g : α → γ} {h : α → δ} {a : β} {b : γ} {c : δ} (h1 : e.map f = some a) (h2 : e.map g = some b) (h3 : e.map h = some c) : e.map (fun s => (f s, g s, h s)) = some (a, b, c) := by
  cases e with
  | none => cases h1
  | some s =>
    show some (f s, g s, h s) = _
    rw [Option.some.inj h1, Option.some.inj h2, Option.some.inj h3]
section
variable {fa : List Fm} {fn : List DfM} {K : PySem.W.Frag}
theorem SaysM.fact (c : SaysM fa fn K) (i : Nat) {f : Fm} (h : fa[i]? = some f := by rfl) : f.ok K = true := by
  have c1 := (ba (show ((fa.all fun f => f.ok K) && fn.all fun d => d.ok K) = true from congrArg (fun z : AlM => z.1) c)).1
  exact List.all_eq_true.mp c1 f (List.mem_of_getElem? h)
theorem SaysM.def_ (c : SaysM fa fn K) (i : Nat) {d : DfM} (h : fn[i]? = some d := by rfl) : ∃ fd, FunD K d.name d.qual d.params d.body d.scope (d.dvs K) [] (d.ad K) fd := by
  have c2 := (ba (show ((fa.all fun f => f.ok K) && fn.all fun d => d.ok K) = true from congrArg (fun z : AlM => z.1) c)).2
  have e : fn.map (fun d => fnWM K (d.ad K)) = fn.map DfM.val := congrArg (fun z : AlM => z.2) c
  have e2 : (fn.map fun d => fnWM K (d.ad K))[i]? = (fn.map DfM.val)[i]? := by rw [e]
  rw [List.getElem?_map, List.getElem?_map, h] at e2
  exact DfM.funD (Option.some.inj e2) (List.all_eq_true.mp c2 d (List.mem_of_getElem? h))
end
structure FnC (P : Program) (w : World) (K : PySem.W.Frag) (mg : Str → Option Value) (base : Heap) (k : Nat) (f : Addr) (sp : Sp) : Prop where
  ex : ∃ fd ps, FnOk P w K mg base (L2N.CX P w) k f fd ps sp ∧ Binds K fd ps []
  kp : PySem.W.keepIn K (.ref f) = true
theorem FnC.at {X : Cx} {W : WX} {k j : Nat} {f : Addr} {sp : Sp} (F : FnC X.prog X.w X.K X.mg X.base j f sp) (hr : Room k X.A) (hj : j ≤ k) (tk : Takes X W) : CallAt X W f sp := by
  obtain ⟨⟨fd, ps, F, hb⟩, _⟩ := F
  exact callAt0 F (hr.mono hj) hb tk
theorem FnC.make {X : Cx} {W : WX} {k j : Nat} {C f : Addr} {sp : Sp} (F : FnC X.prog X.w X.K X.mg X.base j f sp) (M : Mk X.K C f) (hr : Room k X.A) (hj : j + 1 ≤ k) (tk : Takes X W) : MakeAt X W C sp := by
  obtain ⟨⟨fd, ps, F, hb⟩, _⟩ := F
  exact makeAt0 M F (hr.mono hj) hb tk
theorem law_spB {K : PySem.W.Frag} {rm : Bool} {fn : Fn} (h : ∀ ns : List Int, ns.length ≤ 63 → fn [.scr ns] = .ret (.bl true) []) (H : Hp) (a : Addr) (ns : List Int) (hl : ns.length ≤ 63) (hS : SqL K H a (ns.map V.int)) : spF K [.bor] rm fn [.ref a] H (fun v _ => v = .bl true) (fun _ _ _ => False) := by
  refine ⟨H, [], [.scr ns], fun b o e => mns_of e (by simp), List.nodup_nil, ⟨⟨a, rfl, hS.elim (fun h => .inl (h.elim (fun h => .inl (mns_of h (by simp))) fun ⟨o, h⟩ => .inr ⟨o, mns_of h (by simp)⟩)) .inr⟩, rfl⟩, ?_⟩
  rw [h ns hl]
  intro v H' F' A r
  exact r
end MV
namespace MV
open PySem PySem.Spec PyProof.Rows L2 He
structure Fz (fa : List Fm) (fn : List DfM) (K : PySem.W.Frag) (mg : Str → Option Value) : Prop where
  c : SaysM fa fn K
  g : ∀ x, (Fa.glo x).ok K = true → mg x = some (.ref (ga K x))
  f : ∀ x, (Fa.free x).ok K = true → mg x = none
  i : ∀ x i, (Fa.int x i).ok K = true → ∃ t, mg x = some (.int i t)
  s : ∀ x z, (Fa.str x z).ok K = true → ∃ t, mg x = some (.str z t)
theorem Fz.of {fa : List Fm} {fn : List DfM} {K : PySem.W.Frag} {mg : Str → Option Value} {h : Heap} (X : K.In h) (G : h.Ns mainGlobals mg) (c : SaysM fa fn K) : Fz fa fn K mg :=
  ⟨c, fun _ q => glo_ok X G q, fun _ q => free_ok X G q, fun _ _ q => int_ok X G q, fun _ _ q => str_ok X G q⟩
theorem tk_cx {P : Program} {w : World} {K : PySem.W.Frag} {mg : Str → Option Value} {base : Heap} {N : List Str} {qual : Str} {scope : Scope} {f : Addr} {cdv : Value} {A : Around} {outer : List Env} {s : Shared} {H : Hp} {E : XK} :
    Takes (cxOf (L2N.CX P w) P w K mg base N qual scope f cdv A outer s H E) (fun cls d _ H => E cls d H) := L2N.takes_of rfl rfl rfl rfl
theorem po_cx {P : Program} {w : World} {K : PySem.W.Frag} {mg : Str → Option Value} {base : Heap} {N : List Str} {qual : Str} {scope : Scope} {f : Addr} {cdv : Value} {A : Around} {outer : List Env} {s : Shared} {H : Hp} {E : XK} :
    PassesOwn (model P w) (cxOf (L2N.CX P w) P w K mg base N qual scope f cdv A outer s H E).A (cxOf (L2N.CX P w) P w K mg base N qual scope f cdv A outer s H E).env (cxOf (L2N.CX P w) P w K mg base N qual scope f cdv A outer s H E).xe := passes_of (X := cxOf (L2N.CX P w) P w K mg base N qual scope f cdv A outer s H E) rfl
theorem un64 {k : Nat} {A : Around} (r : Room k A) : A.units + 64 < cLine := by have := r.un; omega
section
variable {X : Cx} {J : Jx} {W : WX} {e a b c tg iter elt : Expr} {es : List Expr} {q qa qb qc qr : Bool} {fa fb fc : Sem1} {f g : SemS} {gc : SemB} {pos p apos : Pos} {k : Nat}
theorem w_v {i : Nat} {x : Str} (hN : X.N[i]? = some x := by rfl) (hv : Vis X.env.scope x := by first | exact .inl rfl | exact .inr (.inl rfl) | exact .inr (.inr rfl)) (hd : (x == ("__debug__" : Str)) = false := by decide) (hcd : (x == ("__classdict__" : Str)) = false := by decide) : XE X J W (.Name x pos) true (fVar i) := xe_var hN hv hd hcd
theorem w_mv {i : Nat} {x : Str} (hN : X.N[i]? = some x := by rfl) (hv : Vis X.env.scope x := by first | exact .inl rfl | exact .inr (.inl rfl) | exact .inr (.inr rfl)) (hd : (x == ("__debug__" : Str)) = false := by decide) (hcd : (x == ("__classdict__" : Str)) = false := by decide) : XE X J W (.Name x pos) false (fMv i) := xe_mv hN hv hd hcd
theorem w_gi {x : Str} {i : Int} (h : ∃ t, X.mg x = some (.int i t)) (hg : Gl X x := by rfl) (hd : (x == ("__debug__" : Str)) = false := by decide) : XE X J W (.Name x pos) true (fC (.int i)) := by
  obtain ⟨t, h⟩ := h
  exact xe_glob hg h (v := .int i) ⟨t, rfl⟩ (fun _ => rfl) hd
theorem t_lt (ha : XE X J W a qa fa) (hb : XE X J W b qb fb) (hm : behindInMarks .Lt b = false := by rfl) : XT X J W (.Compare a [.Lt] [b] pos) (qa && qb) (fTst (fTwo qb fa fb (kS (gB bLt)))) := xt_cmp op_lt ok_B ha hb hm
theorem t_gt (ha : XE X J W a qa fa) (hb : XE X J W b qb fb) (hm : behindInMarks .Gt b = false := by rfl) : XT X J W (.Compare a [.Gt] [b] pos) (qa && qb) (fTst (fTwo qb fa fb (kS (gB bGt)))) := xt_cmp op_gt ok_B ha hb hm
theorem w_eq (hK : J.K = X.K) (hu : X.A.units + 64 < cLine) (ha : XE X J W a qa fa) (hb : XE X J W b qb fb) (hm : behindInMarks .Eq b = false := by rfl) : XE X J W (.Compare a [.Eq] [b] pos) (qa && qb) (fTwo qb fa fb (kS gEq)) := xe_cmp (op_eqD hu) (ok_Eq hK) ha hb hm
theorem t_eq (hK : J.K = X.K) (hu : X.A.units + 64 < cLine) (ha : XE X J W a qa fa) (hb : XE X J W b qb fb) (hm : behindInMarks .Eq b = false := by rfl) : XT X J W (.Compare a [.Eq] [b] pos) (qa && qb) (fTst (fTwo qb fa fb (kS gEq))) := xt_cmp (op_eqD hu) (ok_Eq hK) ha hb hm
theorem t_ne (hK : J.K = X.K) (hu : X.A.units + 64 < cLine) (ha : XE X J W a qa fa) (hb : XE X J W b qb fb) (hm : behindInMarks .NotEq b = false := by rfl) : XT X J W (.Compare a [.NotEq] [b] pos) (qa && qb) (fTst (fTwo qb fa fb (kS gNe))) := xt_cmp (op_neD hu) (ok_Ne hK) ha hb hm
theorem w_isB (ha : XE X J W a qa fa) (hb : XE X J W b qb fb) (hm : behindInMarks .Is b = false := by rfl) : XE X J W (.Compare a [.Is] [b] pos) (qa && qb) (fTwo qb fa fb (kS gIsB)) := xe_cmp op_isBl ok_IsB ha hb hm
theorem w_len (hm : X.mg "len" = none) (ha : XE X J W a qa fa) (hg : Gl X "len" := by rfl) (he : starEach [a] X.env = (false, eval a X.env) :: starEach [] X.env := by rfl) (hpl : (backTo pos (starEach [] X.env)).any (·.1) = false := by rfl) : XE X J W (.Call (.Name "len" p) [a] [] pos) qa (fOne fa (kS1 gLen)) := xe_bi1 call_len ok_len hg hm boot_len ha (by decide) (by decide) he hpl
theorem w_abs (hm : X.mg "abs" = none) (ha : XE X J W a qa fa) (hg : Gl X "abs" := by rfl) (he : starEach [a] X.env = (false, eval a X.env) :: starEach [] X.env := by rfl) (hpl : (backTo pos (starEach [] X.env)).any (·.1) = false := by rfl) : XE X J W (.Call (.Name "abs" p) [a] [] pos) qa (fOne fa (kS1 gAbs)) := xe_bi1 call_abs ok_abs hg hm (by decide +kernel) ha (by decide) (by decide) he hpl
end
end MV
namespace MV
open PySem PySem.Spec PyProof.Rows L2 He
def gNeg : Vl → Option Vl
  | .int i => some (.int (-i))
  | _ => none
section
variable {X : Cx} {J : Jx} {W : WX} {e a b c tg iter elt o : Expr} {es : List Expr} {q qa qb qc qe qr qo : Bool} {fa fb fc : Sem1} {f g : SemS} {gc : SemB} {fs : SemA} {pos p px apos : Pos} {k j : Nat}
theorem w_neg (ha : XE X J W a qa fa) : XE X J W (.UnaryOp .USub a pos) qa (fOne fa (kS1 gNeg)) :=
  xe_un un_neg (ok_S1 fun H d1 d v Q r e q => by
    cases d1 <;> first | (cases e; exact ⟨_, r, q _ rfl⟩) | cases e) ha
theorem w_int (hm : X.mg "int" = none) (ha : XE X J W a qa fa) (hg : Gl X "int" := by rfl) (he : starEach [a] X.env = (false, eval a X.env) :: starEach [] X.env := by rfl) (hpl : (backTo pos (starEach [] X.env)).any (·.1) = false := by rfl) : XE X J W (.Call (.Name "int" p) [a] [] pos) qa (fOne fa (kS1 gInt)) := xe_ty1 call_int1 ok_int hg hm boot_int ha (by decide) (by decide) he hpl
theorem w_list (hm : X.mg "list" = none) (ha : XE X J W a qa fa) (hg : Gl X "list" := by rfl) (he : starEach [a] X.env = (false, eval a X.env) :: starEach [] X.env := by rfl) (hpl : (backTo pos (starEach [] X.env)).any (·.1) = false := by rfl) : XE X J W (.Call (.Name "list" p) [a] [] pos) qa (fOne fa kListOf) := xe_ty1 call_list_of ok_listOf hg hm boot_list ha (by decide) (by decide) he hpl
theorem w_tuple (hm : X.mg "tuple" = none) (ha : XE X J W a qa fa) (hg : Gl X "tuple" := by rfl) (he : starEach [a] X.env = (false, eval a X.env) :: starEach [] X.env := by rfl) (hpl : (backTo pos (starEach [] X.env)).any (·.1) = false := by rfl) : XE X J W (.Call (.Name "tuple" p) [a] [] pos) qa (fOne fa kTupOf) := xe_ty1 call_tuple_of ok_tupOf hg hm (by decide +kernel) ha (by decide) (by decide) he hpl
theorem w_sum (hm : X.mg "sum" = none) (ha : XE X J W a qa fa) (hc : X.calm = true := by rfl) (hg : Gl X "sum" := by rfl) (he : starEach [a] X.env = (false, eval a X.env) :: starEach [] X.env := by rfl) (hpl : (backTo pos (starEach [] X.env)).any (·.1) = false := by rfl) : XE X J W (.Call (.Name "sum" p) [a] [] pos) qa (fOne fa (kS1 gSum)) := xe_bi1 (cr_sumA hc) ok_sum hg hm (by decide +kernel) ha (by decide) (by decide) he hpl
theorem w_ty {x : Str} {T : String} (hm : X.mg x = none) (hg : Gl X x := by rfl) (hv : bootBuiltins x = some (.type T) := by decide +kernel) (hn : x ≠ "__name__" := by decide) (hdb : (x == ("__debug__" : Str)) = false := by decide) : PE X (.Name x p) (tC (.ty T)) := pe_tyN hg hm hv hn hdb
theorem w_isi {T : String} {gg : Vl → Option Bool} (hK : J.K = X.K) (hi : IsOk X.K (.type T) gg) (hm : X.mg "isinstance" = none) (hc : PE X c (tC (.ty T))) (ha : XE X J W a qa fa) (hg : Gl X "isinstance" := by rfl)
    (he : starEach [a, c] X.env = (false, eval a X.env) :: starEach [c] X.env := by rfl) (he2 : starEach [c] X.env = (false, eval c X.env) :: starEach [] X.env := by rfl) (hpl : (backTo pos (starEach [c] X.env)).any (·.1) = false := by rfl) :
    XE X J W (.Call (.Name "isinstance" p) [a, c] [] pos) qa (fOne fa (kIsi gg)) := xe_isi hK hi (.ty T) hg hm (by decide +kernel) ha hc he he2 hpl
theorem w_sl {fr : SemA} {i : Nat} {x : Str} (hr : XA X J W es qr fr) (hN : X.N[i]? = some x := by rfl) (hv : Vis X.env.scope x := by first | exact .inl rfl | exact .inr (.inl rfl) | exact .inr (.inr rfl)) (hs : starEach (.Name x p :: es) X.env = (false, eval (.Name x p) X.env) :: starEach es X.env := by rfl)
    (hd : (x == ("__debug__" : Str)) = false := by decide) (hcd : (x == ("__classdict__" : Str)) = false := by decide) : XA X J W (.Name x p :: es) qr (aSl i fr) := xa_sl hN hv hr hs hd hcd
theorem w_r1 (hm : X.mg "range" = none) (ha : XE X J W a qa fa) (hg : Gl X "range" := by rfl) (hs : starEach [a] X.env = (false, eval a X.env) :: starEach [] X.env := by rfl) (hs2 : starEach [a] X.env = [(false, eval a X.env)] := by rfl) : XI X J W tg (.Call (.Name "range" p) [a] [] pos) qa (iR1 fa) := xi_r1 hg hm ha hs hs2
theorem w_gn {i : Nat} {x : Str} (hN : X.N.Nodup := by assumption) (hi : X.N[i]? = some x := by rfl) (hx : Loc X.env.scope x := by first | exact .inl rfl | exact .inr rfl) (hf : X.fn x = true ∨ X.env.scope.names.lookup x = some .local := by first | exact .inl rfl | exact .inr rfl) (nf : NF J i := by first | exact nf_none (by assumption) | exact nf_ne (by assumption) rfl) : XG X J (.Name x p) [i] (gNm i) := xg_name hN hi hx hf nf
theorem w_for {body : List Stmt} {tb : SemS} {src : SemI} {tgt : SemG} {ix : List Nat} (hp : PassesOwn (model X.prog X.w) X.A X.env X.xe) (hi : XI X J W tg iter q src) (hg : XG X J tg ix tgt) (hb : XB X J W body tb) (hc : X.calm = true := by rfl) (hs : ∀ x, foldedSetIterable iter X.env x = pure x := by intro _; rfl) : XS X J W (.For tg iter body [] pos) (sFor src tgt tb) := xs_for hp hc hi hg hb hs
theorem w_asg {i : Nat} {x : Str} (hN : X.N.Nodup) (ha : XE X J W a qa fa) (hi : X.N[i]? = some x := by rfl) (hx : Loc X.env.scope x := by first | exact .inl rfl | exact .inr rfl) (hs : swapsWith a (some (.Name x p)) pos.line X.env = pure false := by rfl) (hf : X.fn x = true ∨ X.env.scope.names.lookup x = some .local := by first | exact .inl rfl | exact .inr rfl) (nf : NF J i := by first | exact nf_none (by assumption) | exact nf_ne (by assumption) rfl) :
    XS X J W (.Assign [.Name x p] a pos) (sAsg i fa) := xs_asg hN hi hx ha hs hf nf
theorem w_set {i : Nat} {x : Str} {ps' : Pos} (hb : XE X J W b true fb) (ha : XE X J W a qa fa) (hN : X.N[i]? = some x := by rfl) (hv : Vis X.env.scope x := by first | exact .inl rfl | exact .inr (.inl rfl) | exact .inr (.inr rfl)) (hd : (x == ("__debug__" : Str)) = false := by decide) (hcd : (x == ("__classdict__" : Str)) = false := by decide)
    (has : ∀ v, assign (.Subscript (.Name x p) b ps') X.env v = (do
      let ov ← holding [v] (eval (.Name x p) X.env)
      let iv ← holding [v, ov] (eval b X.env)
      standAt ps'
      holding [v, ov, iv] (setItem ov iv v)
      release [v, ov, iv] []) := by intro _; rfl)
    (hs : swapsWithSole [.Subscript (.Name x p) b ps'] a pos.line X.env = pure false := by rfl) (hw : swappedStores [.Subscript (.Name x p) b ps'] a X.env = pure none := by rfl)
    (h1 : (assignEach [.Subscript (.Name x p) b ps'] X.env).map (·.2) = [assign (.Subscript (.Name x p) b ps') X.env] := by rfl) :
    XS X J W (.Assign [.Subscript (.Name x p) b ps'] a pos) (sSet i fb fa) := xs_set hN hv hb ha hd hcd has hs hw h1
theorem w_app {i : Nat} {x : Str} (ha : XE X J W a qa fa) (hN : X.N[i]? = some x := by rfl) (hv : Vis X.env.scope x := by first | exact .inl rfl | exact .inr (.inl rfl) | exact .inr (.inr rfl)) (hd : (x == ("__debug__" : Str)) = false := by decide) (hcd : (x == ("__classdict__" : Str)) = false := by decide)
    (hst : starEach [a] X.env = (false, eval a X.env) :: starEach [] X.env := by rfl) (hbase : attributeBase (.Name x px) "append" X.env (eval (.Name x px) X.env) = eval (.Name x px) X.env := by rfl)
    (hfew : ((backTo pos (starEach [a] X.env)).all (fun x => !x.1) && (backToKw pos (keywordEach [] X.env)).all (fun x => x.1.isSome) && decide ([a].length + ([] : List Keyword).length + (if ([] : List Keyword).isEmpty then 0 else 1) < 30)) = true := by rfl)
    (hline : (apos.endLine == pos.line) = true := by rfl) (hplain : (backTo pos (starEach [] X.env)).any (·.1) = false := by rfl) :
    XE X J W (.Call (.Attribute (.Name x px) "append" apos) [a] [] pos) false (fApp i fa) := xe_app hN hv ha hd hcd hst (pe_bm PySem.F.plainAttrs_list PySem.F.slot_list_append PySem.F.type_list_append mt_append (pe_var hN hv hd hcd) (pa_cons ha.pe pa_nil hst) hbase hfew hline hst hplain)
theorem w_popAt {i : Nat} {x : Str} (ha : XE X J W a qa fa) (hN : X.N[i]? = some x := by rfl) (hv : Vis X.env.scope x := by first | exact .inl rfl | exact .inr (.inl rfl) | exact .inr (.inr rfl)) (hd : (x == ("__debug__" : Str)) = false := by decide) (hcd : (x == ("__classdict__" : Str)) = false := by decide)
    (hst : starEach [a] X.env = (false, eval a X.env) :: starEach [] X.env := by rfl) (hbase : attributeBase (.Name x px) "pop" X.env (eval (.Name x px) X.env) = eval (.Name x px) X.env := by rfl)
    (hfew : ((backTo pos (starEach [a] X.env)).all (fun x => !x.1) && (backToKw pos (keywordEach [] X.env)).all (fun x => x.1.isSome) && decide ([a].length + ([] : List Keyword).length + (if ([] : List Keyword).isEmpty then 0 else 1) < 30)) = true := by rfl)
    (hline : (apos.endLine == pos.line) = true := by rfl) (hplain : (backTo pos (starEach [] X.env)).any (·.1) = false := by rfl) :
    XE X J W (.Call (.Attribute (.Name x px) "pop" apos) [a] [] pos) false (fPopAt i fa) := xe_popAt hN hv ha hd hcd (pe_bm PySem.F.plainAttrs_list PySem.F.slot_list_pop PySem.F.type_list_pop mt_popAt (pe_var hN hv hd hcd) (pa_cons ha.pe pa_nil hst) hbase hfew hline hst hplain)
theorem w_clear {i : Nat} {x : Str} (hN : X.N[i]? = some x := by rfl) (hv : Vis X.env.scope x := by first | exact .inl rfl | exact .inr (.inl rfl) | exact .inr (.inr rfl)) (hd : (x == ("__debug__" : Str)) = false := by decide) (hcd : (x == ("__classdict__" : Str)) = false := by decide)
    (hbase : attributeBase (.Name x px) "clear" X.env (eval (.Name x px) X.env) = eval (.Name x px) X.env := by rfl) (hline : (apos.endLine == pos.line) = true := by rfl) :
    XE X J W (.Call (.Attribute (.Name x px) "clear" apos) [] [] pos) false (fOnL i kClear) := xe_clear (pe_bm0 PySem.F.plainAttrs_list PySem.F.slot_list_clear PySem.F.type_list_clear mt_clear (pe_var hN hv hd hcd) hbase hline)
theorem w_call {pm : List PM} {rm : Bool} {fn : Fn} {x : Str} {fA : Addr} (F : FnC X.prog X.w X.K X.mg X.base j fA (spF X.K pm rm fn)) (hm : X.mg x = some (.ref fA)) (hr : Room k X.A) (tk : Takes X W) (hK : J.K = X.K) (ha : XA X J W (e :: es) q fs) (hj : j ≤ k := by decide) (hg : Gl X x := by rfl)
    (hdb : (x == ("__debug__" : Str)) = false := by decide) (he : starEach (e :: es) X.env = (false, eval e X.env) :: starEach es X.env := by rfl) (hpl : (backTo pos (starEach es X.env)).any (·.1) = false := by rfl) :
    XE X J W (.Call (.Name x p) (e :: es) [] pos) false (fCall pm rm fn fs) := xe_call hK (F.at hr hj tk) hg hm F.kp ha hdb he hpl
theorem w_lc {src : SemI} {tgt : SemG} {ix : List Nat} {cond : SemB} {felt : Sem1} {ifs : List Expr} {scope : Scope} {own : List (Str × Nat)} (hN : X.N.Nodup) (hi : XI X J W tg iter q src)
    (hg : ∀ (s : Shared) (H : Hp) (C : Addr) (cl : List (Str × Addr)) (fp : List Addr), XG (X.blk s H scope (compEnvC scope cl C X.env) fp) J tg ix tgt) (ht : ∀ (s : Shared) (H : Hp) (C : Addr) (cl : List (Str × Addr)) (fp : List Addr), XPs (X.blk s H scope (compEnvC scope cl C X.env) fp) J WN ifs qc cond)
    (he : ∀ (s : Shared) (H : Hp) (C : Addr) (cl : List (Str × Addr)) (fp : List Addr), XE (X.blk s H scope (compEnvC scope cl C X.env) fp) J WN elt qe felt)
    (ok : BlkOk X.N X.env.scope scope own := by exact ⟨rfl, by decide +kernel, by decide +kernel, by decide +kernel, by decide +kernel⟩) (hix : ∀ i ∈ ix, i ∈ own.map (·.2) := by decide) (hc : X.calm = true := by rfl) (hs : ∀ x, foldedSetIterable iter X.env x = pure x := by intro _; rfl)
    (nf : ∀ i ∈ own.map (·.2), NF J i := by first | exact fun _ _ => nf_none (by assumption) | exact nfs_ne (by assumption) rfl) :
    XE X J W (.ListComp elt [⟨tg, iter, ifs, 0⟩] scope pos) (q && (qc && qe)) (fLc (qc && qe) (own.map (·.2)) src tgt cond felt) := xe_lc hix hc hN hi ok hg ht he hs nf
theorem w_asgLc {i : Nat} {y : Str} {py spos : Pos} {src : SemI} {tgt : SemG} {ix : List Nat} {cond : SemB} {felt : Sem1} {ifs : List Expr} {scope : Scope} {own : List (Str × Nat)} (hN : X.N.Nodup) (hi : XI X J W tg iter q src)
    (hg : ∀ (s : Shared) (H : Hp) (C : Addr) (cl : List (Str × Addr)) (fp : List Addr), XG (X.blk s H scope (compEnvC scope cl C X.env) fp) J tg ix tgt) (ht : ∀ (s : Shared) (H : Hp) (C : Addr) (cl : List (Str × Addr)) (fp : List Addr), XPs (X.blk s H scope (compEnvC scope cl C X.env) fp) J WN ifs qc cond)
    (he : ∀ (s : Shared) (H : Hp) (C : Addr) (cl : List (Str × Addr)) (fp : List Addr), XE (X.blk s H scope (compEnvC scope cl C X.env) fp) J WN elt qe felt)
    (ok : BlkOk X.N X.env.scope scope own := by exact ⟨rfl, by decide +kernel, by decide +kernel, by decide +kernel, by decide +kernel⟩) (hix : ∀ i ∈ ix, i ∈ own.map (·.2) := by decide) (hc : X.calm = true := by rfl) (hy : X.N[i]? = some y := by rfl) (hyl : X.env.scope.names.lookup y = some .local := by rfl)
    (hsw : swapsWith (.ListComp elt [⟨tg, iter, ifs, 0⟩] scope pos) (some (.Name y py)) spos.line X.env = pure true := by rfl) (hs : ∀ x, foldedSetIterable iter X.env x = pure x := by intro _; rfl)
    (nf : ∀ i ∈ own.map (·.2), NF J i := by first | exact fun _ _ => nf_none (by assumption) | exact nfs_ne (by assumption) rfl) (nfi : NF J i := by first | exact nf_none (by assumption) | exact nf_ne (by assumption) rfl) :
    XS X J W (.Assign [.Name y py] (.ListComp elt [⟨tg, iter, ifs, 0⟩] scope pos) spos) (sAsg i (fLc (qc && qe) (own.map (·.2)) src tgt cond felt)) := xs_asgLc hix hc hN hy hyl hsw hi ok hg ht he hs nf nfi
theorem w_asgLcF {i : Nat} {y : Str} {py spos : Pos} {src : SemI} {tgt : SemG} {ix : List Nat} {cond : SemB} {felt : Sem1} {ifs : List Expr} {scope : Scope} {own : List (Str × Nat)} (hN : X.N.Nodup) (hi : XI X J W tg iter q src)
    (hg : ∀ (s : Shared) (H : Hp) (C : Addr) (cl : List (Str × Addr)) (fp : List Addr), XG (X.blk s H scope (compEnvC scope cl C X.env) fp) J tg ix tgt) (ht : ∀ (s : Shared) (H : Hp) (C : Addr) (cl : List (Str × Addr)) (fp : List Addr), XPs (X.blk s H scope (compEnvC scope cl C X.env) fp) J WN ifs qc cond)
    (he : ∀ (s : Shared) (H : Hp) (C : Addr) (cl : List (Str × Addr)) (fp : List Addr), XE (X.blk s H scope (compEnvC scope cl C X.env) fp) J WN elt qe felt)
    (ok : BlkOk X.N X.env.scope scope own := by exact ⟨rfl, by decide +kernel, by decide +kernel, by decide +kernel, by decide +kernel⟩) (hix : ∀ i ∈ ix, i ∈ own.map (·.2) := by decide) (hc : X.calm = true := by rfl) (hy : X.N[i]? = some y := by rfl) (hyl : X.env.scope.names.lookup y = some .local := by rfl)
    (hsw : swapsWith (.ListComp elt [⟨tg, iter, ifs, 0⟩] scope pos) (some (.Name y py)) spos.line X.env = pure true := by rfl) (hs : ∀ x, foldedSetIterable iter X.env x = pure x := by intro _; rfl)
    (nf : ∀ i ∈ own.map (·.2), NF J i := by first | exact fun _ _ => nf_none (by assumption) | exact nfs_ne (by assumption) rfl) (nfi : NF J i := by first | exact nf_none (by assumption) | exact nf_ne (by assumption) rfl) :
    XS X J W (.Assign [.Name y py] (.ListComp elt [⟨tg, iter, ifs, 0⟩] scope pos) spos) (sAsg i (fFrz (fLc (qc && qe) (own.map (·.2)) src tgt cond felt))) := xs_asgLcF hix hc hN hy hyl hsw hi ok hg ht he hs nf nfi
theorem w_raise {c' x : Str} {fsN : List Str} {pos2 : Pos} (T : OexC X.K (He.ga X.K c') ∧ (∀ f, f ∈ fsN → PySem.W.findIn X.K (.ref (He.ga X.K c')) f = some none) ∧ PySem.W.findIn X.K (.ref (He.ga X.K c')) "__init__" = some (some (.ref (He.ma X.K (He.ga X.K c') "__init__"))) ∧ PySem.W.typeIn X.K (.ref (He.ma X.K (He.ga X.K c') "__init__")) = some (.type "function"))
    (F : FnC X.prog X.w X.K X.mg X.base j (He.ma X.K (He.ga X.K c') "__init__") (spX fsN X.K)) (hm : X.mg x = some (.ref (He.ga X.K c'))) (hr : Room k X.A) (tk : Takes X W) (hK : J.K = X.K) (ha : XA X J W (e :: es) q fs) (hj : j + 1 ≤ k := by decide) (hl : (fsN.length ≤ 1000) := by decide) (hc : X.calm = true := by rfl) (hg : Gl X x := by rfl)
    (hdb : (x == ("__debug__" : Str)) = false := by decide) (he : starEach (e :: es) X.env = (false, eval e X.env) :: starEach es X.env := by rfl) (hpl : (backTo pos (starEach es X.env)).any (·.1) = false := by rfl) :
    XS X J W (.Raise (some (.Call (.Name x p) (e :: es) [] pos)) none pos2) (sRaise c' fsN fs) := by
  obtain ⟨⟨fd, ps, F1, hb⟩, _⟩ := F
  exact xs_raise hK hc tk T.1 T.2.1 T.2.2.1 T.2.2.2 F1 (hr.mono hj) hb hg hm hl ha hdb he hpl
end
end MV
namespace MV
open PySem PySem.Spec PyProof.Rows L2 He
theorem z_cls {K : PySem.W.Frag} {x : Str} (h : (Fm.std (.cls x)).ok K = true) : Cls K (ga K x) := cls_ok h
theorem z_noat {K : PySem.W.Frag} {x f : Str} (h : (Fm.std (.noat x f)).ok K = true) : NoAttr K (ga K x) f := noat_ok h
theorem z_mkr {K : PySem.W.Frag} {x : Str} (h : (Fm.std (.mkr x)).ok K = true) : Mk K (ga K x) (ma K (ga K x) "__init__") := mkr_ok h
theorem z_exm {K : PySem.W.Frag} {x y : Str} {b : Bool} (h : (Fm.std (.exm x y b)).ok K = true) : PySem.W.exmOne K (.ref (ga K x)) (.ref (ga K y)) = some b := exm_ok h
theorem fld_nil {K : PySem.W.Frag} {f : Str} : FldOk K [] f := ⟨fun c h => by cases h⟩
theorem fld_cons {K : PySem.W.Frag} {f c : Str} {cs : List Str} (h1 : Cls K (He.ga K c)) (h2 : NoAttr K (He.ga K c) f) (h : FldOk K cs f) : FldOk K (c :: cs) f := ⟨fun d hd => by
  rcases List.mem_cons.mp hd with z | z
  · rw [z]; exact ⟨h1, h2⟩
  · exact h.ok d z⟩
section
variable {X : Cx} {J : Jx} {W : WX} {e a b c tg iter elt o : Expr} {es : List Expr} {q qa qb qo : Bool} {fa fb fc : Sem1} {fs : SemA} {fo : SemR} {pos p px apos : Pos} {k j : Nat}
theorem w_rsl {i : Nat} {x : Str} (hN : X.N[i]? = some x := by rfl) (hv : Vis X.env.scope x := by first | exact .inl rfl | exact .inr (.inl rfl) | exact .inr (.inr rfl)) (hd : (x == ("__debug__" : Str)) = false := by decide) (hcd : (x == ("__classdict__" : Str)) = false := by decide) : XR X J W (.Name x p) true (rSl i) := xr_sl hN hv hd hcd
theorem w_fld {f : Str} {cs : List Str} (hK : J.K = X.K) (hf : FldOk X.K cs f) (ha : XE X J W a qa fa) (hb : attributeBase a f X.env (eval a X.env) = eval a X.env := by rfl) : XE X J W (.Attribute a f pos) qa (fOne fa (kFld f cs)) := xe_fld hK hf ha hb
theorem w_sfld {i : Nat} {x f : Str} {cs : List Str} {pos' : Pos} (hK : J.K = X.K) (hf : FldOk X.K cs f) (ha : XE X J W a qa fa) (hN : X.N[i]? = some x := by rfl) (hv : Vis X.env.scope x := by first | exact .inl rfl | exact .inr (.inl rfl) | exact .inr (.inr rfl)) (hs : swapsWith a (some (.Attribute (.Name x p) f pos')) pos.line X.env = pure false := by rfl)
    (hd : (x == ("__debug__" : Str)) = false := by decide) (hcd : (x == ("__classdict__" : Str)) = false := by decide) : XS X J W (.Assign [.Attribute (.Name x p) f pos'] a pos) (sFldS i f cs fa) := xs_fld hK hf hN hv ha hs hd hcd
theorem w_prop {c f : Str} {g : Addr} {rm : Bool} {fn : Fn} (hK : J.K = X.K) (k1 : Cls X.K (He.ga X.K c)) (hp : PropOf X.K (He.ga X.K c) f (He.ma X.K (He.ga X.K c) f) g) (F : FnC X.prog X.w X.K X.mg X.base j g (spF X.K [.bor] rm fn)) (hr : Room k X.A) (ho : XR X J W o qo fo) (hj : j + 1 ≤ k := by decide) (hab : attributeBase o f X.env (eval o X.env) = eval o X.env := by rfl) :
    XE X J W (.Attribute o f pos) false (fProp c f rm fn fo) := by
  obtain ⟨⟨fd, ps, F1, hb⟩, _⟩ := F
  exact xe_prop hK k1 hp F1 (hr.mono hj) hb ho hab
theorem w_make {c x : Str} {fA : Addr} {pm : List PM} {rm : Bool} {fn : Fn} (F : FnC X.prog X.w X.K X.mg X.base j fA (spF X.K (.io :: pm) rm fn)) (M : Mk X.K (He.ga X.K c) fA) (hm : X.mg x = some (.ref (He.ga X.K c))) (hr : Room k X.A) (tk : Takes X W) (hK : J.K = X.K) (ha : XA X J W (e :: es) q fs) (hj : j + 1 ≤ k := by decide) (hg : Gl X x := by rfl)
    (hdb : (x == ("__debug__" : Str)) = false := by decide) (he : starEach (e :: es) X.env = (false, eval e X.env) :: starEach es X.env := by rfl) (hpl : (backTo pos (starEach es X.env)).any (·.1) = false := by rfl) :
    XE X J W (.Call (.Name x p) (e :: es) [] pos) false (fMake c pm fn fs) := xe_make hK (F.make M hr hj tk) hg hm M.kp ha hdb he hpl
end
end MV
namespace MV
open PySem PySem.Spec PyProof.Rows L2 He
def tabX (yes no : List Str) (c : Str) : Option Bool := if yes.contains c then some true else if no.contains c then some false else none
theorem tabX_ok {K : PySem.W.Frag} {u : Value} {yes no : List Str} (h1 : ∀ c ∈ yes, PySem.W.exmOne K (.ref (ga K c)) u = some true) (h2 : ∀ c ∈ no, PySem.W.exmOne K (.ref (ga K c)) u = some false) : ∀ k b, tabX yes no k = some b → PySem.W.exmOne K (.ref (ga K k)) u = some b := fun k b h => by
  unfold tabX at h
  by_cases c1 : yes.contains k = true
  · rw [if_pos c1] at h; cases h; exact h1 k (List.contains_iff_mem.mp c1)
  · rw [if_neg c1] at h
    by_cases c2 : no.contains k = true
    · rw [if_pos c2] at h; cases h; exact h2 k (List.contains_iff_mem.mp c2)
    · rw [if_neg c2] at h; cases h
theorem all_nil {p : Str → Prop} : ∀ c ∈ ([] : List Str), p c := fun c h => by cases h
theorem all_cons {p : Str → Prop} {x : Str} {l : List Str} (h : p x) (r : ∀ c ∈ l, p c) : ∀ c ∈ x :: l, p c := fun c hc => by
  rcases List.mem_cons.mp hc with z | z
  · rw [z]; exact h
  · exact r c z
theorem names_own {X : Cx} {x : Str} {C : Addr} (hm : X.mg x = some (.ref C)) (hg : Gl X x := by rfl) (hd : (x == ("__debug__" : Str)) = false := by decide) : Names X x (.ref C) := ⟨hg, hd, .inl hm⟩
end MV
namespace MV
open PySem PySem.Spec PyProof.Rows L2 He
theorem cval_ok {K : PySem.W.Frag} {c f : Str} {i : Int} (h : (Fm.cval c f i).ok K = true) : ∃ u, ClX.CRead K (ga K c) (.type "type") ∧ ClX.CVal K (ga K c) (.type "type") f (.int i) u := by
  obtain ⟨h1, h⟩ := ba h
  obtain ⟨h2, h3⟩ := ba h
  cases q : PySem.W.findCls K (.ref (ga K c)) (.type "type") f with
  | none => rw [q] at h3; cases h3
  | some r =>
    rw [q] at h3
    cases r with
    | val u =>
      cases u with
      | int j t =>
        have e : j = i := of_decide_eq_true h3
        subst e
        exact ⟨_, ⟨h1, eqO_ok h2⟩, ⟨q, ⟨t, rfl⟩⟩⟩
      | _ => cases h3
    | _ => cases h3
section
variable {X : Cx} {J : Jx} {W : WX} {a b c : Expr} {q qa qb : Bool} {fa fb : Sem1} {pos p : Pos}
theorem w_cval {x cn f : Str} {i : Int} (h : ∃ u, ClX.CRead X.K (ga X.K cn) (.type "type") ∧ ClX.CVal X.K (ga X.K cn) (.type "type") f (.int i) u) (hm : X.mg x = some (.ref (ga X.K cn))) (hg : Gl X x := by rfl) (hdb : (x == ("__debug__" : Str)) = false := by decide) (hb : attributeBase (.Name x p) f X.env (eval (.Name x p) X.env) = eval (.Name x p) X.env := by rfl) :
    XE X J W (.Attribute (.Name x p) f pos) true (fC (.int i)) := by
  obtain ⟨u, h1, h2⟩ := h
  exact xe_c ((ClX.pe_cval (pe_ownN hg hm hdb) hb).imp fun σ H Q h => ⟨_, _, _, u, rfl, h1, h2, h⟩) (fun _ => rfl)
end
end MV
namespace MV
open PySem PySem.Spec PyProof.Rows L2 He
theorem walk_mv {l : PySem.W.OpenLaw} {n k : Nat} {q : Program} {loose : List Str} {XP : (Str → Option Value) → Heap → Prop} {YP : World → Heap → Prop} {d : DefRec} {x : Str}
    (hn : l.most = some n) (hn2 : n ≤ sizeLine) (hdf : d.params.defaults = []) (hr : Room k callerA)
    (F : ∀ (w : World) (mg : Str → Option Value) (fa : Addr) (h : Heap), YP w h → h.Ns mainGlobals mg → mg d.name = some (.ref fa) →
      ∃ (K : PySem.W.Frag) (fd : FuncData) (sp : Sp), K.In h ∧ (∀ (s : Shared) (u : Value), BindsTo s fd ⟨[u], []⟩ [(x, u)]) ∧
        (∀ (H : Hp) (a : Addr) (ns : List Int), ns.length ≤ n → SqL K H a (ns.map V.int) → sp [.ref a] H (fun v _ => v = .bl true) fun _ _ _ => False) ∧
        ∀ base : Heap, K.In base → base.Ns mainGlobals mg → FnOk l.prog w K mg base (L2N.CX l.prog w) k fa fd [x] sp) :
    PySem.W.WalkO q loose XP YP l.row.toRowW d [] (fun f vs => PySem.call f vs) := by
  refine Att.attach_call hn hdf fun w s₀ s₁ mg mb fa o pm cd doc a vs ns G Y ho hd hcd hmg hobj hints hlen hg => ?_
  obtain ⟨K, fd, sp, KX, hb, hsp, hF⟩ := F w mg fa _ Y G.T.g hmg
  exact law_call KX G.T.g G.T.b G.T.builtins G.T.nolimit hg hobj hints (Nat.le_trans hlen hn2) hr hF hb (fun H hO hS => hsp H a ns hlen hS) fun H e s' x => by
    obtain ⟨_, _, _, _, _, _, _, _, _, _, _, _, z⟩ := x
    exact z
end MV
namespace MV
open PySem PySem.Spec PyProof.Rows L2 He
def ntA : Ar → Bool
  | .ex s => !s.m.isT
  | .sl _ => true
def fOp2 (c m : Str) (pm : List PM) (rm : Bool) (fn : Fn) (fo fb : SemR) : Sem1 := fun ρ => bnd (fo ρ) fun a ρ1 => grd (ntA a) (bnd (fb ρ1) fun b ρ2 => grd (clsOk c m ρ2 a && clsOk c m ρ2 b) (kCall pm rm fn [a, b] ρ2))
section
variable {X : Cx} {J : Jx} {W : WX} {pm : List PM} {rm : Bool} {fn : Fn} {q qo qb : Bool} {σ : St} {H : Hp} {Q : VK} {τ τ1 τ2 : List (Sv × V)} {ρ : En} {F B : Hp} {O : Addr → Option Ow}
theorem ntA_ok {a : Ar} {v : V} (h : ntA a = true) (k : Stk σ [a] [v] τ τ1) (n : NoTmp τ) : NoTmp τ1 := by
  cases a with
  | ex s =>
    rw [show τ1 = (s, v) :: τ from k]
    exact n.cons fun z => by
      have h : (!s.m.isT) = true := h
      rw [z] at h; cases h
  | sl i => obtain ⟨_, k2⟩ := (show σ[i]? = some (some v) ∧ τ1 = τ from k); rw [k2]; exact n
theorem clsOk_below {c m : Str} {a b : Ar} {v u : V} (h : clsOk c m ρ a = true) (k1 : Stk σ [a] [v] τ τ1) (k2 : Stk σ [b] [u] τ1 τ2) (I : Iv J ρ τ2 σ H) : ∃ x dx ws, v = .ref x ∧ H x = some (.ins (He.ga J.K c) dx ws) := by
  have I1 : Iv J ρ τ1 σ H := by
    obtain ⟨F, B, O, I⟩ := I
    exact ⟨F, B, O, I.unstk k2⟩
  obtain ⟨x, dx, ws, h1, h2, _⟩ := clsOk_at h k1 I1
  exact ⟨x, dx, ws, h1, h2⟩
theorem tOp2 {c m : Str} {fo fb : SemR} {to tb : TE} (h : ∃ ρ τ, Iv J ρ τ σ H ∧ (false = true ∨ NoTmp τ) ∧ Out J W τ σ (fOp2 c m pm rm fn fo fb ρ) Q) (hto : ∀ σ H Q, (∃ ρ τ, Iv J ρ τ σ H ∧ (qo = true ∨ NoTmp τ) ∧ OutR J W τ σ (fo ρ) Q) → to σ H Q) (htb : ∀ σ H Q, (∃ ρ τ, Iv J ρ τ σ H ∧ (qb = true ∨ NoTmp τ) ∧ OutR J W τ σ (fb ρ) Q) → tb σ H Q) :
    to σ H fun x H1 => tb σ H1 fun y H2 => ∃ a dx ws b dy us, x = .ref a ∧ y = .ref b ∧ H2 a = some (.ins (He.ga J.K c) dx ws) ∧ H2 b = some (.ins (He.ga J.K c) dy us) ∧ spF J.K pm rm fn [x, y] H2 Q (WE W σ) := by
  obtain ⟨ρ, τ, I, c0, m0⟩ := h
  have nt : NoTmp τ := c0.elim (fun z => nomatch z) id
  refine hto _ _ _ ⟨ρ, τ, I, .inr nt, ?_⟩
  unfold fOp2 at m0
  cases e : fo ρ with
  | ok a ρ1 =>
    rw [e] at m0
    intro v τ1 H1 k1 I1
    obtain ⟨ha, m1⟩ := out_grd (b := ntA a) m0
    refine htb _ _ _ ⟨ρ1, τ1, I1, .inr (ntA_ok ha k1 nt), ?_⟩
    cases e2 : fb ρ1 with
    | ok b ρ2 =>
      rw [e2] at m1
      intro u τ2 H2 k2 I2
      obtain ⟨hc, m2⟩ := out_grd (b := clsOk c m ρ2 a && clsOk c m ρ2 b) m1
      obtain ⟨hc1, hc2⟩ := Bool.and_eq_true_iff.mp hc
      obtain ⟨x, dx, ws, z1, z2⟩ := clsOk_below hc1 k1 k2 I2
      obtain ⟨y, dy, us, z3, z4, _⟩ := clsOk_at hc2 k2 I2
      exact ⟨x, dx, ws, y, dy, us, z1, z3, z2, z4, call_sp nt (stk_cons k1 k2) I2 m2⟩
    | exc cc fs ρ2 => rw [e2] at m1; exact m1
    | bad => rw [e2] at m1; exact m1
  | exc cc fs ρ1 => rw [e] at m0; exact m0
  | bad => rw [e] at m0; exact m0
theorem back_ok {pins : List (Addr × Obj)} {v : Value} {s' : Shared} (h : EP X pins σ Q v s') : PySem.W.CmpBack (EP X pins σ Q) v s' := by
  obtain ⟨z, H', I', r, q⟩ := h
  exact SlX.cmpback r ⟨z, H', I', r, q⟩
theorem cmp_plain {op : CmpOp} (h : op ≠ .Is ∧ op ≠ .IsNot ∧ op ≠ .In ∧ op ≠ .NotIn) {v u : Value} : compareOp op v u = richCompare op v u := by
  obtain ⟨h1, h2, h3, h4⟩ := h
  cases op <;> first | rfl | contradiction
theorem xe_ownC {c dn : Str} {f : Addr} {op : CmpOp} {a b : Expr} {fo fb : SemR} {pos : Pos} (hK : J.K = X.K) (hu : X.A.units < cLine) (hc : CallAt X W f (spF X.K pm rm fn)) (hd : (cmpInfo op).2.1 = dn) (hplain : op ≠ .Is ∧ op ≠ .IsNot ∧ op ≠ .In ∧ op ≠ .NotIn) (hs : PySem.W.findIn X.K (.ref (He.ga X.K c)) dn = some (some (.ref f))) (hf : PySem.W.isFn X.K (.ref f) = true)
    (ho : XR X J W a qo fo) (hb : XR X J W b qb fb) (hm : behindInMarks op b = false) : XE X J W (.Compare a [op] [b] pos) false (fOp2 c dn pm rm fn fo fb) := by
  refine ⟨⟨fun pins s σ H Q I h => ?_⟩⟩
  refine wpAny_Compare1 (binT ho.pe hb.pe I (tOp2 h (fun _ _ _ z => z) fun _ _ _ z => z) fun v u s2 x y H2 I2 rx ry qq => ?_) hm
  obtain ⟨a', dx, ws, b', dy, us, rfl, rfl, ha, hb', q⟩ := qq
  cases rx
  cases ry
  rw [hK] at ha hb' q
  subst hd
  obtain ⟨mA, Ja, _⟩ := ins_get I2.hok ha
  obtain ⟨mB, Jb, _⟩ := ins_get I2.hok hb'
  obtain ⟨od, Ja, _⟩ := Ja.look
  obtain ⟨od', Jb, _⟩ := Jb.look
  obtain ⟨m, hF⟩ := I2.fr
  rw [cmp_plain hplain]
  exact PySem.W.cmp_K hu hF I2.ok.mod.kin Ja Jb.type (by simp [PySem.W.notFirst]) hs hf (wpAny_mono (hc _ _ _ _ _ [.ref a', .ref b'] [.ref a', .ref b'] I2 (.cons rfl (.cons rfl .nil)) q) (fun _ _ z => back_ok z) fun _ _ z => z)
end
end MV
namespace MV
open PySem PySem.Spec PyProof.Rows L2 He
structure StatC (K : PySem.W.Frag) (C : Addr) (m : Str) (p g : Addr) : Prop where
  rd : ClX.CRead K C (.type "type")
  at_ : PySem.W.findCls K (.ref C) (.type "type") m = some (.get (.builtin "staticmethod.__get__") (.ref p) .none (.ref C))
  rc : ∃ rest, PySem.W.recIn K p "staticmethod" = some (.ref g :: rest)
section
variable {X : Cx} {J : Jx} {W : WX} {pins : List (Addr × Obj)} {σ : St} {H : Hp} {s : Shared} {C p g : Addr} {m : Str} {A : Around} {E : Value → Shared → Prop} {pm : List PM} {rm : Bool} {fn : Fn} {q : Bool} {fs : SemA}
theorem w_ownC {c dn : Str} {op : CmpOp} {a b : Expr} {fo fb : SemR} {pos : Pos} {f : Addr} {j k : Nat} {qo qb : Bool} (F : FnC X.prog X.w X.K X.mg X.base j f (spF X.K pm rm fn)) (S : PySem.W.findIn X.K (.ref (ga X.K c)) dn = some (some (.ref f)) ∧ PySem.W.isFn X.K (.ref f) = true ∧ PySem.W.selfFirst X.K (ga X.K c) = true) (hr : Room k X.A) (tk : Takes X W) (hK : J.K = X.K)
    (ho : XR X J W a qo fo) (hb : XR X J W b qb fb) (hj : j ≤ k := by decide) (hd : (cmpInfo op).2.1 = dn := by rfl) (hplain : op ≠ .Is ∧ op ≠ .IsNot ∧ op ≠ .In ∧ op ≠ .NotIn := by decide) (hm : behindInMarks op b = false := by rfl) : XE X J W (.Compare a [op] [b] pos) false (fOp2 c dn pm rm fn fo fb) := xe_ownC hK (by have := hr.un; omega) (F.at hr hj tk) hd hplain S.1 S.2.1 ho hb hm
end
end MV
namespace MV
open PySem PySem.Spec PyProof.Rows L2 He
theorem tabX_yes {yes no : List Str} {k : Str} (h : tabX yes no k = some true) : k ∈ yes := by
  unfold tabX at h
  by_cases c1 : yes.contains k = true
  · exact List.contains_iff_mem.mp c1
  · rw [if_neg c1] at h
    split at h <;> cases h
theorem kitAny_l {K : PySem.W.Frag} {t : Value} : ∀ (l : List (Value × Bool)), (∀ p ∈ l, PySem.W.kitOne K t p.1 = some p.2) → PySem.W.kitAny K t (l.map fun (p : Value × Bool) => p.1) = some (l.any fun (p : Value × Bool) => p.2)
  | [], _ => rfl
  | (u, b) :: l, h => by
    have h1 := h (u, b) List.mem_cons_self
    have ih := kitAny_l l fun p hp => h p (List.mem_cons_of_mem _ hp)
    show (match PySem.W.kitOne K t u with | some true => some true | some false => PySem.W.kitAny K t (l.map fun (p : Value × Bool) => p.1) | none => none) = some (((u, b) :: l).any fun (p : Value × Bool) => p.2)
    rw [h1]
    cases b with
    | true => rfl
    | false => exact ih
theorem kp_nil {K : PySem.W.Frag} {t : Value} : ∀ p ∈ ([] : List (Value × Bool)), PySem.W.kitOne K t p.1 = some p.2 := fun p h => by cases h
theorem kp_cons {K : PySem.W.Frag} {t u : Value} {b : Bool} {l : List (Value × Bool)} (h : PySem.W.kitOne K t u = some b) (r : ∀ p ∈ l, PySem.W.kitOne K t p.1 = some p.2) : ∀ p ∈ (u, b) :: l, PySem.W.kitOne K t p.1 = some p.2 := fun p hp => by
  rcases List.mem_cons.mp hp with z | z
  · rw [z]; exact h
  · exact r p z
end MV
namespace MV
open PySem PySem.Spec PyProof.Rows L2 L2H HotX He
theorem lend_hot {prog : Program} {w : World} {A : Around} {E : Value → Shared → Prop} {s : Shared} {it l x1 : Addr} {i : Nat} {items : Array Value} {Q : Option Value → Shared → Prop} (hot : HotAt A x1 s.heap) (ne : it ≠ x1) (hit : s.heap.IsListIter it l i) (hl : s.heap.IsList l items) (hx : items[i]? = none)
    (hQ : ∀ h', (∀ b o, b ≠ it → s.heap.get? b = some o → h'.get? b = some o) → Q none { s with heap := h' }) : wpAny (model prog w) A (pyNext (.ref it)) Q E s := by
  obtain ⟨hh, oo, ws, g1, dd, cc⟩ := hot
  obtain ⟨oi, gi, ci, di⟩ := id hit
  obtain ⟨ol, gl, _, nl, dl⟩ := hl
  have up : ∀ (h' : Heap) b o, b ≠ it → h' = s.heap.update it (Obj.mapFields (·.setIfInBounds 0 .none)) → s.heap.get? b = some o → h'.get? b = some o := fun h' b o hb e g => by
    rw [e, Heap.get?_update_other _ _ (fun z => hb z.symm)]
    exact g
  unfold pyNext
  refine wpAny_bind (wpAny_attempt (wpAny_callSpecial?_slot (name := Str.ofString "__next__") hit.typeIs slot_listiter_next (wpAny_call_entry slot_listiter_next hit.typeIs entry_listiter_next ?_ (args_listiter_next _))))
  show wpAny _ _ (field (.ref it) 0 >>= _) _ _ s
  refine wpAny_bind (wpAny_field gi di (x := .ref l) rfl ?_)
  show wpAny _ _ (if (Value.ref l == Value.none) = true then _ else _) _ _ s
  rw [if_neg (by exact Bool.false_ne_true)]
  show wpAny _ _ (field (.ref it) 1 >>= _) _ _ s
  refine wpAny_bind (wpAny_field gi di (x := .int i 0) rfl ?_)
  show wpAny _ _ (seqItems? (.ref l) >>= _) _ _ s
  refine wpAny_bind (wpAny_seqItems gl dl ?_)
  simp only [Int.toNat_natCast, hx]
  refine wpAny_bind (wpAny_rule (wpAny_bind (wpAny_setField gi di (by simp) ?_)))
  show wpAny _ _ (newExc (.type "StopIteration") [] >>= _) _ _ _
  refine wpAny_bind ?_
  simp only [newExc, newTuple]
  refine wpAny_bind (wpAny_newObj_type ?_ (by size_fits))
  refine wpAny_bind (m := firstArgMember _ _) (wpAny_of_eq (a := Value.none) (by first | rfl | (simp only [firstArgMember]; rfl)) ?_)
  refine wpAny_newObj_type ?_ (by size_fits)
  have g2 := up _ x1 oo (fun z => ne z.symm) rfl g1
  refine raiseNew_hot ⟨hh, oo, ws, Heap.get?_push_of_some _ (Heap.get?_push_of_some _ g2), dd, cc⟩ (Nat.ne_of_lt (Heap.lt_size (Heap.get?_push_of_some _ g2))) (Heap.get?_push_size _ rfl) rfl (by first | (simp; done) | (simp; omega)) ?_
  refine wpAny_bind (wpAny_isInstance (T := "StopIteration") (b := true) ⟨_, Heap.get?_update_self _ (Heap.get?_push_size _ rfl) rfl, rfl⟩ isSubtype_stop ?_)
  refine wpAny_pure (hQ _ fun b o hb e => ?_)
  have g3 := up _ b o hb rfl e
  rw [Heap.get?_update_other _ _ (Nat.ne_of_gt (Heap.lt_size (Heap.get?_push_of_some _ g3)))]
  exact Heap.get?_push_of_some _ (Heap.get?_push_of_some _ g3)
theorem turn_listH {P : Program} {w : World} {K : PySem.W.Frag} {tg : Expr} (a it : Addr) : TurnH P w K tg (Itl K a) [it] it (fun i h => h.IsListIter it a i) := by
  have T := turn_list (P := P) (w := w) (K := K) (tg := tg) a it
  refine ⟨T.mem, T.obj, T.keep, ?_, ?_, T.self⟩
  · intro X hP hw hK hc i pins s σ H E I hf st ⟨xs, x, hq, hx⟩
    subst hP hw hK
    obtain ⟨its, rv, pl, _⟩ := I.list hq
    obtain ⟨u, hu, ru⟩ := rv.get hx
    obtain ⟨f0, f1, f2, f3, f4, f5⟩ := hf it List.mem_cons_self
    refine wpAny_pyNext_list_item st pl.isList (x := u) (by rw [List.getElem?_toArray]; exact hu) fun h' st' sb => ?_
    have I' : Inv X pins σ H { s with heap := h' } := I.turned (t' := s.toks) (fun b o hb e => (sb.2 b hb).trans e) f0 f1 f3 f4 f5
    obtain ⟨o, eo, co, d⟩ := id st'
    exact ⟨u, rfl, go_of (s := { s with heap := h' }) eo co d (by decide) ⟨x, H, I', ru, ⟨rfl, fun ys hy => (I.list_inj hy hq) ▸ hx⟩, st', fun b hb => (hf b hb).1⟩⟩
  · intro X hP hw hK ⟨p, ⟨hh, v1, e1, c1⟩, hp⟩ i pins s σ H E I hf st ⟨xs, hq, hx⟩
    subst hP hw hK
    obtain ⟨its, rv, pl, _⟩ := I.list hq
    obtain ⟨f0, f1, f2, f3, f4, f5⟩ := hf it List.mem_cons_self
    have hl := rv.length
    exact lend_hot (x1 := p.1) ⟨hh, p.2, v1, (I.pin p (List.mem_append_left _ hp)).1, e1, c1⟩ (fun z => f5 p (List.mem_append_left _ hp) z.symm) st pl.isList (by simp; omega) fun h' eb => ⟨rfl, I.turned (t' := s.toks) eb f0 f1 f3 f4 f5⟩
theorem pi_listH {X : Cx} {tg l : Expr} {tl : TE} (hl : PE X l tl) : PIH X tg l (iList X.K tl) := by
  refine ⟨fun pins s σ H R I h => thn (hl.run pins s σ H _ I h) fun v s1 ⟨x, H1, I1, r1, a, e, ⟨xs, hq⟩, q⟩ => ?_⟩
  subst e
  cases r1
  obtain ⟨its, rv, pl, _⟩ := I1.list hq
  refine wpAny_pyIter_list pl.isList ⟨s1.heap.objs.size, [s1.heap.objs.size], _, _, H1, rfl, I1.kept (t' := s1.toks) (fun b o e => Heap.get?_push_of_some _ e), turn_listH a _, ⟨_, Heap.get?_push_size _ rfl, rfl, rfl⟩, fun b hb => ?_, q⟩
  rw [List.mem_singleton.mp hb]
  exact I1.fpOk (Nat.le_refl _) (I1.hok.fresh (Nat.le_refl _))
theorem _root_.L2H.PIH.imp {X : Cx} {tg e : Expr} {t t' : TI} (h : PIH X tg e t) (i : ∀ σ H Q, t' σ H Q → t σ H Q) : PIH X tg e t' := ⟨fun pins s σ H Q I q => h.run pins s σ H Q I (i σ H Q q)⟩
abbrev blkH (X : Cx) (s : Shared) (H : Hp) (scope : Scope) (cenv : Env) (fp : List Addr) (p : Addr × Obj) : Cx := (X.blk s H scope cenv fp).tr [p] fun _ _ => False
theorem blkH_hot {X : Cx} {s : Shared} {H : Hp} {scope : Scope} {cenv : Env} {fp : List Addr} {p : Addr × Obj} (h : Hot1 X.A p) : HotC (blkH X s H scope cenv fp p) := ⟨p, h, List.mem_singleton.mpr rfl⟩
section
variable {X : Cx} {elt tg iter : Expr} {ifs : List Expr} {scope : Scope} {own : List (Str × Nat)} {pos : Pos} {wi : TI} {g : TG} {tt : TT} {te : TE}
theorem pe_lcH (hot : HotC X) (hN : X.N.Nodup) (hi : PIH X tg iter wi) (ok : BlkOk X.N X.env.scope scope own)
    (hg : ∀ (s : Shared) (H : Hp) (C : Addr) (cl : List (Str × Addr)) (fp : List Addr) (p : Addr × Obj), Hot1 X.A p → PG (blkH X s H scope (compEnvC scope cl C X.env) fp p) tg g)
    (ht : ∀ (s : Shared) (H : Hp) (C : Addr) (cl : List (Str × Addr)) (fp : List Addr) (p : Addr × Obj), Hot1 X.A p → PTs (blkH X s H scope (compEnvC scope cl C X.env) fp p) ifs tt)
    (he : ∀ (s : Shared) (H : Hp) (C : Addr) (cl : List (Str × Addr)) (fp : List Addr) (p : Addr × Obj), Hot1 X.A p → PE (blkH X s H scope (compEnvC scope cl C X.env) fp p) elt te)
    (hs : ∀ x, foldedSetIterable iter X.env x = pure x := by intro _; rfl) : PE X (.ListComp elt [⟨tg, iter, ifs, 0⟩] scope pos) (tLc wi g tt te (own.map (·.2))) := by
  refine ⟨fun pins s σ H Q I h => ?_⟩
  rw [eval_ListComp]
  have hfree : ∀ y ∈ scope.names, y.2 = .free → ∃ c, X.env.cells.lookup y.1 = some c := fun y hy e => (ok.free y hy e).elim (fun k => I.ok.has _ (.inl k)) fun k => I.ok.has _ (.inr k)
  refine wpAny_comprehension_free (use := none) rfl hs (closure_ok hfree) ok.kind (fun y hy e => (ok.uniq y hy).trans (congrArg some e)) (thn (hi.run pins s σ H _ I h) fun xv s1 hx => thn hx fun itv s2 ⟨it, fp, tn, J, H2, e, I2, T, st2, f2, q⟩ => ?_)
  subst e
  refine wpAny_newObj_type (newEnv_comp ?_) (by show 0 ≤ sizeLine; decide)
  generalize hD : s2.heap.objs.size = D
  have hDn : H2 D = none := I2.hok.fresh (Nat.le_of_eq hD)
  obtain ⟨W, ⟨m0, w0⟩, turn⟩ := q D hDn
  generalize es3 : ({ s2 with heap := s2.heap.push { cls := .type "list", data := .seq ([] : List Value).toArray } } : Shared) = s3
  have I3 : Inv X pins σ (upd H2 D (.lst [])) s3 := by
    subst es3
    refine I2.laid (t' := s2.toks) (fun b o e => Heap.get?_push_of_some _ e) (Nat.le_of_eq hD) ⟨Nat.zero_le _, [], 0, .nil, ?_⟩
    rw [← hD]
    exact Heap.get?_push_size _ rfl
  have eh3 : s3.heap = s2.heap.push { cls := .type "list", data := .seq ([] : List Value).toArray } := by subst es3; rfl
  have f3 : ∀ b ∈ fp, FpOk X pins (upd H2 D (.lst [])) b ∧ b < s3.heap.objs.size := fun b hb => by
    obtain ⟨o, eb, _⟩ := T.obj _ _ st2 b hb
    have lt := Heap.lt_size eb
    refine ⟨⟨(upd_ne (by rw [← hD]; exact Nat.ne_of_lt lt)).trans (f2 b hb).1, (f2 b hb).2⟩, ?_⟩
    rw [eh3, Heap.size_push]
    exact Nat.lt_succ_of_lt lt
  have st3 : tn 0 s3.heap := T.keep _ _ _ st2 fun b _ o e => eh3 ▸ Heap.get?_push_of_some _ e
  obtain ⟨p, hp1, hpn⟩ := hot
  have P3 := I3.pin p (List.mem_append_left _ hpn)
  have I4 := block_start I3 ok hN f3
  have hG := hg s3 (upd H2 D (.lst [])) s3.heap.objs.size (cellsFrom (s3.heap.objs.size + 1) scope.names (cloFrom X.env.cells scope.names [])) fp p hp1
  have hT := ht s3 (upd H2 D (.lst [])) s3.heap.objs.size (cellsFrom (s3.heap.objs.size + 1) scope.names (cloFrom X.env.cells scope.names [])) fp p hp1
  have hE := he s3 (upd H2 D (.lst [])) s3.heap.objs.size (cellsFrom (s3.heap.objs.size + 1) scope.names (cloFrom X.env.cells scope.names [])) fp p hp1
  show codeAny _ _ (.compStart (.ListComp elt [⟨tg, iter, ifs, 0⟩] scope pos) 0 (.ref it) (.ref D) (compEnvC scope (cellsFrom (s3.heap.objs.size + 1) scope.names (cloFrom X.env.cells scope.names [])) s3.heap.objs.size X.env)) (compPost (model X.prog X.w) X.A X.xe none (EP X pins σ Q) (.ref D) s3.heap.objs.size) { s3 with heap := pushCells (s3.heap.push { cls := .type "dict", data := .dict #[] }) scope.names }
  have ceL : (compEnvC scope (cellsFrom (s3.heap.objs.size + 1) scope.names (cloFrom X.env.cells scope.names [])) s3.heap.objs.size X.env).locals = s3.heap.objs.size := rfl
  generalize compEnvC scope (cellsFrom (s3.heap.objs.size + 1) scope.names (cloFrom X.env.cells scope.names [])) s3.heap.objs.size X.env = ce at I4 hG hT hE ceL ⊢
  generalize upd H2 D (.lst []) = H3 at I3 I4 hG hT hE w0 f3 P3
  generalize es4 : ({ s3 with heap := pushCells (s3.heap.push { cls := .type "dict", data := .dict #[] }) scope.names } : Shared) = s4 at I4 ⊢
  have up4 : ∀ b o, s3.heap.get? b = some o → s4.heap.get? b = some o := fun b o e => by subst es4; exact pushCells_keeps _ _ _ _ (Heap.get?_push_of_some _ e)
  have st4 : tn 0 s4.heap := T.keep _ _ _ st3 fun b _ o e => up4 b o e
  -- the exception stays pinned in the block
  have I5 : Inv (blkH X s3 H3 scope ce fp p) [] (wipe σ (own.map (·.2))) H3 s4 := (I4.pins_of (pins' := [p]) fun q hq => by
    rw [List.mem_singleton.mp hq]
    exact ⟨up4 _ _ P3.1, P3.2.1, fun z => Nat.ne_of_lt (Heap.lt_size P3.1) (z.trans ceL), fun hm => (List.mem_cons.mp (I3.stkSub p.1 hm)).elim P3.2.2.1 P3.2.2.2.1, P3.2.2.2.2⟩).toTry _
  have stat : ∀ {σ' : St} {H' : Hp} {s' : Shared}, Inv (blkH X s3 H3 scope ce fp p) [] σ' H' s' → (∀ b ∈ fp, H' b = none) → ∀ b ∈ fp, FpOk (blkH X s3 H3 scope ce fp p) [] H' b := fun {σ' H' s'} I' hn b hb =>
    ⟨hn b hb, (I'.ok.exf b hb).1, I'.ok.exfs b hb, .inl hb, fun x c e => (I'.ok.exf b hb).2 x c e, fun q hq => by
      have : q = p := List.mem_singleton.mp (by rw [List.append_nil] at hq; exact hq)
      rw [this]
      exact (f3 b hb).1.2.2.2.2.2 p (List.mem_append_left _ hpn)⟩
  have hotB : HotC (blkH X s3 H3 scope ce fp p) := blkH_hot hp1
  refine codeAny_compStart_list ?_ (T.self X.A 0 _ _ _ st4 ?_) <;>
  · refine compLoop_any (fun n s' => ∃ i H', Inv (blkH X s3 H3 scope ce fp p) [] (wipe σ (own.map (·.2))) H' s' ∧ tn i s'.heap ∧ (∀ b ∈ fp, H' b = none) ∧ W i n H') ?_ m0 ⟨0, H3, I5, st4, fun b hb => (f3 b hb).1.1, w0⟩
    rintro n sa ⟨i, Ha, Ia, sta, na, wa⟩
    rcases turn i n Ha wa with ⟨stop, qq⟩ | ⟨go, Nx, hNx, step⟩
    · refine thnF (T.done (blkH X s3 H3 scope ce fp p) rfl rfl rfl hotB i [] sa _ Ha (fun _ _ => False) Ia (stat Ia na) sta stop) fun r sb ⟨hr, Ib⟩ => ?_
      subst hr
      have Ic : Inv X pins σ Ha sb := I3.call' (ch := fp) Ib.os Ib.base Ib.hok Ib.bare fun b hb => ⟨(f3 b hb).1.2.2.2.1, (f3 b hb).1.2.1, (f3 b hb).1.2.2.2.2.1, (f3 b hb).1.2.2.2.2.2⟩
      have nC : Ha s3.heap.objs.size = none := ceL ▸ (show Ha ce.locals = none from Ib.free)
      obtain ⟨m, hn, _⟩ := Ib.loc
      obtain ⟨f0, f1, _, f3', f4, f5⟩ := I3.fpOk (Nat.le_refl _) nC
      exact ⟨m, ceL ▸ (show sb.heap.Ns ce.locals m from hn), fun h'' sB => ⟨.ref D, Ha, Ic.turned (t' := sb.toks) (fun b o hb e => (sB.2 b hb).trans e) f0 f1 f3' f4 f5, rfl, qq⟩⟩
    · refine thnF (T.item (blkH X s3 H3 scope ce fp p) rfl rfl rfl hotB i [] sa _ Ha (fun _ _ => False) Ia (stat Ia na) sta go) fun r sb ⟨u, hr, hb⟩ => ?_
      subst hr
      refine thnF hb fun _ sc ⟨x, Hc, Ic, rc, yc, stc, nc⟩ => ?_
      refine thnF (hG.run _ sc _ Hc x u _ (Ic.pinned (stat Ic nc) (T.obj _ _ stc)) rc (step x Hc yc)) fun _ sd ⟨σd, Hd, Id, wd, qd⟩ => ?_
      refine thnF (hT.run _ sd σd Hd _ Id qd) fun b se ⟨He, Ie, qe⟩ => ?_
      have fin : ∀ {s' : Shared} {H' : Hp}, Inv (blkH X s3 H3 scope ce fp p) ([] ++ pinsAt fp sc.heap) σd H' s' → Nx H' → ∃ m, m < n ∧ ∃ i H', Inv (blkH X s3 H3 scope ce fp p) [] (wipe σ (own.map (·.2))) H' s' ∧ tn i s'.heap ∧ (∀ b ∈ fp, H' b = none) ∧ W i m H' := fun {s' H'} I' nx => by
        obtain ⟨m', lt, w'⟩ := hNx H' nx
        have kp : ∀ b ∈ fp, ∀ o, sc.heap.get? b = some o → s'.heap.get? b = some o ∧ H' b = none := fun b hb o e => ⟨(I'.pin (b, o) (List.mem_append_right _ (List.mem_append_right _ (mem_pinsAt hb e)))).1, (I'.pin (b, o) (List.mem_append_right _ (List.mem_append_right _ (mem_pinsAt hb e)))).2.1⟩
        refine ⟨m', lt, i + 1, H', (I'.unpinned (pins := [])).weak (by rw [← wd, wipe_length]) (fun j v e => (wipe_some (wd ▸ e)).1), T.keep _ _ _ stc fun b hb o e => (kp b hb o e).1, fun b hb => ?_, w'⟩
        obtain ⟨o, eo, _⟩ := T.obj _ _ stc b hb
        exact (kp b hb o eo).2
      cases b with
      | false =>
        simp only [Bool.false_eq_true, if_false] at qe ⊢
        exact fin Ie qe
      | true =>
        simp only [if_true] at qe ⊢
        refine thnF (hE.run _ se σd He _ Ie qe) fun z sf ⟨yv, Hf, If, rf, acc, hDf, hzf, nx⟩ => ?_
        exact app_ok (X := blkH X s3 H3 scope ce fp p) If hDf hzf rf fun sg Ig => fin Ig nx
end
end MV
namespace MV
open PySem PySem.Spec PyProof.Rows L2 L2H He
structure XIH (X : Cx) (J : Jx) (W : WX) (tg iter : Expr) (q : Bool) (f : SemI) : Prop where
  pi : PIH X tg iter (tI J W q f)
structure FnCH (P : Program) (w : World) (K : PySem.W.Frag) (mg : Str → Option Value) (base : Heap) (k : Nat) (f : Addr) (sp : Sp) : Prop where
  ex : ∃ fd ps, FnH P w K mg base (L2N.CX P w) k f fd ps sp ∧ Binds K fd ps []
  kp : PySem.W.keepIn K (.ref f) = true
theorem FnCH.at {X : Cx} {W : WX} {k j : Nat} {f : Addr} {sp : Sp} (F : FnCH X.prog X.w X.K X.mg X.base j f sp) (hr : RoomH k X.A) (hj : j ≤ k) (hot : HotC X) (tk : Takes X W) : CallAt X W f sp := by
  obtain ⟨⟨fd, ps, F, hb⟩, _⟩ := F
  exact fun pins σ H s Q us vs I r h => run_fnH (E := WE W) F (hr.mono hj) hot hb (passAt tk σ) I r h
theorem fn_mvH {P : Program} {w : World} {K : PySem.W.Frag} {mg : Str → Option Value} {base : Heap} {x qual : Str} {params : Arguments} {body : List Stmt} {scope : Scope} {dvs : List V} {kws : List (Str × V)} {f : Addr} {fd : FuncData} {N ps : List Str} {k : Nat} {pm : List PM} {rm : Bool} {bd : SemS}
    (F : FunD K x qual params body scope dvs kws f fd) (S : FnScope N ps scope) (hp : pm.length = ps.length)
    (hb : ∀ (cdv : Value) (A : Around) (outer : List Env) (s : Shared) (H : Hp) (E : XK) (p : Addr × Obj) (J : Jx), J.K = K → J.fx = none → RoomH k (A.deeper (envOfC qual scope s.heap.objs.size f cdv)) → HotC (cxH (L2N.CX P w) P w K mg base N qual scope f cdv A outer s H E p) →
      XB (cxH (L2N.CX P w) P w K mg base N qual scope f cdv A outer s H E p) J (fun cls d _ H => E cls d H) body bd) :
    FnH P w K mg base (L2N.CX P w) (k + 1) f fd ps (spF K pm rm (runB pm rm N.length bd)) := by
  have hpl : ps.length ≤ N.length := by have := congrArg List.length S.pre; rw [List.length_take] at this; omega
  obtain ⟨oc, od, dV, kV, doc, pm', an, cdv, ct, osl, rfl, lk, hcd, _, _⟩ := F.ex
  refine fn_ofH lk hcd S (fun vs H Q E h => ?_) fun A outer s H vs Q E p hot hr h => ?_
  · obtain ⟨F0, ios, ds, _, _, a, _⟩ := h
    rw [(a.len 0).2.1, hp]
  · obtain ⟨F0, ios, ds, hF, nd, a, m⟩ := h
    exact ⟨_, (hb cdv A outer s H E p ⟨K, H, F0, (ioIx pm 0).zip ios, none⟩ rfl rfl hr ⟨p, hot, List.mem_singleton.mpr rfl⟩).pss, initE pm ds N.length, [], entry (by rw [hp]; exact hpl) hF nd a (argsR_io a), fun _ h => (by simp at h), body_ends (a.len 0).2.2 m⟩
theorem tk_cxH {P : Program} {w : World} {K : PySem.W.Frag} {mg : Str → Option Value} {base : Heap} {N : List Str} {qual : Str} {scope : Scope} {f : Addr} {cdv : Value} {A : Around} {outer : List Env} {s : Shared} {H : Hp} {E : XK} {p : Addr × Obj} :
    Takes (cxH (L2N.CX P w) P w K mg base N qual scope f cdv A outer s H E p) (fun cls d _ H => E cls d H) := L2N.takes_of rfl rfl rfl rfl
theorem po_cxH {P : Program} {w : World} {K : PySem.W.Frag} {mg : Str → Option Value} {base : Heap} {N : List Str} {qual : Str} {scope : Scope} {f : Addr} {cdv : Value} {A : Around} {outer : List Env} {s : Shared} {H : Hp} {E : XK} {p : Addr × Obj} :
    PassesOwn (model P w) (cxH (L2N.CX P w) P w K mg base N qual scope f cdv A outer s H E p).A (cxH (L2N.CX P w) P w K mg base N qual scope f cdv A outer s H E p).env (cxH (L2N.CX P w) P w K mg base N qual scope f cdv A outer s H E p).xe := passes_of (X := cxH (L2N.CX P w) P w K mg base N qual scope f cdv A outer s H E p) rfl
theorem un64H {k : Nat} {A : Around} (r : RoomH k A) : A.units + 64 < cLine := by have := r.un; omega
theorem suite_hot {X : Cx} {a : Addr} {oe : Obj} {pn : List (Addr × Obj)} {cls : Value} {d : Option Addr} (hz : L2N.Zn cls d oe) (hf : ∃ vs, oe.data = .fields vs) : HotC (X.suite a ((a, oe) :: pn)) := by
  obtain ⟨vs, e⟩ := hf
  exact ⟨(a, oe), ⟨rfl, vs, e, hz.2.2 vs e⟩, List.mem_cons_self⟩
theorem suite_room {k : Nat} {X : Cx} {a : Addr} {pn : List (Addr × Obj)} (r : Room k X.A) : RoomH k (X.suite a pn).A := ⟨r.dp, r.un⟩
section
variable {X : Cx} {J : Jx} {W : WX} {e a b c tg iter elt : Expr} {es : List Expr} {q qa qb qc qe : Bool} {fa fb : Sem1} {fs : SemA} {pos p apos : Pos} {k j : Nat}
theorem h_list (ha : XE X J W iter qa fa) : XIH X J W tg iter qa (iSrc fa kItL) := ⟨(pi_listH ha.pe).imp fun σ H R h => cv_list h⟩
theorem h_call {pm : List PM} {rm : Bool} {fn : Fn} {x : Str} {fA : Addr} (F : FnCH X.prog X.w X.K X.mg X.base j fA (spF X.K pm rm fn)) (hm : X.mg x = some (.ref fA)) (hot : HotC X) (hr : RoomH k X.A) (tk : Takes X W) (hK : J.K = X.K) (ha : XA X J W (e :: es) q fs) (hj : j ≤ k := by decide) (hg : Gl X x := by rfl)
    (hdb : (x == ("__debug__" : Str)) = false := by decide) (he : starEach (e :: es) X.env = (false, eval e X.env) :: starEach es X.env := by rfl) (hpl : (backTo pos (starEach es X.env)).any (·.1) = false := by rfl) :
    XE X J W (.Call (.Name x p) (e :: es) [] pos) false (fCall pm rm fn fs) := xe_call hK (F.at hr hj hot tk) hg hm F.kp ha hdb he hpl
theorem h_lc {src : SemI} {tgt : SemG} {ix : List Nat} {cond : SemB} {felt : Sem1} {ifs : List Expr} {scope : Scope} {own : List (Str × Nat)} (hot : HotC X) (hN : X.N.Nodup) (hi : XIH X J W tg iter q src)
    (hg : ∀ (s : Shared) (H : Hp) (C : Addr) (cl : List (Str × Addr)) (fp : List Addr) (p : Addr × Obj), Hot1 X.A p → XG (blkH X s H scope (compEnvC scope cl C X.env) fp p) J tg ix tgt)
    (ht : ∀ (s : Shared) (H : Hp) (C : Addr) (cl : List (Str × Addr)) (fp : List Addr) (p : Addr × Obj), Hot1 X.A p → XPs (blkH X s H scope (compEnvC scope cl C X.env) fp p) J WN ifs qc cond)
    (he : ∀ (s : Shared) (H : Hp) (C : Addr) (cl : List (Str × Addr)) (fp : List Addr) (p : Addr × Obj), Hot1 X.A p → XE (blkH X s H scope (compEnvC scope cl C X.env) fp p) J WN elt qe felt)
    (ok : BlkOk X.N X.env.scope scope own := by exact ⟨rfl, by decide +kernel, by decide +kernel, by decide +kernel, by decide +kernel⟩) (hix : ∀ i ∈ ix, i ∈ own.map (·.2) := by decide) (hs : ∀ x, foldedSetIterable iter X.env x = pure x := by intro _; rfl)
    (nf : ∀ i ∈ own.map (·.2), NF J i := by first | exact fun _ _ => nf_none (by assumption) | exact nfs_ne (by assumption) rfl) :
    XE X J W (.ListComp elt [⟨tg, iter, ifs, 0⟩] scope pos) (q && (qc && qe)) (fLc (qc && qe) (own.map (·.2)) src tgt cond felt) :=
  ⟨(pe_lcH hot hN hi.pi ok (fun s H C cl fp p hp => (hg s H C cl fp p hp).pg) (fun s H C cl fp p hp => (ht s H C cl fp p hp).pts) (fun s H C cl fp p hp => (he s H C cl fp p hp).pe) hs).imp fun σ H Q h => lc_ok nf hix h⟩
end
end MV
namespace MV
open PySem PySem.Spec PyProof.Rows L2 He
structure InsO (K : PySem.W.Frag) (c : Str) : Prop where
  ha : PySem.W.findIn K (.ref (ga K c)) "__class__" = some (some (.builtin "object.__class__"))
  hn : PySem.W.specialIn K (.builtin "object.__class__") "__get__" = some (some (.builtin "getset_descriptor.__get__"))
  htk : PySem.W.takesIn K (.builtin "object.__class__") = some true
  hm : PySem.W.mroIn K (ga K c) (.type "object") = some true
section
variable {K : PySem.W.Frag}
theorem insO_ok {c : Str} (h : (Fm.insO c).ok K = true) : InsO K c := by
  obtain ⟨h1, h⟩ := ba h
  obtain ⟨h2, h⟩ := ba h
  obtain ⟨h3, h4⟩ := ba h
  exact ⟨eqO_ok h1, eqO_ok h2, of_decide_eq_true h3, of_decide_eq_true h4⟩
structure KiA (K : PySem.W.Frag) (c : Str) : Prop where
  non : PySem.W.kitOne K (.type "NoneType") (.ref (ga K c)) = some false
  bl : PySem.W.kitOne K (.type "bool") (.ref (ga K c)) = some false
  int : PySem.W.kitOne K (.type "int") (.ref (ga K c)) = some false
  str : PySem.W.kitOne K (.type "str") (.ref (ga K c)) = some false
  lst : PySem.W.kitOne K (.type "list") (.ref (ga K c)) = some false
  tup : PySem.W.kitOne K (.type "tuple") (.ref (ga K c)) = some false
theorem kiA_ok {c : Str} (h : (Fm.kiA c).ok K = true) : KiA K c := by
  obtain ⟨h1, h⟩ := ba h
  obtain ⟨h2, h⟩ := ba h
  obtain ⟨h3, h⟩ := ba h
  obtain ⟨h4, h⟩ := ba h
  obtain ⟨h5, h6⟩ := ba h
  exact ⟨of_decide_eq_true h1, of_decide_eq_true h2, of_decide_eq_true h3, of_decide_eq_true h4, of_decide_eq_true h5, of_decide_eq_true h6⟩
def isIns (t : List (Str × Bool)) : Vl → Option Bool
  | .ins c _ => t.lookup c
  | .scr _ => none
  | _ => some false
def ITab (K : PySem.W.Frag) (u : Str) : List (Str × Bool) → Prop
  | [] => True
  | (c, b) :: r => (Cls K (ga K c) ∧ InsO K c ∧ PySem.W.kitOne K (.ref (ga K c)) (.ref (ga K u)) = some b) ∧ ITab K u r
theorem it_nil {u : Str} : ITab K u [] := True.intro
theorem it_cons {u c : Str} {b : Bool} {r : List (Str × Bool)} (h1 : Cls K (ga K c)) (h2 : (Fm.insO c).ok K = true) (h3 : PySem.W.kitOne K (.ref (ga K c)) (.ref (ga K u)) = some b) (h : ITab K u r) : ITab K u ((c, b) :: r) := ⟨⟨h1, insO_ok h2, h3⟩, h⟩
theorem ITab.look {u : Str} : ∀ {t : List (Str × Bool)} {c : Str} {b : Bool}, ITab K u t → t.lookup c = some b → Cls K (ga K c) ∧ InsO K c ∧ PySem.W.kitOne K (.ref (ga K c)) (.ref (ga K u)) = some b
  | [], _, _, _, e => by cases e
  | (c', b') :: r, c, b, ⟨h, hr⟩, e => by
    rw [List.lookup_cons] at e
    cases q : c == c' with
    | true =>
      rw [q] at e
      have e : b' = b := by injection e
      have q : c = c' := eq_of_beq q
      rw [q, ← e]; exact h
    | false => rw [q] at e; exact ITab.look hr e
theorem isOk_ins {u : Str} {t : List (Str × Bool)} (hA : (Fm.kiA u).ok K = true) (hT : ITab K u t) : IsOk K (.ref (ga K u)) (isIns t) := fun H d v b r e => by
  have A := kiA_ok hA
  cases d with
  | non => cases e; cases (show v = .non from r); exact ⟨_, .base .non, A.non⟩
  | bl x => cases e; cases (show v = .bl x from r); exact ⟨_, .base (.bl x), A.bl⟩
  | int x => cases e; cases (show v = .int x from r); exact ⟨_, .base (.int x), A.int⟩
  | str x => cases e; cases (show v = .str x from r); exact ⟨_, .base (.str x), A.str⟩
  | lst xs => cases e; obtain ⟨a, vs, rfl, g, _⟩ := r; exact ⟨_, .base (.lst g), A.lst⟩
  | tup xs => cases e; obtain ⟨a, vs, rfl, g, _⟩ := r; exact ⟨_, .base (.tup g), A.tup⟩
  | ins c fs =>
    obtain ⟨a, dx, ws, rfl, g, _⟩ := r
    obtain ⟨h1, h2, h3⟩ := hT.look (show t.lookup c = some b from e)
    exact ⟨_, .base (.ins g h1 h2.ha h2.hn h2.htk h2.hm), h3⟩
  | scr ns => cases e
end
section
variable {X : Cx} {J : Jx} {W : WX} {a : Expr} {fa : Sem1} {qa : Bool} {p pos : Pos} {x : Str} {p2 : Pos}
theorem w_isiO {u : Str} {t : List (Str × Bool)} (hK : J.K = X.K) (hA : (Fm.kiA u).ok X.K = true) (hT : ITab X.K u t) (hm : X.mg "isinstance" = none) (hc : PE X (.Name x p2) (tC (.ref (ga X.K u)))) (ha : XE X J W a qa fa) (hg : Gl X "isinstance" := by rfl)
    (he : starEach [a, .Name x p2] X.env = (false, eval a X.env) :: starEach [.Name x p2] X.env := by rfl) (he2 : starEach [.Name x p2] X.env = (false, eval (.Name x p2) X.env) :: starEach [] X.env := by rfl) (hpl : (backTo pos (starEach [.Name x p2] X.env)).any (·.1) = false := by rfl) :
    XE X J W (.Call (.Name "isinstance" p) [a, .Name x p2] [] pos) qa (fOne fa (kIsi (isIns t))) := xe_isi hK (isOk_ins hA hT) (.own (ga X.K u)) hg hm (by decide +kernel) ha hc he he2 hpl
end
end MV
namespace MV
open PySem PySem.Spec PyProof.Rows L2 He
structure OwnI (K : PySem.W.Frag) (c m r : Str) : Prop where
  s : PySem.W.findIn K (.ref (ga K c)) m = some (some (.ref (ma K (ga K c) m)))
  f : PySem.W.isFn K (.ref (ma K (ga K c) m)) = true
  sf : PySem.W.selfFirst K (ga K c) = true
  rn : PySem.W.findIn K (.ref (ga K c)) r = some none
  h1 : ∃ fo, PySem.W.findIn K (.type "int") m = some fo
  h2 : ∃ ro, PySem.W.findIn K (.type "int") r = some ro
  sb : PySem.W.subIn K (.type "int") (.ref (ga K c)) = some false
end MV
namespace MV
open PySem PySem.Spec PyProof.Rows L2 He
inductive Oc (l w r ν : Type) where
  | next (a : ν)
  | brk (s : l)
  | cont (s : l)
  | ret (x : r) (o : w)
  | exc (c : Str) (fs : List (Str × Vl)) (o : w)
  | bad
inductive TF (w r : Type) where
  | ret (x : r) (o : w)
  | exc (c : Str) (fs : List (Str × Vl)) (o : w)
  | bad
section
variable {l l' w w' r r' ν α β γ : Type}
def Oc.bind (t : Oc l w r α) (f : α → Oc l w r β) : Oc l w r β := match t with
  | .next a => f a
  | .brk s => .brk s
  | .cont s => .cont s
  | .ret x o => .ret x o
  | .exc c fs o => .exc c fs o
  | .bad => .bad
@[simp] theorem Oc.bind_next (a : α) (f : α → Oc l w r β) : (Oc.next a : Oc l w r α).bind f = f a := rfl
@[simp] theorem Oc.bind_brk (s : l) (f : α → Oc l w r β) : (Oc.brk s : Oc l w r α).bind f = .brk s := rfl
@[simp] theorem Oc.bind_cont (s : l) (f : α → Oc l w r β) : (Oc.cont s : Oc l w r α).bind f = .cont s := rfl
@[simp] theorem Oc.bind_ret (x : r) (o : w) (f : α → Oc l w r β) : (Oc.ret x o : Oc l w r α).bind f = .ret x o := rfl
@[simp] theorem Oc.bind_exc (c : Str) (fs : List (Str × Vl)) (o : w) (f : α → Oc l w r β) : (Oc.exc c fs o : Oc l w r α).bind f = .exc c fs o := rfl
@[simp] theorem Oc.bind_bad (f : α → Oc l w r β) : (Oc.bad : Oc l w r α).bind f = .bad := rfl
def iv (lo : Int) (n : Nat) : List Int := (List.range n).map fun (k : Nat) => lo + (k : Int)
def letO (x : α) (f : α → β) : β := f x
theorem letO_eq (x : α) (f : α → β) : letO x f = f x := rfl
def Oc.run (d : ν → TF w r) (t : Oc Empty w r ν) : TF w r := match t with
  | .next a => d a
  | .brk _ => .bad
  | .cont _ => .bad
  | .ret x o => .ret x o
  | .exc c fs o => .exc c fs o
  | .bad => .bad
@[simp] theorem Oc.run_next (d : ν → TF w r) (a : ν) : (Oc.next a : Oc Empty w r ν).run d = d a := rfl
@[simp] theorem Oc.run_ret (d : ν → TF w r) (x : r) (o : w) : (Oc.ret x o : Oc Empty w r ν).run d = .ret x o := rfl
@[simp] theorem Oc.run_exc (d : ν → TF w r) (c : Str) (fs : List (Str × Vl)) (o : w) : (Oc.exc c fs o : Oc Empty w r ν).run d = .exc c fs o := rfl
@[simp] theorem Oc.run_bad (d : ν → TF w r) : (Oc.bad : Oc Empty w r ν).run d = .bad := rfl
def callO (o : w) (t : TF Unit α) : Oc l w r α := match t with
  | .ret x _ => .next x
  | .exc c fs _ => .exc c fs o
  | .bad => .bad
@[simp] theorem callO_ret (o : w) (x : α) (u : Unit) : callO (l := l) (r := r) o (.ret x u) = .next x := rfl
@[simp] theorem callO_exc (o : w) (c : Str) (fs : List (Str × Vl)) (u : Unit) : callO (l := l) (r := r) (α := α) o (.exc c fs u) = .exc c fs o := rfl
@[simp] theorem callO_bad (o : w) : callO (l := l) (r := r) (α := α) o .bad = .bad := rfl
def callI (g : w' → w) (t : TF w' α) : Oc l w r (α × w') := match t with
  | .ret x o => .next (x, o)
  | .exc c fs o => .exc c fs (g o)
  | .bad => .bad
@[simp] theorem callI_ret (g : w' → w) (x : α) (o : w') : callI (l := l) (r := r) g (.ret x o) = .next (x, o) := rfl
@[simp] theorem callI_exc (g : w' → w) (c : Str) (fs : List (Str × Vl)) (o : w') : callI (l := l) (r := r) (α := α) g (.exc c fs o) = .exc c fs (g o) := rfl
@[simp] theorem callI_bad (g : w' → w) : callI (l := l) (r := r) (α := α) g .bad = .bad := rfl
def liftO (t : Oc Empty w r α) : Oc l w r α := match t with
  | .next a => .next a
  | .ret x o => .ret x o
  | .exc c fs o => .exc c fs o
  | _ => .bad
@[simp] theorem liftO_next (a : α) : (liftO (.next a : Oc Empty w r α) : Oc l w r α) = .next a := rfl
@[simp] theorem liftO_exc (c : Str) (fs : List (Str × Vl)) (o : w) : (liftO (.exc c fs o : Oc Empty w r α) : Oc l w r α) = .exc c fs o := rfl
@[simp] theorem liftO_bad : (liftO (.bad : Oc Empty w r α) : Oc l w r α) = .bad := rfl
def forO (body : α → l' → Oc l' w r l') : List α → l' → Oc l w r l'
  | [], s => .next s
  | x :: xs, s => match body x s with
    | .next s' => forO body xs s'
    | .cont s' => forO body xs s'
    | .brk s' => .next s'
    | .ret x o => .ret x o
    | .exc c fs o => .exc c fs o
    | .bad => .bad
def compO (f : α → Oc Empty Unit Unit (Option β)) : List α → List β → Oc l w r (List β)
  | [], acc => .next acc
  | x :: xs, acc => match f x with
    | .next none => compO f xs acc
    | .next (some y) => if acc.length < sizeLine then compO f xs (acc ++ [y]) else .bad
    | _ => .bad
def lcO (xs : List α) (p : α → Prop) [DecidablePred p] (f : α → β) : Oc l w r (List β) := if xs.length ≤ sizeLine then .next ((xs.filter fun x => decide (p x)).map f) else .bad
def lmO (xs : List α) (f : α → β) : Oc l w r (List β) := if xs.length ≤ sizeLine then .next (xs.map f) else .bad
end
inductive Sl where
  | no
  | jk
  | vl (s : Sv)
def nio : Option Sv → Prop
  | some ⟨.io, _⟩ => False
  | _ => True
def SlR : Sl → Option Sv → Prop
  | .no, o => o = none
  | .jk, o => nio o
  | .vl s, o => o = some s
def EnvR : List Sl → En → Prop
  | [], ρ => ρ = []
  | a :: Γ, ρ => ∃ o r, ρ = o :: r ∧ SlR a o ∧ EnvR Γ r
def njM : Md → Prop
  | .io => False
  | _ => True
def njS : Sl → Prop
  | .vl s => njM s.m
  | _ => True
def isNoS : Sl → Prop
  | .no => True
  | _ => False
def isVlS (t : Sv) : Sl → Prop
  | .vl s => s = t
  | _ => False
def WkS (a b : Sl) : Prop := match b with
  | .jk => njS a
  | .no => isNoS a
  | .vl t => isVlS t a
def Wke : List Sl → List Sl → Prop
  | [], [] => True
  | a :: Γ, b :: Δ => WkS a b ∧ Wke Γ Δ
  | _, _ => False
section
variable {Γ Δ : List Sl} {ρ : En} {i : Nat}
theorem EnvR.get : ∀ {Γ : List Sl} {ρ : En} {i : Nat} {a : Sl}, EnvR Γ ρ → Γ[i]? = some a → ∃ o, ρ[i]? = some o ∧ SlR a o
  | [], _, _, _, _, e => by simp at e
  | b :: Γ, _, 0, a, ⟨o, r, rfl, h, _⟩, e => by
    simp at e; subst e
    exact ⟨o, rfl, h⟩
  | b :: Γ, _, i + 1, a, ⟨o, r, rfl, _, t⟩, e => by
    obtain ⟨o', h1, h2⟩ := EnvR.get (i := i) t (by simpa using e)
    exact ⟨o', by simpa using h1, h2⟩
theorem EnvR.var {s : Sv} (h : EnvR Γ ρ) (e : Γ[i]? = some (.vl s)) : ρ[i]? = some (some s) := by
  obtain ⟨o, h1, h2⟩ := h.get e
  rw [h1]; exact congrArg some h2
theorem EnvR.set {a : Sl} {o : Option Sv} (ho : SlR a o) : ∀ {i : Nat} {Γ : List Sl} {ρ : En}, EnvR Γ ρ → EnvR (Γ.set i a) (ρ.set i o)
  | _, [], _, h => by rw [show _ = [] from h]; exact rfl
  | 0, b :: Γ, _, ⟨p, r, rfl, _, t⟩ => ⟨o, r, rfl, ho, t⟩
  | i + 1, b :: Γ, _, ⟨p, r, rfl, h, t⟩ => ⟨p, r.set i o, rfl, h, EnvR.set ho t⟩
theorem WkS.slR {a b : Sl} {o : Option Sv} (w : WkS a b) (h : SlR a o) : SlR b o := by
  cases b with
  | jk =>
    cases a with
    | no => rw [show o = none from h]; exact trivial
    | jk => exact h
    | vl s =>
      rw [show o = some s from h]
      obtain ⟨m, d⟩ := s
      cases m <;> first | exact (w : False).elim | exact trivial
  | no =>
    cases a with
    | no => exact h
    | jk => exact (w : False).elim
    | vl s => exact (w : False).elim
  | vl t =>
    cases a with
    | no => exact (w : False).elim
    | jk => exact (w : False).elim
    | vl s => rw [← (w : s = t)]; exact h
theorem Wke.env : ∀ {Γ Δ : List Sl} {ρ : En}, Wke Γ Δ → EnvR Γ ρ → EnvR Δ ρ
  | [], [], _, _, h => h
  | a :: Γ, b :: Δ, _, ⟨w, t⟩, ⟨o, r, rfl, h, k⟩ => ⟨o, r, rfl, w.slR h, Wke.env t k⟩
  | [], _ :: _, _, w, _ => w.elim
  | _ :: _, [], _, w, _ => w.elim
def noIoG (Γ : List Sl) (i : Nat) : Bool := match Γ[i]? with
  | some (.vl ⟨.io, _⟩) => false
  | none => false
  | _ => true
theorem noIoG.env (h : noIoG Γ i = true) (e : EnvR Γ ρ) : noIo ρ i = true := by
  unfold noIoG at h
  cases g : Γ[i]? with
  | none => rw [g] at h; cases h
  | some a =>
    rw [g] at h
    obtain ⟨o, h1, h2⟩ := e.get g
    unfold noIo
    rw [h1]
    cases a with
    | no => rw [show o = none from h2]
    | jk =>
      have h2 : nio o := h2
      cases o with
      | none => rfl
      | some s => obtain ⟨m, d⟩ := s; cases m <;> first | exact h2.elim | rfl
    | vl s =>
      rw [show o = some s from h2]
      obtain ⟨m, d⟩ := s
      cases m <;> first | rfl | cases h
end
structure Sur (l w r : Type) where
  lp : l → En → Prop
  rt : r → w → Sv → En → Prop
  ex : w → En → Prop
section
variable {l w r ν : Type}
def RSo (Γ : List Sl) (f : SemS) (t : Oc l w r ν) (C : Sur l w r) (P : ν → Sr → Prop) : Prop := ∀ ρ, EnvR Γ ρ → match t with
  | .next a => P a (f ρ)
  | .brk s => ∃ ρ', f ρ = .brk ρ' ∧ C.lp s ρ'
  | .cont s => ∃ ρ', f ρ = .cont ρ' ∧ C.lp s ρ'
  | .ret x o => ∃ s ρ', f ρ = .ret s ρ' ∧ C.rt x o s ρ'
  | .exc c fs o => ∃ ρ', f ρ = .exc c fs ρ' ∧ C.ex o ρ'
  | .bad => True
structure RS (Γ : List Sl) (f : SemS) (t : Oc l w r ν) (C : Sur l w r) (P : ν → Sr → Prop) : Prop where
  go : RSo Γ f t C P
instance {Γ : List Sl} {f : SemS} {t : Oc l w r ν} {C : Sur l w r} {P : ν → Sr → Prop} : CoeFun (RS Γ f t C P) (fun _ => RSo Γ f t C P) := ⟨fun h => h.go⟩
def PN (G : ν → List Sl) : ν → Sr → Prop := fun a r => ∃ ρ', r = .next ρ' ∧ EnvR (G a) ρ'
def PF : ν → Sr → Prop := fun _ _ => False
def PV (v : ν → Sv) (G : ν → List Sl) : ν → Sr → Prop := fun a r => ∃ ρ', r = .ret (v a) ρ' ∧ EnvR (G a) ρ'
def Ev {α : Type} (Γ : List Sl) (f : En → Rs α) (a : α) : Prop := ∀ ρ, EnvR Γ ρ → f ρ = .ok a ρ
end
abbrev eI : Int → Vl := Vl.int
abbrev eB : Bool → Vl := Vl.bl
def strOf (cs : List Char) : Str := ⟨(cs.map Char.toNat).toArray⟩
def eS (cs : List Char) : Vl := .str (strOf cs)
abbrev eV : Vl → Vl := id
def eL {α : Type} (e : α → Vl) (xs : List α) : Vl := .lst (xs.map e)
def eT {α : Type} (e : α → Vl) (xs : List α) : Vl := .tup (xs.map e)
def e2 {α β : Type} (a : α → Vl) (b : β → Vl) (x : α × β) : Vl := .tup [a x.1, b x.2]
def e3 {α β γ : Type} (a : α → Vl) (b : β → Vl) (c : γ → Vl) (x : α × β × γ) : Vl := .tup [a x.1, b x.2.1, c x.2.2]
def e4 {α β γ δ : Type} (a : α → Vl) (b : β → Vl) (c : γ → Vl) (d : δ → Vl) (x : α × β × γ × δ) : Vl := .tup [a x.1, b x.2.1, c x.2.2.1, d x.2.2.2]
def e5 {α β γ δ ε : Type} (a : α → Vl) (b : β → Vl) (c : γ → Vl) (d : δ → Vl) (f : ε → Vl) (x : α × β × γ × δ × ε) : Vl := .tup [a x.1, b x.2.1, c x.2.2.1, d x.2.2.2.1, f x.2.2.2.2]
abbrev sv (d : Vl) : Sv := ⟨.shr, d⟩
def FOo {w r : Type} (eo : w → List Vl) (er : r → Vl) (t : TF w r) (f : FRes) : Prop := match t with
  | .ret x o => f = .ret (er x) (eo o)
  | .exc c fs o => f = .exc c fs (eo o)
  | .bad => True
def FOoI {r : Type} (er : r → Vl) (t : TF Unit r) (f : FRes) : Prop := match t with
  | .ret x _ => f = .ret .non [er x]
  | .exc c fs _ => ∃ d, f = .exc c fs [d]
  | .bad => True
structure FOk {w r : Type} (eo : w → List Vl) (er : r → Vl) (t : TF w r) (f : FRes) : Prop where
  go : FOo eo er t f
structure FOkI {r : Type} (er : r → Vl) (t : TF Unit r) (f : FRes) : Prop where
  go : FOoI er t f
def outsG : List PM → Nat → List Sl → Option (List Vl)
  | [], _, _ => some []
  | .io :: pm, j, Γ => (match Γ[j]? with
    | some (.vl ⟨.io, d⟩) => (outsG pm (j + 1) Γ).map (d :: ·)
    | _ => none)
  | _ :: pm, j, Γ => outsG pm (j + 1) Γ
theorem outsG.env : ∀ {pm : List PM} {j : Nat} {Γ : List Sl} {ρ : En} {outs : List Vl}, outsG pm j Γ = some outs → EnvR Γ ρ → outsOf pm j ρ = some outs
  | [], _, _, _, _, h, _ => h
  | .sca :: pm, j, Γ, ρ, outs, h, e => outsG.env (pm := pm) (j := j + 1) h e
  | .bor :: pm, j, Γ, ρ, outs, h, e => outsG.env (pm := pm) (j := j + 1) h e
  | .shr :: pm, j, Γ, ρ, outs, h, e => outsG.env (pm := pm) (j := j + 1) h e
  | .io :: pm, j, Γ, ρ, outs, h, e => by
    have h : (match Γ[j]? with
      | some (.vl ⟨.io, d⟩) => (outsG pm (j + 1) Γ).map (d :: ·)
      | _ => none) = some outs := h
    split at h
    · rename_i d g
      cases k : outsG pm (j + 1) Γ with
      | none => rw [k] at h; cases h
      | some os =>
        rw [k] at h
        have ih := outsG.env k e
        show (match ρ[j]? with
          | some (some ⟨.io, d⟩) => (outsOf pm (j + 1) ρ).map (d :: ·)
          | _ => none) = some outs
        rw [e.var g]
        show (outsOf pm (j + 1) ρ).map (d :: ·) = some outs
        rw [ih]; exact h
    · cases h
section
variable {w r ν : Type}
def surF (pm : List PM) (rm : Bool) (eo : w → List Vl) (er : r → Vl) : Sur Empty w r where
  lp := fun _ _ => False
  rt := fun x o s ρ => s.d = er x ∧ resOk rm s = true ∧ outsOf pm 0 ρ = some (eo o)
  ex := fun o ρ => outsOf pm 0 ρ = some (eo o)
def surI (pm : List PM) (er : r → Vl) : Sur Empty Unit r where
  lp := fun _ _ => False
  rt := fun x _ s ρ => s.d = .non ∧ outsOf pm 0 ρ = some [er x]
  ex := fun _ ρ => ∃ d, outsOf pm 0 ρ = some [d]
theorem fok_run {pm : List PM} {rm : Bool} {n : Nat} {body : SemS} {ds : List Vl} {eo : w → List Vl} {er : r → Vl} {t : Oc Empty w r ν} {d : ν → TF w r} {Γ : List Sl} {P : ν → Sr → Prop} (h : RS Γ body t (surF pm rm eo er) P) (he : EnvR Γ (initE pm ds n))
    (hp : ∀ a x, P a x → ∃ ρ', x = .next ρ' ∧ FOk eo er (d a) (fin pm rm ⟨.shr, .non⟩ ρ')) : FOk eo er (t.run d) (runB pm rm n body ds) := by
  have h := h _ he
  refine ⟨?_⟩
  show FOo eo er (t.run d) (match body (initE pm ds n) with
    | .ret s ρ => fin pm rm s ρ
    | .next ρ => fin pm rm ⟨.shr, .non⟩ ρ
    | .exc c fs ρ => (match outsOf pm 0 ρ with
      | some outs => .exc c fs outs
      | none => .bad)
    | _ => .bad)
  cases t with
  | next a =>
    obtain ⟨ρ', e, k⟩ := hp a _ h
    rw [e]; exact k.go
  | brk s => obtain ⟨_, _, k⟩ := h; exact k.elim
  | cont s => obtain ⟨_, _, k⟩ := h; exact k.elim
  | ret x o =>
    obtain ⟨s, ρ', e, k1, k2, k3⟩ := h
    rw [e]
    show fin pm rm s ρ' = .ret (er x) (eo o)
    unfold fin
    rw [k3, ← k1]
    show (match resOk rm s with | true => FRes.ret s.d (eo o) | false => .bad) = _
    rw [k2]
  | exc c fs o =>
    obtain ⟨ρ', e, k⟩ := h
    rw [e]
    show (match outsOf pm 0 ρ' with | some outs => FRes.exc c fs outs | none => .bad) = .exc c fs (eo o)
    rw [show outsOf pm 0 ρ' = some (eo o) from k]
  | bad => exact trivial
theorem foki_run {pm : List PM} {n : Nat} {body : SemS} {ds : List Vl} {er : r → Vl} {t : Oc Empty Unit r ν} {d : ν → TF Unit r} {Γ : List Sl} {P : ν → Sr → Prop} (h : RS Γ body t (surI pm er) P) (he : EnvR Γ (initE pm ds n))
    (hp : ∀ a x, P a x → ∃ ρ', x = .next ρ' ∧ FOkI er (d a) (fin pm true ⟨.shr, .non⟩ ρ')) : FOkI er (t.run d) (runB pm true n body ds) := by
  have h := h _ he
  refine ⟨?_⟩
  show FOoI er (t.run d) (match body (initE pm ds n) with
    | .ret s ρ => fin pm true s ρ
    | .next ρ => fin pm true ⟨.shr, .non⟩ ρ
    | .exc c fs ρ => (match outsOf pm 0 ρ with
      | some outs => .exc c fs outs
      | none => .bad)
    | _ => .bad)
  cases t with
  | next a =>
    obtain ⟨ρ', e, k⟩ := hp a _ h
    rw [e]; exact k.go
  | brk s => obtain ⟨_, _, k⟩ := h; exact k.elim
  | cont s => obtain ⟨_, _, k⟩ := h; exact k.elim
  | ret x o =>
    obtain ⟨s, ρ', e, k1, k3⟩ := h
    rw [e]
    show fin pm true s ρ' = .ret .non [er x]
    unfold fin
    have : resOk true s = true := by unfold resOk; rw [k1]; rfl
    rw [k3, ← k1, this]
  | exc c fs o =>
    obtain ⟨ρ', e, d, k⟩ := h
    rw [e]
    refine ⟨d, ?_⟩
    show (match outsOf pm 0 ρ' with | some outs => FRes.exc c fs outs | none => .bad) = .exc c fs [d]
    rw [k]
  | bad => exact trivial
theorem fall_init {pm : List PM} {er : r → Vl} {G : r → List Sl} (h : ∀ o, outsG pm 0 (G o) = some [er o]) : ∀ (a : r) x, PN G a x → ∃ ρ', x = .next ρ' ∧ FOkI er (.ret a ()) (fin pm true ⟨.shr, .non⟩ ρ') := by
  rintro a x ⟨ρ', e, k⟩
  refine ⟨ρ', e, ⟨?_⟩⟩
  show fin pm true ⟨.shr, .non⟩ ρ' = .ret .non [er a]
  unfold fin
  rw [outsG.env (h a) k]; rfl
theorem fall_no {R : ν → Sr → En → Prop} : ∀ (a : ν) x, PF a x → ∃ ρ', x = .next ρ' ∧ R a x ρ' := fun _ _ h => h.elim
end
end MV
namespace MV
open PySem PySem.Spec PyProof.Rows L2 He
def seqK (r : Sr) (g : SemS) : Sr := match r with
  | .next ρ => g ρ
  | r => r
def bsel {α : Type} (b : Bool) (x y : α) : α := match b with
  | true => x
  | false => y
def kFrz : K1 := fun s ρ => match s.m with
  | .own => .ok ⟨.shr, s.d⟩ ρ
  | .shr => .ok s ρ
  | _ => .bad
abbrev isv (x : Int) : Sv := ⟨.shr, .int x⟩
abbrev isb (x : Bool) : Sv := ⟨.shr, .bl x⟩
abbrev svN : Sv := ⟨.shr, .non⟩
def retK : Sv → En → Sr := fun s ρ => .ret s ρ
def retB : Bool → En → Sr := fun b ρ => .ret (isb b) ρ
theorem bndS_bnd {α β : Type} (r : Rs α) (h : α → En → Rs β) (k : β → En → Sr) : bndS (bnd r h) k = bndS r fun a ρ => bndS (h a ρ) k := by cases r <;> rfl
theorem bndS_grd {α : Type} (b : Bool) (r : Rs α) (k : α → En → Sr) : bndS (grd b r) k = grdS b (bndS r k) := by cases b <;> rfl
theorem seqK_bndS {α : Type} (r : Rs α) (k : α → En → Sr) (g : SemS) : seqK (bndS r k) g = bndS r fun a ρ => seqK (k a ρ) g := by cases r <;> rfl
theorem seqK_grdS (b : Bool) (r : Sr) (g : SemS) : seqK (grdS b r) g = grdS b (seqK r g) := by cases b <;> rfl
def propO {l w r α : Type} (t : TF Unit α) : Oc l w r α := match t with
  | .ret x _ => .next x
  | _ => .bad
@[simp] theorem propO_ret {l w r α : Type} (x : α) (u : Unit) : (propO (.ret x u) : Oc l w r α) = .next x := rfl
def Sur.nr {l w r : Type} (C : Sur l w r) : Sur Empty w r where
  lp := fun _ _ => False
  rt := fun _ _ _ _ => False
  ex := C.ex
def Sur.loop {l w r l' : Type} (C : Sur l w r) (G : l' → List Sl) : Sur l' w r where
  lp := fun s ρ => EnvR (G s) ρ
  rt := C.rt
  ex := C.ex
section
variable {l w r ν α β γ : Type} {Γ Δ : List Sl} {C : Sur l w r} {P : ν → Sr → Prop} {t : Oc l w r ν}
theorem RS.congr {f g : SemS} (e : ∀ ρ, EnvR Γ ρ → f ρ = g ρ) (h : RS Γ g t C P) : RS Γ f t C P := by
  refine RS.mk fun ρ hρ => ?_
  have h := h ρ hρ
  rw [← e ρ hρ] at h
  exact h
theorem RS.eq {f g : SemS} (e : f = g) (h : RS Γ g t C P) : RS Γ f t C P := e ▸ h
theorem Ev.congr {f g : En → Rs α} {a : α} (e : ∀ ρ, EnvR Γ ρ → f ρ = g ρ) (h : Ev Γ g a) : Ev Γ f a := fun ρ hρ => (e ρ hρ).trans (h ρ hρ)
theorem c_pure {f : En → Rs α} {a : α} {k : α → En → Sr} (h : Ev Γ f a) (g : RS Γ (k a) t C P) : RS Γ (fun ρ => bndS (f ρ) k) t C P := g.congr fun ρ hρ => by rw [h ρ hρ]; rfl
theorem c_ok {f : En → Rs α} {a : α} {k : α → En → Sr} (h : ∀ ρ, f ρ = .ok a ρ) (g : RS Γ (k a) t C P) : RS Γ (fun ρ => bndS (f ρ) k) t C P := c_pure (fun ρ _ => h ρ) g
theorem c_grd {b : Bool} {f : SemS} (h : b = true) (g : RS Γ f t C P) : RS Γ (fun ρ => grdS b (f ρ)) t C P := g.congr fun ρ _ => by rw [h]; rfl
theorem c_bad {f : SemS} : RS Γ f (.bad : Oc l w r ν) C P := RS.mk fun _ _ => trivial
theorem c_two {qb : Bool} {fa fb : Sem1} {k2 : K2} {k : Sv → En → Sr} (h : RS Γ (fun ρ => bndS (fa ρ) fun a ρ1 => grdS (held a.m qb) (bndS (fb ρ1) fun b ρ2 => bndS (k2 a b ρ2) k)) t C P) : RS Γ (fun ρ => bndS (fTwo qb fa fb k2 ρ) k) t C P :=
  h.congr fun ρ _ => by
    show bndS (bnd (fa ρ) fun a ρ1 => grd (held a.m qb) (bnd (fb ρ1) fun b ρ2 => k2 a b ρ2)) k = _
    rw [bndS_bnd]
    congr 1; funext a ρ1
    rw [bndS_grd, bndS_bnd]
theorem c_frz {fa : Sem1} {k : Sv → En → Sr} (h : RS Γ (fun ρ => bndS (fa ρ) fun s ρ1 => bndS (kFrz s ρ1) k) t C P) : RS Γ (fun ρ => bndS (fFrz fa ρ) k) t C P := h.congr fun ρ _ => bndS_bnd (fa ρ) kFrz k
theorem c_aEx {fa : Sem1} {fr : SemA} {k : List Ar → En → Sr} (h : RS Γ (fun ρ => bndS (fa ρ) fun s ρ1 => grdS (!s.m.isT) (bndS (fr ρ1) fun as ρ2 => k (.ex s :: as) ρ2)) t C P) : RS Γ (fun ρ => bndS (aEx fa fr ρ) k) t C P :=
  h.congr fun ρ _ => by
    show bndS (bnd (fa ρ) fun s ρ1 => grd (!s.m.isT) (bnd (fr ρ1) fun as ρ2 => .ok (.ex s :: as) ρ2)) k = _
    rw [bndS_bnd]
    congr 1; funext a ρ1
    rw [bndS_grd, bndS_bnd]; rfl
theorem asg_var {i : Nat} {s : Sv} {ρ : En} (e : EnvR Γ ρ) (h : Γ[i]? = some (.vl s)) : asg ρ i = true := by unfold asg; rw [e.var h]
theorem c_aSl {i : Nat} {s : Sv} {fr : SemA} {k : List Ar → En → Sr} (e : Γ[i]? = some (.vl s)) (h : RS Γ (fun ρ => bndS (fr ρ) fun as ρ2 => k (.sl i :: as) ρ2) t C P) : RS Γ (fun ρ => bndS (aSl i fr ρ) k) t C P :=
  h.congr fun ρ hρ => by
    show bndS (grd (asg ρ i) (bnd (fr ρ) fun as ρ2 => .ok (.sl i :: as) ρ2)) k = _
    rw [bndS_grd, bndS_bnd, asg_var hρ e]; rfl
theorem c_rEx {fa : Sem1} {k : Ar → En → Sr} (h : RS Γ (fun ρ => bndS (fa ρ) fun s ρ1 => grdS (!s.m.isT) (k (.ex s) ρ1)) t C P) : RS Γ (fun ρ => bndS (rEx fa ρ) k) t C P :=
  h.congr fun ρ _ => by
    show bndS (bnd (fa ρ) fun s ρ1 => grd (!s.m.isT) (.ok (.ex s) ρ1)) k = _
    rw [bndS_bnd]
    congr 1; funext a ρ1
    rw [bndS_grd]; rfl
theorem v_rSl {i : Nat} {s : Sv} (e : Γ[i]? = some (.vl s)) : Ev Γ (rSl i) (.sl i) := fun ρ hρ => by
  unfold rSl
  rw [asg_var hρ e]; rfl
theorem c_lst {f : SemA} {k : Sv → En → Sr} (h : RS Γ (fun ρ => bndS (f ρ) fun s ρ1 => bndS (kLst s ρ1) k) t C P) : RS Γ (fun ρ => bndS (fLst f ρ) k) t C P := h.congr fun _ _ => bndS_bnd _ _ _
theorem c_call {pm : List PM} {rm : Bool} {fn : Fn} {fa : SemA} {k : Sv → En → Sr} (h : RS Γ (fun ρ => bndS (fa ρ) fun as ρ1 => bndS (kCall pm rm fn as ρ1) k) t C P) : RS Γ (fun ρ => bndS (fCall pm rm fn fa ρ) k) t C P := h.congr fun _ _ => bndS_bnd _ _ _
theorem c_make {c : Str} {pm : List PM} {fn : Fn} {fa : SemA} {k : Sv → En → Sr} (h : RS Γ (fun ρ => bndS (fa ρ) fun as ρ1 => bndS (kMake c pm fn as ρ1) k) t C P) : RS Γ (fun ρ => bndS (fMake c pm fn fa ρ) k) t C P := h.congr fun _ _ => bndS_bnd _ _ _
def grdC (c m : Str) (a : Ar) (f : SemS) : SemS := fun ρ => grdS (clsOk c m ρ a) (f ρ)
theorem c_prop {c m : Str} {rm : Bool} {fn : Fn} {fo : SemR} {k : Sv → En → Sr} (h : RS Γ (fun ρ => bndS (fo ρ) fun a => grdC c m a fun ρ1 => bndS (noX (kCall [.bor] rm fn [a] ρ1)) k) t C P) : RS Γ (fun ρ => bndS (fProp c m rm fn fo ρ) k) t C P :=
  h.congr fun ρ _ => by
    show bndS (bnd (fo ρ) fun a ρ1 => grd (clsOk c m ρ1 a) (noX (kCall [.bor] rm fn [a] ρ1))) k = _
    rw [bndS_bnd]
    congr 1; funext a ρ1
    rw [bndS_grd]; rfl
theorem c_op2 {c m : Str} {pm : List PM} {rm : Bool} {fn : Fn} {fo fb : SemR} {k : Sv → En → Sr} (h : RS Γ (fun ρ => bndS (fo ρ) fun a ρ1 => grdS (ntA a) (bndS (fb ρ1) fun b => grdC c m a (grdC c m b fun ρ2 => bndS (kCall pm rm fn [a, b] ρ2) k))) t C P) : RS Γ (fun ρ => bndS (fOp2 c m pm rm fn fo fb ρ) k) t C P :=
  h.congr fun ρ _ => by
    show bndS (bnd (fo ρ) fun a ρ1 => grd (ntA a) (bnd (fb ρ1) fun b ρ2 => grd (clsOk c m ρ2 a && clsOk c m ρ2 b) (kCall pm rm fn [a, b] ρ2))) k = _
    rw [bndS_bnd]
    congr 1; funext a ρ1
    rw [bndS_grd, bndS_bnd]
    congr 2; funext b ρ2
    rw [bndS_grd]
    show _ = grdS (clsOk c m ρ2 a) (grdS (clsOk c m ρ2 b) _)
    cases clsOk c m ρ2 a <;> cases clsOk c m ρ2 b <;> rfl
def arG (Γ : List Sl) : Ar → Option Sv
  | .ex s => some s
  | .sl i => match Γ[i]? with
    | some (.vl s) => some s
    | _ => none
theorem arG.env {a : Ar} {s : Sv} {ρ : En} (h : arG Γ a = some s) (e : EnvR Γ ρ) : arV ρ a = some s := by
  cases a with
  | ex s => exact h
  | sl i =>
    have h : (match Γ[i]? with | some (.vl s) => some s | _ => none) = some s := h
    split at h
    · rename_i s' g
      have : s' = s := by injection h
      subst this
      show (match ρ[i]? with | some (some s) => some s | _ => none) = _
      rw [e.var g]
    · cases h
def argG (Γ : List Sl) : List PM → List Ar → Option (List Vl)
  | [], [] => some []
  | p :: pm, a :: as => match arG Γ a with
    | some s => match arD p s with
      | some d => (argG Γ pm as).map (d :: ·)
      | none => none
    | none => none
  | _, _ => none
theorem argG.env {ρ : En} (e : EnvR Γ ρ) : ∀ {pm : List PM} {as : List Ar} {ds : List Vl}, argG Γ pm as = some ds → argVs ρ pm as = some ds
  | [], [], ds, h => h
  | [], _ :: _, _, h => by cases h
  | _ :: _, [], _, h => by cases h
  | p :: pm, a :: as, ds, h => by
    have h : (match arG Γ a with
      | some s => match arD p s with
        | some d => (argG Γ pm as).map (d :: ·)
        | none => none
      | none => none) = some ds := h
    show (match arV ρ a with
      | some s => match arD p s with
        | some d => (argVs ρ pm as).map (d :: ·)
        | none => none
      | none => none) = some ds
    cases h1 : arG Γ a with
    | none => rw [h1] at h; cases h
    | some s =>
      rw [h1] at h
      rw [arG.env h1 e]
      show (match arD p s with
        | some d => (argVs ρ pm as).map (d :: ·)
        | none => none) = some ds
      have h : (match arD p s with
        | some d => (argG Γ pm as).map (d :: ·)
        | none => none) = some ds := h
      cases h2 : arD p s with
      | none => rw [h2] at h; cases h
      | some d =>
        rw [h2] at h
        have h : (argG Γ pm as).map (d :: ·) = some ds := h
        cases h3 : argG Γ pm as with
        | none => rw [h3] at h; cases h
        | some ds' =>
          rw [h3] at h
          show (argVs ρ pm as).map (d :: ·) = _
          rw [argG.env e h3]; exact h
theorem c_cls {c m : Str} {a : Ar} {s : Sv} {fs : List (Str × Vl)} {f : SemS} (ha : arG Γ a = some s) (hd : s.d = .ins c fs) (ht : s.m.isT = false) (hf : fs.lookup m = none) (h : RS Γ f t C P) : RS Γ (grdC c m a f) t C P :=
  h.congr fun ρ hρ => by
    have : clsOk c m ρ a = true := by
      unfold clsOk
      rw [arG.env ha hρ]
      obtain ⟨md, d⟩ := s
      have hd : d = .ins c fs := hd
      subst hd
      show (!md.isT && (c == c) && (fs.lookup m).isNone) = true
      rw [show md.isT = false from ht, hf, beq_self_eq_true]; rfl
    show grdS (clsOk c m ρ a) (f ρ) = f ρ
    rw [this]; rfl
theorem c_kcall {pm : List PM} {rm : Bool} {fn : Fn} {as : List Ar} {ds : List Vl} {k : Sv → En → Sr} {er : α → Vl} {tf : TF Unit α} {o : w} {u : α → Oc l w r ν} (hf : FOk (fun _ => []) er tf (fn ds)) (h1 : argG Γ pm as = some ds) (h2 : ioSl pm as = []) (h3 : chkA [] pm as = true) (hx : ∀ ρ, EnvR Γ ρ → C.ex o ρ) (s : α → Sv) (hs : ∀ a, resM rm (er a) = s a)
    (h' : ∀ a, RS Γ (k (s a)) (u a) C P) : RS Γ (fun ρ => bndS (kCall pm rm fn as ρ) k) ((callO o tf).bind u) C P := by
  have h : ∀ a, RS Γ (k (resM rm (er a))) (u a) C P := fun a => by rw [hs a]; exact h' a
  refine RS.mk fun ρ hρ => ?_
  have e : kCall pm rm fn as ρ = (match fn ds with
      | .ret r outs => .ok (resM rm r) (setOuts (ioSl pm as) outs ρ)
      | .exc c fs outs => .exc c fs (setOuts (ioSl pm as) outs ρ)
      | .bad => .bad) := by
    unfold kCall
    rw [h2, h3, argG.env hρ h1]; rfl
  have ho : ∀ outs, setOuts (ioSl pm as) outs ρ = ρ := fun outs => by rw [h2]; cases outs <;> rfl
  cases tf with
  | ret x u' =>
    have hf : fn ds = .ret (er x) [] := hf.go
    rw [hf] at e
    have e : kCall pm rm fn as ρ = .ok (resM rm (er x)) (setOuts (ioSl pm as) [] ρ) := e
    rw [ho] at e
    have := h x ρ hρ
    rw [show k (resM rm (er x)) ρ = bndS (kCall pm rm fn as ρ) k by rw [e]; rfl] at this
    exact this
  | exc c fs u' =>
    have hf : fn ds = .exc c fs [] := hf.go
    rw [hf] at e
    have e : kCall pm rm fn as ρ = .exc c fs (setOuts (ioSl pm as) [] ρ) := e
    rw [ho] at e
    exact ⟨ρ, by show bndS (kCall pm rm fn as ρ) k = _; rw [e]; rfl, hx ρ hρ⟩
  | bad => exact trivial
theorem c_kprop {rm : Bool} {fn : Fn} {a : Ar} {d : Vl} {k : Sv → En → Sr} {er : α → Vl} {tf : TF Unit α} {u : α → Oc l w r ν} (hf : FOk (fun _ => []) er tf (fn [d])) (h1 : argG Γ [.bor] [a] = some [d]) (s : α → Sv) (hs : ∀ a, resM rm (er a) = s a)
    (h' : ∀ a, RS Γ (k (s a)) (u a) C P) : RS Γ (fun ρ => bndS (noX (kCall [.bor] rm fn [a] ρ)) k) ((propO tf).bind u) C P := by
  have h : ∀ a, RS Γ (k (resM rm (er a))) (u a) C P := fun a => by rw [hs a]; exact h' a
  refine RS.mk fun ρ hρ => ?_
  have e : kCall [.bor] rm fn [a] ρ = (match fn [d] with
      | .ret r outs => .ok (resM rm r) (setOuts (ioSl [.bor] [a]) outs ρ)
      | .exc c fs outs => .exc c fs (setOuts (ioSl [.bor] [a]) outs ρ)
      | .bad => .bad) := by
    unfold kCall
    have : (ndB (ioSl [.bor] [a]) && chkA (ioSl [.bor] [a]) [.bor] [a]) = true := by cases a <;> rfl
    rw [this, argG.env hρ h1]; rfl
  have ho : ∀ outs, setOuts (ioSl [.bor] [a]) outs ρ = ρ := fun outs => by cases a <;> cases outs <;> rfl
  cases tf with
  | ret x u' =>
    have hf : fn [d] = .ret (er x) [] := hf.go
    rw [hf] at e
    have e : kCall [.bor] rm fn [a] ρ = .ok (resM rm (er x)) (setOuts (ioSl [.bor] [a]) [] ρ) := e
    rw [ho] at e
    have := h x ρ hρ
    rw [show k (resM rm (er x)) ρ = bndS (noX (kCall [.bor] rm fn [a] ρ)) k by rw [e]; rfl] at this
    exact this
  | exc c fs u' => exact trivial
  | bad => exact trivial
theorem c_kcallN {pm : List PM} {rm : Bool} {fn : Fn} {as : List Ar} {ds : List Vl} {k : Sv → En → Sr} {er : α → Vl} {tf : TF Unit α} {u : α → Oc l w r ν} (hf : FOk (fun _ => []) er tf (fn ds)) (h1 : argG Γ pm as = some ds) (h2 : ioSl pm as = []) (h3 : chkA [] pm as = true) (s : α → Sv) (hs : ∀ a, resM rm (er a) = s a)
    (h' : ∀ a, RS Γ (k (s a)) (u a) C P) : RS Γ (fun ρ => bndS (kCall pm rm fn as ρ) k) ((propO tf).bind u) C P := by
  cases tf with
  | ret x u' =>
    refine RS.mk fun ρ hρ => ?_
    have e : kCall pm rm fn as ρ = .ok (s x) ρ := by
      unfold kCall
      have hf : fn ds = .ret (er x) [] := hf.go
      rw [h2, h3, argG.env hρ h1]
      show (match fn ds with
        | .ret r outs => Rs.ok (resM rm r) (setOuts [] outs ρ)
        | .exc c fs outs => .exc c fs (setOuts [] outs ρ)
        | .bad => .bad) = _
      rw [hf, ← hs]; rfl
    have := h' x ρ hρ
    rw [show k (s x) ρ = bndS (kCall pm rm fn as ρ) k by rw [e]; rfl] at this
    exact this
  | exc c fs u' => exact c_bad
  | bad => exact c_bad
end
end MV
namespace MV
open PySem PySem.Spec PyProof.Rows L2 He
def putG (Γ : List Sl) (i : Nat) (d : Vl) : List Sl := match Γ[i]? with
  | some (.vl ⟨m, _⟩) => Γ.set i (.vl ⟨m, d⟩)
  | _ => Γ
def outG : List Nat → List Vl → List Sl → List Sl
  | i :: is, d :: ds, Γ => outG is ds (putG Γ i d)
  | _, _, Γ => Γ
def vlG (Γ : List Sl) (i : Nat) : Bool := match Γ[i]? with
  | some (.vl _) => true
  | _ => false
theorem putG.vl {Γ : List Sl} {i j : Nat} {d : Vl} (h : vlG Γ j = true) : vlG (putG Γ i d) j = true := by
  unfold putG
  split
  · rename_i m d' e
    unfold vlG at h ⊢
    rw [List.getElem?_set]
    by_cases c : i = j
    · subst c
      have : i < Γ.length := by
        rcases Nat.lt_or_ge i Γ.length with q | q
        · exact q
        · rw [List.getElem?_eq_none q] at e; cases e
      rw [if_pos rfl, if_pos this]
    · rw [if_neg c]; exact h
  · exact h
theorem putG.env {Γ : List Sl} {ρ : En} {i : Nat} {d : Vl} (h : vlG Γ i = true) (e : EnvR Γ ρ) : EnvR (putG Γ i d) (putD ρ i d) := by
  unfold vlG at h
  unfold putG putD
  split at h
  · rename_i s g
    obtain ⟨m, d'⟩ := s
    rw [g, e.var g]
    exact EnvR.set (show SlR (.vl ⟨m, d⟩) (some ⟨m, d⟩) from rfl) e
  · cases h
theorem outG.env : ∀ {is : List Nat} {ds : List Vl} {Γ : List Sl} {ρ : En}, is.all (vlG Γ) = true → EnvR Γ ρ → EnvR (outG is ds Γ) (setOuts is ds ρ)
  | [], _, _, _, _, e => e
  | i :: is, [], _, _, _, e => e
  | i :: is, d :: ds, Γ, ρ, h, e => by
    have h : (vlG Γ i && is.all (vlG Γ)) = true := h
    rw [Bool.and_eq_true] at h
    refine outG.env (is := is) (ds := ds) ?_ (putG.env h.1 e)
    rw [List.all_eq_true] at h ⊢
    exact fun j hj => (h.2 j hj : vlG Γ j = true) |> putG.vl
section
variable {l w w' r ν α β γ : Type} {Γ Δ : List Sl} {C : Sur l w r} {P : ν → Sr → Prop} {t : Oc l w r ν}
theorem c_kcallI {pm : List PM} {rm : Bool} {fn : Fn} {as : List Ar} {ds : List Vl} {k : Sv → En → Sr} {eo : w' → List Vl} {er : α → Vl} {tf : TF w' α} {g : w' → w} {u : α × w' → Oc l w r ν} (is : List Nat) (hf : FOk eo er tf (fn ds)) (h1 : argG Γ pm as = some ds) (h2 : ioSl pm as = is) (h3 : (ndB is && chkA is pm as) = true) (h4 : is.all (vlG Γ) = true)
    (hx : ∀ o ρ, EnvR (outG is (eo o) Γ) ρ → C.ex (g o) ρ) (s : α → Sv) (hs : ∀ a, resM rm (er a) = s a)
    (h' : ∀ a, RS (outG is (eo a.2) Γ) (k (s a.1)) (u a) C P) : RS Γ (fun ρ => bndS (kCall pm rm fn as ρ) k) ((callI g tf).bind u) C P := by
  have h : ∀ a, RS (outG is (eo a.2) Γ) (k (resM rm (er a.1))) (u a) C P := fun a => by rw [hs a.1]; exact h' a
  refine RS.mk fun ρ hρ => ?_
  have e : kCall pm rm fn as ρ = (match fn ds with
      | .ret r outs => .ok (resM rm r) (setOuts is outs ρ)
      | .exc c fs outs => .exc c fs (setOuts is outs ρ)
      | .bad => .bad) := by
    unfold kCall
    rw [h2, h3, argG.env hρ h1]; rfl
  have he : ∀ outs, EnvR (outG is outs Γ) (setOuts is outs ρ) := fun outs => outG.env h4 hρ
  cases tf with
  | ret x o =>
    have hf : fn ds = .ret (er x) (eo o) := hf.go
    rw [hf] at e
    have e : kCall pm rm fn as ρ = .ok (resM rm (er x)) (setOuts is (eo o) ρ) := e
    have := h (x, o) _ (he (eo o))
    rw [show k (resM rm (er x)) (setOuts is (eo o) ρ) = bndS (kCall pm rm fn as ρ) k by rw [e]; rfl] at this
    exact this
  | exc c fs o =>
    have hf : fn ds = .exc c fs (eo o) := hf.go
    rw [hf] at e
    have e : kCall pm rm fn as ρ = .exc c fs (setOuts is (eo o) ρ) := e
    exact ⟨_, by show bndS (kCall pm rm fn as ρ) k = _; rw [e]; rfl, hx o _ (he _)⟩
  | bad => exact trivial
theorem c_kmake {c : Str} {pm : List PM} {fn : Fn} {as : List Ar} {ds : List Vl} {k : Sv → En → Sr} {er : α → Vl} {tf : TF Unit α} {o : w} {u : α → Oc l w r ν} (hf : FOkI er tf (fn (.ins c [] :: ds))) (h1 : argG Γ pm as = some ds) (h2 : ((ioSl pm as).isEmpty && chkA [] pm as) = true) (hx : ∀ ρ, EnvR Γ ρ → C.ex o ρ)
    (h : ∀ a, RS Γ (k ⟨.own, er a⟩) (u a) C P) : RS Γ (fun ρ => bndS (kMake c pm fn as ρ) k) ((callO o tf).bind u) C P := by
  refine RS.mk fun ρ hρ => ?_
  have e : kMake c pm fn as ρ = (match fn (.ins c [] :: ds) with
      | .ret .non [d] => .ok ⟨.own, d⟩ ρ
      | .exc c fs [_] => .exc c fs ρ
      | _ => .bad) := by
    unfold kMake
    rw [h2, argG.env hρ h1]; rfl
  cases tf with
  | ret x u' =>
    have hf : fn (.ins c [] :: ds) = .ret .non [er x] := hf.go
    rw [hf] at e
    have e : kMake c pm fn as ρ = .ok ⟨.own, er x⟩ ρ := e
    have := h x ρ hρ
    rw [show k ⟨.own, er x⟩ ρ = bndS (kMake c pm fn as ρ) k by rw [e]; rfl] at this
    exact this
  | exc c' fs u' =>
    obtain ⟨d, hf⟩ : ∃ d, fn (.ins c [] :: ds) = .exc c' fs [d] := hf.go
    rw [hf] at e
    have e : kMake c pm fn as ρ = .exc c' fs ρ := e
    exact ⟨ρ, by show bndS (kMake c pm fn as ρ) k = _; rw [e]; rfl, hx ρ hρ⟩
  | bad => exact trivial
theorem v_sh {i : Nat} {d : Vl} (h : Γ[i]? = some (.vl ⟨.shr, d⟩)) : Ev Γ (fVar i) ⟨.shr, d⟩ := fun ρ hρ => by unfold fVar; rw [hρ.var h]
theorem v_bo {i : Nat} {d : Vl} (h : Γ[i]? = some (.vl ⟨.bor, d⟩)) : Ev Γ (fVar i) ⟨.bor, d⟩ := fun ρ hρ => by unfold fVar; rw [hρ.var h]
theorem v_ow {i : Nat} {d : Vl} (h : Γ[i]? = some (.vl ⟨.own, d⟩)) : Ev Γ (fVar i) ⟨.tmp, d⟩ := fun ρ hρ => by unfold fVar; rw [hρ.var h]
theorem v_c {d : Vl} : Ev Γ (fC d) ⟨.shr, d⟩ := fun _ _ => rfl
theorem v_one {fa : Sem1} {k : K1} {s u : Sv} (h : Ev Γ fa s) (hk : ∀ ρ, k s ρ = .ok u ρ) : Ev Γ (fOne fa k) u := fun ρ hρ => by
  unfold fOne; rw [h ρ hρ]; exact hk ρ
theorem v_two {qb : Bool} {fa fb : Sem1} {k : K2} {s s' u : Sv} (h : Ev Γ fa s) (h' : Ev Γ fb s') (hh : held s.m qb = true) (hk : ∀ ρ, k s s' ρ = .ok u ρ) : Ev Γ (fTwo qb fa fb k) u := fun ρ hρ => by
  unfold fTwo; rw [h ρ hρ]
  show grd (held s.m qb) (bnd (fb ρ) _) = _
  rw [hh, h' ρ hρ]; exact hk ρ
theorem v_frz {fa : Sem1} {s u : Sv} (h : Ev Γ fa s) (hk : ∀ ρ, kFrz s ρ = .ok u ρ) : Ev Γ (fFrz fa) u := fun ρ hρ => by
  show bnd (fa ρ) kFrz = _
  rw [h ρ hρ]; exact hk ρ
theorem v_aN : Ev Γ aNil [] := fun _ _ => rfl
theorem v_aE {fa : Sem1} {fr : SemA} {s : Sv} {as : List Ar} (h : Ev Γ fa s) (n : s.m.isT = false) (h' : Ev Γ fr as) : Ev Γ (aEx fa fr) (.ex s :: as) := fun ρ hρ => by
  unfold aEx; rw [h ρ hρ]
  show grd (!s.m.isT) (bnd (fr ρ) _) = _
  rw [n, h' ρ hρ]; rfl
theorem v_aS {i : Nat} {s : Sv} {fr : SemA} {as : List Ar} (e : Γ[i]? = some (.vl s)) (h' : Ev Γ fr as) : Ev Γ (aSl i fr) (.sl i :: as) := fun ρ hρ => by
  unfold aSl; rw [asg_var hρ e, h' ρ hρ]; rfl
theorem v_lst {fa : SemA} {as : List Ar} {u : Sv} (h : Ev Γ fa as) (hk : ∀ ρ, kLst as ρ = .ok u ρ) : Ev Γ (fLst fa) u := fun ρ hρ => by
  unfold fLst; rw [h ρ hρ]; exact hk ρ
theorem v_tst {f : Sem1} {m : Md} {b : Bool} (h : Ev Γ f ⟨m, .bl b⟩) : Ev Γ (fTst f) b := fun ρ hρ => by unfold fTst; rw [h ρ hρ]; rfl
theorem v_tru {f : Sem1} {s : Sv} {b : Bool} (h : Ev Γ f s) (k : tru s.d = some b) : Ev Γ (fTru f) b := fun ρ hρ => by
  unfold fTru; rw [h ρ hρ]
  show (match tru s.d with | some b => Rs.ok b ρ | none => .bad) = _
  rw [k]
theorem v_or {fa fb : SemB} {p q : Prop} [Decidable p] [Decidable q] (h : Ev Γ fa (decide p)) (h' : Ev Γ fb (decide q)) : Ev Γ (fOr fa fb) (decide (p ∨ q)) := fun ρ hρ => by
  unfold fOr; rw [h ρ hρ]
  by_cases c : p
  · rw [decide_eq_true c, decide_eq_true (.inl c)]; rfl
  · rw [decide_eq_false c]
    show fb ρ = _
    rw [h' ρ hρ]
    by_cases d : q
    · rw [decide_eq_true d, decide_eq_true (.inr d)]
    · rw [decide_eq_false d, decide_eq_false (by rintro (z | z); exact c z; exact d z)]
theorem v_not {fa : SemB} {p : Prop} [Decidable p] (h : Ev Γ fa (decide p)) : Ev Γ (fNot fa) (decide (¬ p)) := fun ρ hρ => by
  unfold fNot; rw [h ρ hρ]
  by_cases c : p
  · rw [decide_eq_true c, decide_eq_false fun z => z c]; rfl
  · rw [decide_eq_false c, decide_eq_true c]; rfl
theorem v_bp {g : SemB} {b : Bool} (h : Ev Γ g b) : Ev Γ g (decide (b = true)) := by rw [Bool.decide_eq_true]; exact h
theorem v_andV {fa fb : Sem1} {p q : Prop} [Decidable p] [Decidable q] (h : Ev Γ fa (isb (decide p))) (h' : Ev Γ fb (isb (decide q))) : Ev Γ (fAndV fa fb) (isb (decide (p ∧ q))) := fun ρ hρ => by
  unfold fAndV; rw [h ρ hρ]
  by_cases c : p
  · rw [decide_eq_true c]
    show fb ρ = _
    rw [h' ρ hρ]
    by_cases d : q
    · rw [decide_eq_true d, decide_eq_true ⟨c, d⟩]
    · rw [decide_eq_false d, decide_eq_false fun z => d z.2]
  · rw [decide_eq_false c, decide_eq_false fun z => c z.1]; rfl
theorem v_notV {fa : Sem1} {p : Prop} [Decidable p] (h : Ev Γ fa (isb (decide p))) : Ev Γ (fNotV fa) (isb (decide (¬ p))) := fun ρ hρ => by
  unfold fNotV; rw [h ρ hρ]
  by_cases c : p
  · rw [decide_eq_true c, decide_eq_false fun z => z c]; rfl
  · rw [decide_eq_false c, decide_eq_true c]; rfl
theorem v_bpV {g : Sem1} {b : Bool} (h : Ev Γ g (isb b)) : Ev Γ g (isb (decide (b = true))) := by rw [Bool.decide_eq_true]; exact h
theorem v_chain {p p' : Int → Int → Bool} {fa fb fc : Sem1} {m m' m'' : Md} {i j k : Int} {q q' : Prop} [Decidable q] [Decidable q'] (h1 : Ev Γ fa ⟨m, .int i⟩) (h2 : Ev Γ fb ⟨m', .int j⟩) (h3 : Ev Γ fc ⟨m'', .int k⟩) (e : p i j = decide q) (e' : p' j k = decide q') : Ev Γ (fChain p p' fa fb fc) (isb (decide (q ∧ q'))) := fun ρ hρ => by
  unfold fChain; rw [h1 ρ hρ]
  show bnd (fb ρ) _ = _
  rw [h2 ρ hρ]
  show (match p i j with | true => bnd (fc ρ) (kI fun k ρ3 => .ok ⟨.shr, .bl (p' j k)⟩ ρ3) | false => Rs.ok (isb false) ρ) = _
  rw [e]
  by_cases c : q
  · rw [decide_eq_true c]
    show bnd (fc ρ) _ = _
    rw [h3 ρ hρ]
    show Rs.ok (isb (p' j k)) ρ = _
    rw [e']
    by_cases d : q'
    · rw [decide_eq_true d, decide_eq_true ⟨c, d⟩]
    · rw [decide_eq_false d, decide_eq_false fun z => d z.2]
  · rw [decide_eq_false c, decide_eq_false fun z => c z.1]
theorem c_tst {f : Sem1} {k : Bool → En → Sr} (h : RS Γ (fun ρ => bndS (f ρ) fun s ρ1 => bndS (kBl s ρ1) k) t C P) : RS Γ (fun ρ => bndS (fTst f ρ) k) t C P := h.congr fun _ _ => bndS_bnd _ _ _
theorem c_tru {f : Sem1} {k : Bool → En → Sr} (h : RS Γ (fun ρ => bndS (f ρ) fun s ρ1 => bndS (kTru s ρ1) k) t C P) : RS Γ (fun ρ => bndS (fTru f ρ) k) t C P := h.congr fun _ _ => bndS_bnd _ _ _
theorem c_ktru {s : Sv} {b : Bool} {k : Bool → En → Sr} (e : tru s.d = some b) (h : RS Γ (k b) t C P) : RS Γ (fun ρ => bndS (kTru s ρ) k) t C P := h.congr fun ρ _ => by
  show bndS (match tru s.d with | some b => Rs.ok b ρ | none => .bad) k = _
  rw [e]; rfl
theorem c_or {fa fb : SemB} {k : Bool → En → Sr} (h : RS Γ (fun ρ => bndS (fa ρ) fun x ρ1 => bsel x (k true ρ1) (bndS (fb ρ1) k)) t C P) : RS Γ (fun ρ => bndS (fOr fa fb ρ) k) t C P :=
  h.congr fun ρ _ => by
    unfold fOr
    rw [bndS_bnd]
    congr 1; funext x ρ1
    cases x <;> rfl
theorem c_not {fa : SemB} {k : Bool → En → Sr} (h : RS Γ (fun ρ => bndS (fa ρ) fun x ρ1 => k (!x) ρ1) t C P) : RS Γ (fun ρ => bndS (fNot fa ρ) k) t C P :=
  h.congr fun ρ _ => by unfold fNot; rw [bndS_bnd]; rfl
theorem c_andV {fa fb : Sem1} {k : Sv → En → Sr} (h : RS Γ (fun ρ => bndS (fa ρ) fun s ρ1 => bndS (kBl s ρ1) fun x ρ1 => bsel x (bndS (fb ρ1) k) (k (isb false) ρ1)) t C P) : RS Γ (fun ρ => bndS (fAndV fa fb ρ) k) t C P :=
  h.congr fun ρ _ => by
    unfold fAndV
    rw [bndS_bnd, bndS_bnd]
    congr 1; funext s ρ1
    congr 1; funext x ρ1
    cases x <;> rfl
theorem c_chain {p p' : Int → Int → Bool} {fa fb fc : Sem1} {k : Sv → En → Sr} (h : RS Γ (fun ρ => bndS (fa ρ) (kIS fun i ρ1 => bndS (fb ρ1) (kIS fun j ρ2 => bsel (p i j) (bndS (fc ρ2) (kIS fun k' ρ3 => k (isb (p' j k')) ρ3)) (k (isb false) ρ2)))) t C P) : RS Γ (fun ρ => bndS (fChain p p' fa fb fc ρ) k) t C P :=
  have e : ∀ (s : Sv) (ρ : En) (h : Int → En → Rs Sv), bndS (kI h s ρ) k = kIS (fun i ρ => bndS (h i ρ) k) s ρ := fun s ρ h => by
    obtain ⟨m, d⟩ := s
    cases d <;> rfl
  h.congr fun ρ _ => by
    unfold fChain
    rw [bndS_bnd]
    congr 1; funext s ρ1
    rw [e]
    congr 1; funext i ρ1
    rw [bndS_bnd]
    congr 1; funext s ρ2
    rw [e]
    congr 1; funext j ρ2
    cases p i j with
    | true =>
      show bndS (bnd (fc ρ2) _) k = bndS (fc ρ2) _
      rw [bndS_bnd]
      congr 1; funext s ρ3
      rw [e]; rfl
    | false => rfl
theorem c_sel {A B : SemS} {b : Bool} {p : Prop} [Decidable p] {ta tb : Oc l w r ν} (e : b = decide p) (ha : RS Γ A ta C P) (hb : RS Γ B tb C P) : RS Γ (fun ρ => bsel b (A ρ) (B ρ)) (if p then ta else tb) C P := by
  by_cases c : p
  · rw [if_pos c]
    refine ha.congr fun ρ _ => ?_
    rw [e, decide_eq_true c]; rfl
  · rw [if_neg c]
    refine hb.congr fun ρ _ => ?_
    rw [e, decide_eq_false c]; rfl
theorem c_join {f : Sem1} {k : Sv → En → Sr} {tv : Oc Empty w r α} {v : α → Sv} {G : α → List Sl} {u : α → Oc l w r ν} (h : RS Γ (fun ρ => bndS (f ρ) retK) tv C.nr (PV v G)) (g : ∀ a, RS (G a) (k (v a)) (u a) C P) : RS Γ (fun ρ => bndS (f ρ) k) ((liftO tv).bind u) C P := by
  refine RS.mk fun ρ hρ => ?_
  have h := h ρ hρ
  cases tv with
  | next a =>
    obtain ⟨ρ', e, k'⟩ := h
    have e' : f ρ = .ok (v a) ρ' := by
      cases ef : f ρ with
      | ok s ρ1 =>
        have e : bndS (f ρ) retK = .ret (v a) ρ' := e
        rw [ef] at e
        have e : Sr.ret s ρ1 = .ret (v a) ρ' := e
        injection e with e1 e2
        rw [e1, e2]
      | exc c fs ρ1 => have e : bndS (f ρ) retK = .ret (v a) ρ' := e; rw [ef] at e; cases e
      | bad => have e : bndS (f ρ) retK = .ret (v a) ρ' := e; rw [ef] at e; cases e
    have := g a ρ' k'
    rw [show k (v a) ρ' = bndS (f ρ) k by rw [e']; rfl] at this
    exact this
  | brk s => exact s.elim
  | cont s => exact s.elim
  | ret x o => obtain ⟨_, _, _, z⟩ := h; exact z.elim
  | exc c fs o =>
    obtain ⟨ρ', e, k'⟩ := h
    refine ⟨ρ', ?_, k'⟩
    cases ef : f ρ with
    | ok s ρ1 => have e : bndS (f ρ) retK = .exc c fs ρ' := e; rw [ef] at e; cases e
    | exc c' fs' ρ1 =>
      have e : bndS (f ρ) retK = .exc c fs ρ' := e
      rw [ef] at e
      exact e
    | bad => have e : bndS (f ρ) retK = .exc c fs ρ' := e; rw [ef] at e; cases e
  | bad => exact trivial
theorem c_joinB {f : SemB} {k : Bool → En → Sr} {tv : Oc Empty w r α} {v : α → Bool} {G : α → List Sl} {u : α → Oc l w r ν} (h : RS Γ (fun ρ => bndS (f ρ) retB) tv C.nr (PV (fun a => isb (v a)) G)) (g : ∀ a, RS (G a) (k (v a)) (u a) C P) : RS Γ (fun ρ => bndS (f ρ) k) ((liftO tv).bind u) C P := by
  refine RS.mk fun ρ hρ => ?_
  have h := h ρ hρ
  cases tv with
  | next a =>
    obtain ⟨ρ', e, k'⟩ := h
    have e' : f ρ = .ok (v a) ρ' := by
      cases ef : f ρ with
      | ok s ρ1 =>
        have e : bndS (f ρ) retB = .ret (isb (v a)) ρ' := e
        rw [ef] at e
        have e : Sr.ret (isb s) ρ1 = .ret (isb (v a)) ρ' := e
        injection e with e1 e2
        injection e1 with e3 e4
        injection e4 with e5
        rw [e5, e2]
      | exc c fs ρ1 => have e : bndS (f ρ) retB = .ret (isb (v a)) ρ' := e; rw [ef] at e; cases e
      | bad => have e : bndS (f ρ) retB = .ret (isb (v a)) ρ' := e; rw [ef] at e; cases e
    have := g a ρ' k'
    rw [show k (v a) ρ' = bndS (f ρ) k by rw [e']; rfl] at this
    exact this
  | brk s => exact s.elim
  | cont s => exact s.elim
  | ret x o => obtain ⟨_, _, _, z⟩ := h; exact z.elim
  | exc c fs o =>
    obtain ⟨ρ', e, k'⟩ := h
    refine ⟨ρ', ?_, k'⟩
    cases ef : f ρ with
    | ok s ρ1 => have e : bndS (f ρ) retB = .exc c fs ρ' := e; rw [ef] at e; cases e
    | exc c' fs' ρ1 =>
      have e : bndS (f ρ) retB = .exc c fs ρ' := e
      rw [ef] at e
      exact e
    | bad => have e : bndS (f ρ) retB = .exc c fs ρ' := e; rw [ef] at e; cases e
  | bad => exact trivial
theorem c_val {v : α → Sv} {G : α → List Sl} {a : α} (h : Wke Γ (G a)) : RS Γ (retK (v a)) (.next a : Oc l w r α) C (PV v G) := RS.mk fun ρ hρ => ⟨ρ, rfl, h.env hρ⟩
theorem c_valB {v : α → Bool} {G : α → List Sl} {a : α} (h : Wke Γ (G a)) : RS Γ (retB (v a)) (.next a : Oc l w r α) C (PV (fun a => isb (v a)) G) := RS.mk fun ρ hρ => ⟨ρ, rfl, h.env hρ⟩
theorem c_kcallJ {pm : List PM} {rm : Bool} {fn : Fn} {as : List Ar} {ds : List Vl} {k : Sv → En → Sr} {eo : w' → List Vl} {er : α → Vl} {tf : TF w' α} {g : w' → w} {u : α × w' → Oc l w r ν} (is : List Nat) (G : w' → List Sl) (hf : FOk eo er tf (fn ds)) (h1 : argG Γ pm as = some ds) (h2 : ioSl pm as = is) (h3 : (ndB is && chkA is pm as) = true) (h4 : is.all (vlG Γ) = true) (hG : ∀ o, outG is (eo o) Γ = G o)
    (hx : ∀ o ρ, EnvR (G o) ρ → C.ex (g o) ρ) (s : α → Sv) (hs : ∀ a, resM rm (er a) = s a)
    (h : ∀ a, RS (G a.2) (k (s a.1)) (u a) C P) : RS Γ (fun ρ => bndS (kCall pm rm fn as ρ) k) ((callI g tf).bind u) C P :=
  c_kcallI is hf h1 h2 h3 h4 (fun o ρ hρ => hx o ρ (by rw [← hG o]; exact hρ)) s hs fun a => by rw [hG a.2]; exact h a
end
end MV
namespace MV
open PySem PySem.Spec PyProof.Rows L2 He
section
variable {l l' w w' r ν α β γ : Type} {Γ Δ : List Sl} {C : Sur l w r} {P : ν → Sr → Prop} {t : Oc l w r ν} {g R : SemS}
theorem seq_eq (f g : SemS) (ρ : En) : sSeq f g ρ = seqK (f ρ) g := rfl
theorem s_last {f : SemS} (h : RS Γ (sSeq f sNil) t C P) : RS Γ f t C P := h.congr fun ρ _ => by
  show f ρ = seqK (f ρ) sNil
  cases f ρ <;> rfl
theorem s_nil (h : RS Γ g t C P) : RS Γ (sSeq sNil g) t C P := h
theorem s_end {G : ν → List Sl} {a : ν} (h : Wke Γ (G a)) : RS Γ sNil (.next a) C (PN G) := RS.mk fun ρ hρ => ⟨ρ, rfl, h.env hρ⟩
theorem s_stop {f : SemS} (h : RS Γ f t C (PF : ν → Sr → Prop)) : RS Γ (sSeq f g) t C P := by
  refine RS.mk fun ρ hρ => ?_
  have h := h ρ hρ
  cases t with
  | next a => exact h.elim
  | brk s => obtain ⟨ρ', e, k⟩ := h; exact ⟨ρ', by rw [seq_eq, e]; rfl, k⟩
  | cont s => obtain ⟨ρ', e, k⟩ := h; exact ⟨ρ', by rw [seq_eq, e]; rfl, k⟩
  | ret x o => obtain ⟨s, ρ', e, k⟩ := h; exact ⟨s, ρ', by rw [seq_eq, e]; rfl, k⟩
  | exc c fs o => obtain ⟨ρ', e, k⟩ := h; exact ⟨ρ', by rw [seq_eq, e]; rfl, k⟩
  | bad => exact trivial
theorem RS.ofF {f : SemS} (h : RS Γ f t C (PF : ν → Sr → Prop)) : RS Γ f t C P := by
  refine RS.mk fun ρ hρ => ?_
  have h := h ρ hρ
  cases t with
  | next a => exact h.elim
  | brk s => exact h
  | cont s => exact h
  | ret x o => exact h
  | exc c fs o => exact h
  | bad => exact trivial
theorem s_then {f : SemS} {ta : Oc l w r α} {u : α → Oc l w r ν} {G : α → List Sl} (h : RS Γ f ta C (PN G)) (k : ∀ a, RS (G a) g (u a) C P) : RS Γ (sSeq f g) (ta.bind u) C P := by
  refine RS.mk fun ρ hρ => ?_
  have h := h ρ hρ
  cases ta with
  | next a =>
    obtain ⟨ρ', e, k'⟩ := h
    have := k a ρ' k'
    rw [show g ρ' = sSeq f g ρ by rw [seq_eq, e]; rfl] at this
    exact this
  | brk s => obtain ⟨ρ', e, k⟩ := h; exact ⟨ρ', by rw [seq_eq, e]; rfl, k⟩
  | cont s => obtain ⟨ρ', e, k⟩ := h; exact ⟨ρ', by rw [seq_eq, e]; rfl, k⟩
  | ret x o => obtain ⟨s, ρ', e, k⟩ := h; exact ⟨s, ρ', by rw [seq_eq, e]; rfl, k⟩
  | exc c fs o => obtain ⟨ρ', e, k⟩ := h; exact ⟨ρ', by rw [seq_eq, e]; rfl, k⟩
  | bad => exact trivial
theorem s_asg {i : Nat} {fa : Sem1} (h : RS Γ (fun ρ => bndS (fa ρ) fun s ρ1 => seqK (stS i s ρ1) g) t C P) : RS Γ (sSeq (sAsg i fa) g) t C P := h.congr fun ρ _ => seqK_bndS _ _ _
theorem s_st {i : Nat} {s : Sv} (h1 : noIoG Γ i = true) (h2 : sto s.m = true) (h : RS (Γ.set i (.vl s)) g t C P) : RS Γ (fun ρ => seqK (stS i s ρ) g) t C P := by
  refine RS.mk fun ρ hρ => ?_
  have e : seqK (stS i s ρ) g = g (ρ.set i (some s)) := by
    unfold stS
    rw [noIoG.env h1 hρ, h2]; rfl
  have := h _ (hρ.set (show SlR (.vl s) (some s) from rfl) (i := i))
  rw [← e] at this
  exact this
theorem s_let {i : Nat} {v : α → Sv} {x : α} {u : α → Oc l w r ν} (h1 : noIoG Γ i = true) (h2 : ∀ x, sto (v x).m = true) (h : ∀ x, RS (Γ.set i (.vl (v x))) g (u x) C P) : RS Γ (fun ρ => seqK (stS i (v x) ρ) g) (letO x u) C P := s_st h1 (h2 x) (h x)
theorem s_expr {fa : Sem1} (h : RS Γ (fun ρ => bndS (fa ρ) fun _ ρ1 => g ρ1) t C P) : RS Γ (sSeq (sExpr fa) g) t C P := h.congr fun ρ _ => by
  show seqK (bndS (fa ρ) _) g = _
  rw [seqK_bndS]; rfl
theorem s_ret {fa : Sem1} (h : RS Γ (fun ρ => bndS (fa ρ) retK) t C P) : RS Γ (sRet fa) t C P := h
theorem r_ret {x : r} {o : w} {s : Sv} (h : ∀ ρ, EnvR Γ ρ → C.rt x o s ρ) : RS Γ (retK s) (.ret x o) C P := RS.mk fun ρ hρ => ⟨s, ρ, rfl, h ρ hρ⟩
theorem c_mv {i : Nat} {s : Sv} {k : Sv → En → Sr} (h0 : Γ[i]? = some (.vl s)) (hm : noIoG Γ i = true) (h : RS (Γ.set i .no) (k s) t C P) : RS Γ (fun ρ => bndS (fMv i ρ) k) t C P := by
  refine RS.mk fun ρ hρ => ?_
  have e : fMv i ρ = .ok s (ρ.set i none) := by
    unfold fMv
    rw [hρ.var h0]
    unfold noIoG at hm
    rw [h0] at hm
    obtain ⟨m, d⟩ := s
    cases m <;> first | rfl | cases hm
  have := h _ (hρ.set (show SlR .no none from rfl) (i := i))
  rw [show k s (ρ.set i none) = bndS (fMv i ρ) k by rw [e]; rfl] at this
  exact this
def raiseK (c : Str) (fs : List Str) : List Ar → En → Sr := fun as ρ1 => match argVs ρ1 (fs.map fun _ => .shr) as with
    | some ds => .exc c (fs.zip ds).reverse ρ1
    | none => .bad
theorem s_raise {c : Str} {fs : List Str} {fa : SemA} (h : RS Γ (fun ρ => bndS (fa ρ) (raiseK c fs)) t C P) : RS Γ (sRaise c fs fa) t C P := h.congr fun ρ _ => by
  unfold sRaise
  cases fa ρ <;> rfl
theorem r_raise {c : Str} {fs : List Str} {as : List Ar} {ds : List Vl} {fl : List (Str × Vl)} {o : w} (h : argG Γ (fs.map fun _ => .shr) as = some ds) (e : (fs.zip ds).reverse = fl) (hx : ∀ ρ, EnvR Γ ρ → C.ex o ρ) : RS Γ (raiseK c fs as) (.exc c fl o) C P := RS.mk fun ρ hρ => by
  refine ⟨ρ, ?_, hx ρ hρ⟩
  unfold raiseK
  rw [argG.env hρ h, ← e]
theorem xf {pm : List PM} {rm : Bool} {eo : w → List Vl} {er : r → Vl} {o : w} (h : outsG pm 0 Γ = some (eo o)) : ∀ ρ, EnvR Γ ρ → (surF pm rm eo er).ex o ρ := fun ρ hρ => outsG.env h hρ
theorem rtf {pm : List PM} {rm : Bool} {eo : w → List Vl} {er : r → Vl} {x : r} {o : w} {s : Sv} (h1 : s.d = er x) (h2 : resOk rm s = true) (h : outsG pm 0 Γ = some (eo o)) : ∀ ρ, EnvR Γ ρ → (surF pm rm eo er).rt x o s ρ := fun ρ hρ => ⟨h1, h2, outsG.env h hρ⟩
theorem xi {pm : List PM} {er : r → Vl} {d : Vl} (h : outsG pm 0 Γ = some [d]) : ∀ ρ, EnvR Γ ρ → (surI pm er).ex () ρ := fun ρ hρ => ⟨d, outsG.env h hρ⟩
theorem s_if {gc : SemB} {A B : SemS} (h : RS Γ (fun ρ => bndS (gc ρ) fun x ρ1 => seqK (bsel x (A ρ1) (B ρ1)) g) t C P) : RS Γ (sSeq (sIf gc A B) g) t C P := h.congr fun ρ _ => by
  rw [seq_eq]
  show seqK (bndS (gc ρ) _) g = _
  rw [seqK_bndS]
  exact congrArg (bndS (gc ρ)) (funext fun x => funext fun ρ1 => by cases x <;> rfl)
section
variable {A B : SemS} {b : Bool} {p : Prop} [Decidable p] {ta tb : Oc l w r ν}
theorem s_selC (e : b = decide p) (ha : RS Γ (sSeq A g) ta C P) (hb : RS Γ (sSeq B g) tb C P) : RS Γ (fun ρ => seqK (bsel b (A ρ) (B ρ)) g) (if p then ta else tb) C P := by
  by_cases c : p
  · rw [if_pos c]
    refine ha.congr fun ρ _ => ?_
    rw [e, decide_eq_true c]; rfl
  · rw [if_neg c]
    refine hb.congr fun ρ _ => ?_
    rw [e, decide_eq_false c]; rfl
theorem s_selA (e : b = decide p) (ha : RS Γ A ta C (PF : ν → Sr → Prop)) (hb : RS Γ (sSeq B g) tb C P) : RS Γ (fun ρ => seqK (bsel b (A ρ) (B ρ)) g) (if p then ta else tb) C P := s_selC e (s_stop ha) hb
theorem s_selJ {ta tb : Oc l w r α} {G : α → List Sl} {u : α → Oc l w r ν} (e : b = decide p) (ha : RS Γ A ta C (PN G)) (hb : RS Γ B tb C (PN G)) (k : ∀ a, RS (G a) g (u a) C P) : RS Γ (fun ρ => seqK (bsel b (A ρ) (B ρ)) g) ((if p then ta else tb).bind u) C P := by
  by_cases c : p
  · rw [if_pos c]
    refine (s_then ha k).congr fun ρ _ => ?_
    rw [e, decide_eq_true c]; rfl
  · rw [if_neg c]
    refine (s_then hb k).congr fun ρ _ => ?_
    rw [e, decide_eq_false c]; rfl
end
def forK (tgt : SemG) (body g : SemS) : Bool × List Sv → En → Sr := fun its ρ1 => seqK (grdS its.1 (loopL tgt body its.2 ρ1)) g
theorem s_for {src : SemI} {tgt : SemG} {body : SemS} (h : RS Γ (fun ρ => bndS (src ρ) (forK tgt body g)) t C P) : RS Γ (sSeq (sFor src tgt body) g) t C P := h.congr fun ρ _ => by
  rw [seq_eq]
  show seqK (bndS (src ρ) _) g = _
  rw [seqK_bndS]; rfl
theorem loop_go {tgt : SemG} {body : SemS} {v : α → Sv} {G : l' → List Sl} {TG : α → l' → List Sl} {tb : α → l' → Oc l' w r l'} (ht : ∀ x s ρ, EnvR (G s) ρ → ∃ ρ1, tgt (v x) ρ = some ρ1 ∧ EnvR (TG x s) ρ1) (hb : ∀ x s, RS (TG x s) body (tb x s) (C.loop G) (PN G)) : ∀ (xs : List α) (s0 : l') (ρ : En), EnvR (G s0) ρ → match (forO tb xs s0 : Oc l w r l') with
    | .next s => ∃ ρ', loopL tgt body (xs.map v) ρ = .next ρ' ∧ EnvR (G s) ρ'
    | .ret x o => ∃ s ρ', loopL tgt body (xs.map v) ρ = .ret s ρ' ∧ C.rt x o s ρ'
    | .exc c fs o => ∃ ρ', loopL tgt body (xs.map v) ρ = .exc c fs ρ' ∧ C.ex o ρ'
    | .bad => True
    | _ => False
  | [], s0, ρ, h => ⟨ρ, rfl, h⟩
  | x :: xs, s0, ρ, h => by
    obtain ⟨ρ1, e1, h1⟩ := ht x s0 ρ h
    have hb1 := hb x s0 ρ1 h1
    have el : loopL tgt body ((x :: xs).map v) ρ = (match body ρ1 with
      | .next ρ2 => loopL tgt body (xs.map v) ρ2
      | .cont ρ2 => loopL tgt body (xs.map v) ρ2
      | .brk ρ2 => .next ρ2
      | r => r) := by
      rw [List.map_cons]
      show (match tgt (v x) ρ with
        | some ρ1 => (match body ρ1 with
          | .next ρ2 => loopL tgt body (xs.map v) ρ2
          | .cont ρ2 => loopL tgt body (xs.map v) ρ2
          | .brk ρ2 => .next ρ2
          | r => r)
        | none => .bad) = _
      rw [e1]
    rw [el]
    have ef : (forO tb (x :: xs) s0 : Oc l w r l') = (match tb x s0 with
      | .next s' => forO tb xs s'
      | .cont s' => forO tb xs s'
      | .brk s' => .next s'
      | .ret x o => .ret x o
      | .exc c fs o => .exc c fs o
      | .bad => .bad) := rfl
    rw [ef]
    cases htb : tb x s0 with
    | next s' =>
      rw [htb] at hb1
      obtain ⟨ρ2, e2, h2⟩ := hb1
      rw [e2]
      exact loop_go ht hb xs s' ρ2 h2
    | cont s' =>
      rw [htb] at hb1
      obtain ⟨ρ2, e2, h2⟩ := hb1
      rw [e2]
      exact loop_go ht hb xs s' ρ2 h2
    | brk s' =>
      rw [htb] at hb1
      obtain ⟨ρ2, e2, h2⟩ := hb1
      rw [e2]
      exact ⟨ρ2, rfl, h2⟩
    | ret x o =>
      rw [htb] at hb1
      obtain ⟨s, ρ2, e2, h2⟩ := hb1
      rw [e2]
      exact ⟨s, ρ2, rfl, h2⟩
    | exc c fs o =>
      rw [htb] at hb1
      obtain ⟨ρ2, e2, h2⟩ := hb1
      rw [e2]
      exact ⟨ρ2, rfl, h2⟩
    | bad => exact trivial
theorem s_loop {tgt : SemG} {body : SemS} {v : α → Sv} {xs : List α} {s0 : l'} {G : l' → List Sl} {TG : α → l' → List Sl} {tb : α → l' → Oc l' w r l'} {u : l' → Oc l w r ν} (hw : Wke Γ (G s0)) (ht : ∀ x s ρ, EnvR (G s) ρ → ∃ ρ1, tgt (v x) ρ = some ρ1 ∧ EnvR (TG x s) ρ1) (hb : ∀ x s, RS (TG x s) body (tb x s) (C.loop G) (PN G)) (k : ∀ s, RS (G s) g (u s) C P) :
    RS Γ (forK tgt body g (true, xs.map v)) ((forO tb xs s0).bind u) C P := by
  refine RS.mk fun ρ hρ => ?_
  have h := loop_go (C := C) ht hb xs s0 ρ (hw.env hρ)
  show match (forO tb xs s0 : Oc l w r l').bind u with
    | .next a => P a (seqK (loopL tgt body (xs.map v) ρ) g)
    | .brk s => ∃ ρ', seqK (loopL tgt body (xs.map v) ρ) g = .brk ρ' ∧ C.lp s ρ'
    | .cont s => ∃ ρ', seqK (loopL tgt body (xs.map v) ρ) g = .cont ρ' ∧ C.lp s ρ'
    | .ret x o => ∃ s ρ', seqK (loopL tgt body (xs.map v) ρ) g = .ret s ρ' ∧ C.rt x o s ρ'
    | .exc c fs o => ∃ ρ', seqK (loopL tgt body (xs.map v) ρ) g = .exc c fs ρ' ∧ C.ex o ρ'
    | .bad => True
  cases e : (forO tb xs s0 : Oc l w r l') with
  | next s =>
    rw [e] at h
    obtain ⟨ρ', e1, h1⟩ := h
    rw [e1]
    exact k s ρ' h1
  | brk s => rw [e] at h; exact h.elim
  | cont s => rw [e] at h; exact h.elim
  | ret x o =>
    rw [e] at h
    obtain ⟨s, ρ', e1, h1⟩ := h
    rw [e1]
    exact ⟨s, ρ', rfl, h1⟩
  | exc c fs o =>
    rw [e] at h
    obtain ⟨ρ', e1, h1⟩ := h
    rw [e1]
    exact ⟨ρ', rfl, h1⟩
  | bad => exact trivial
theorem t_nm {i : Nat} {v : α → Sv} {G : l' → List Sl} (h1 : ∀ s, noIoG (G s) i = true) (h2 : ∀ x, sto (v x).m = true) : ∀ (x : α) (s : l') (ρ : En), EnvR (G s) ρ → ∃ ρ1, gNm i (v x) ρ = some ρ1 ∧ EnvR ((G s).set i (.vl (v x))) ρ1 := fun x s ρ hρ => by
  refine ⟨ρ.set i (some (v x)), ?_, hρ.set (show SlR (.vl (v x)) (some (v x)) from rfl)⟩
  unfold gNm
  rw [noIoG.env (h1 s) hρ, h2 x]; rfl
def setG : List Nat → List Vl → Md → List Sl → Option (List Sl)
  | [], [], _, Γ => some Γ
  | i :: is, d :: ds, m, Γ => if noIoG Γ i then setG is ds m (Γ.set i (.vl (mk m d))) else none
  | _, _, _, _ => none
theorem setG.env : ∀ {is : List Nat} {ds : List Vl} {m : Md} {Γ Δ : List Sl} {ρ : En}, setG is ds m Γ = some Δ → EnvR Γ ρ → ∃ ρ1, setAll is ds m ρ = some ρ1 ∧ EnvR Δ ρ1
  | [], [], _, Γ, Δ, ρ, h, e => by
    have h : some Γ = some Δ := h
    injection h with h
    subst h
    exact ⟨ρ, rfl, e⟩
  | i :: is, [], _, _, _, _, h, _ => by cases h
  | [], _ :: _, _, _, _, _, h, _ => by cases h
  | i :: is, d :: ds, m, Γ, Δ, ρ, h, e => by
    have h : (if noIoG Γ i then setG is ds m (Γ.set i (.vl (mk m d))) else none) = some Δ := h
    cases c : noIoG Γ i with
    | false => rw [c] at h; cases h
    | true =>
      rw [c] at h
      obtain ⟨ρ1, h1, h2⟩ := setG.env (is := is) h (e.set (show SlR (.vl (mk m d)) (some (mk m d)) from rfl))
      refine ⟨ρ1, ?_, h2⟩
      show (match noIo ρ i with
        | true => setAll is ds m (ρ.set i (some (mk m d)))
        | false => none) = _
      rw [noIoG.env c e]; exact h1
end
end MV
namespace MV
open PySem PySem.Spec PyProof.Rows L2 He
section
variable {l w r α β : Type}
def ixO (xs : List α) (i : Int) : Oc l w r α := match atI xs i with
  | some a => .next a
  | none => .bad
def divO (i j : Int) : Oc l w r Int := if 0 < j ∧ j < 1073741824 then .next (i / j) else .bad
def modO (i j : Int) : Oc l w r Int := if 0 < j then .next (i % j) else .bad
def mulO (i j : Int) : Oc l w r Int := if cMul i j then .next (i * j) else .bad
def repO (xs : List α) (k : Int) : Oc l w r (List α) := if cRep xs.length k then .next (List.replicate k.toNat xs).flatten else .bad
def rep1O (x : α) (k : Int) : Oc l w r (List α) := if cRep 1 k then .next (List.replicate k.toNat x) else .bad
def catO (xs ys : List α) : Oc l w r (List α) := if xs.length + ys.length ≤ sizeLine then .next (xs ++ ys) else .bad
def pushO (xs : List α) (x : α) : Oc l w r (List α) := if xs.length < sizeLine then .next (xs ++ [x]) else .bad
def setO (xs : List α) (i : Int) (x : α) : Oc l w r (List α) := match ixN xs.length i with
  | some j => .next (xs.set j x)
  | none => .bad
def maxO (xs : List Int) : Oc l w r Int := if xs.isEmpty then .bad else .next (maxL xs)
def rngO (a b : Int) : Oc l w r (List Int) := if c62 a && c62 b then .next (iv a (b - a).toNat) else .bad
def popAtO (xs : List α) (k : Int) : Oc l w r (α × List α) := if -(2 ^ 63) ≤ k ∧ k < 2 ^ 63 then (match (seqIndex? k xs.length).bind fun j => xs[j]?.map fun d => (d, xs.eraseIdx j) with
  | some p => .next p
  | none => .bad) else .bad
end
section
variable {α β γ : Type} {e : α → Vl} {e' : β → Vl} {m m' m'' : Md} {xs ys : List α} {i j : Int} {ρ : En}
theorem lft_sc (h : ∀ x, isSc (e x) = true) : lft m (xs.map e) = true := by
  unfold lft
  rw [List.all_map, show (xs.all (isSc ∘ e)) = true from List.all_eq_true.mpr fun x _ => h x, Bool.or_true]
theorem k_len : ∀ ρ, kS1 gLen ⟨m, eL e xs⟩ ρ = .ok (isv xs.length) ρ := fun ρ => by
  show Rs.ok (isv ((xs.map e).length : Int)) ρ = _
  rw [List.length_map]
theorem k_lenT : ∀ ρ, kS1 gLen ⟨m, eT e xs⟩ ρ = .ok (isv xs.length) ρ := fun ρ => by
  show Rs.ok (isv ((xs.map e).length : Int)) ρ = _
  rw [List.length_map]
theorem k_sum {xs : List Int} : ∀ ρ, kS1 gSum ⟨m, eL eI xs⟩ ρ = .ok (isv xs.sum) ρ := fun ρ => by
  show (match (iL (xs.map Vl.int)).map fun ns => Vl.int ns.sum with | some d => if isSc d then Rs.ok (Sv.mk .shr d) ρ else .bad | none => .bad) = _
  rw [iL_map]; rfl
theorem k_sumT {xs : List Int} : ∀ ρ, kS1 gSum ⟨m, eT eI xs⟩ ρ = .ok (isv xs.sum) ρ := fun ρ => by
  show (match (iL (xs.map Vl.int)).map fun ns => Vl.int ns.sum with | some d => if isSc d then Rs.ok (Sv.mk .shr d) ρ else .bad | none => .bad) = _
  rw [iL_map]; rfl
theorem k_divc (h : 0 < j) (h' : cDiv i j = true) : ∀ ρ, kS (gIc cDiv Int.fdiv) ⟨m, .int i⟩ ⟨m', .int j⟩ ρ = .ok (isv (i / j)) ρ := fun ρ => by
  show (match (if cDiv i j then some (Vl.int (i.fdiv j)) else none) with | some d => if isSc d then Rs.ok (Sv.mk .shr d) ρ else .bad | none => .bad) = _
  rw [if_pos h', Int.fdiv_eq_ediv_of_nonneg _ (Int.le_of_lt h)]; rfl
theorem k_modc (h : 0 < j) : ∀ ρ, kS (gIc cMod Int.fmod) ⟨m, .int i⟩ ⟨m', .int j⟩ ρ = .ok (isv (i % j)) ρ := fun ρ => by
  show (match (if cMod i j then some (Vl.int (i.fmod j)) else none) with | some d => if isSc d then Rs.ok (Sv.mk .shr d) ρ else .bad | none => .bad) = _
  rw [if_pos (show cMod i j = true from decide_eq_true (by omega)), Int.fmod_eq_emod_of_nonneg _ (Int.le_of_lt h)]; rfl
theorem k_mulc (h : cMul i j = true) : ∀ ρ, kMul ⟨m, .int i⟩ ⟨m', .int j⟩ ρ = .ok (isv (i * j)) ρ := fun ρ => by
  show grd (cMul i j) _ = _
  rw [h]; rfl
theorem cMul_l (h : -(2 ^ 64) < i ∧ i < 2 ^ 64) : cMul i j = true := by
  unfold cMul
  rw [decide_eq_true h.1, decide_eq_true h.2]; rfl
theorem cMul_r (h : -(2 ^ 64) < j ∧ j < 2 ^ 64) : cMul i j = true := by
  unfold cMul
  rw [decide_eq_true h.1, decide_eq_true h.2]
  cases (decide (-(2 ^ 64) < i) && decide (i < 2 ^ 64)) <;> rfl
theorem cDiv_c (h : 0 < j) (h' : j < 1073741824) : cDiv i j = true := by
  unfold cDiv
  rw [decide_eq_true (show j ≠ 0 by omega), decide_eq_true (show j.natAbs < 1073741824 by omega)]; rfl
theorem k_listL (hl : lft m (xs.map e) = true) : ∀ ρ, kListOf ⟨m, eL e xs⟩ ρ = .ok ⟨.own, eL e xs⟩ ρ := fun ρ => by
  show grd (lft m (xs.map e)) _ = _
  rw [hl]; rfl
theorem k_listT (hl : lft m (xs.map e) = true) : ∀ ρ, kListOf ⟨m, eT e xs⟩ ρ = .ok ⟨.own, eL e xs⟩ ρ := fun ρ => by
  show grd (lft m (xs.map e)) _ = _
  rw [hl]; rfl
theorem k_tupL (hl : lft m (xs.map e) = true) : ∀ ρ, kTupOf ⟨m, eL e xs⟩ ρ = .ok ⟨.shr, eT e xs⟩ ρ := fun ρ => by
  show grd (lft m (xs.map e)) _ = _
  rw [hl]; rfl
theorem cutD_map {f : α → β} {lo hi : Option Int} : cutD (xs.map f) lo hi = (cutD xs lo hi).map f := by
  unfold cutD
  rw [List.length_map, List.map_take, List.map_drop]
theorem k_sl {lo hi : Option Int} (hl : lft m (xs.map e) = true) : ∀ ρ, kSl ⟨m, eL e xs⟩ lo hi ρ = .ok ⟨.own, eL e (cutD xs lo hi)⟩ ρ := fun ρ => by
  show grd (lft m (xs.map e)) (Rs.ok (Sv.mk .own (.lst (cutD (xs.map e) lo hi))) ρ) = _
  rw [hl, cutD_map]; rfl
end
section
variable {l w r ν α β γ : Type} {Γ Δ : List Sl} {C : Sur l w r} {P : ν → Sr → Prop} {t : Oc l w r ν} {e : α → Vl} {m m' : Md} {xs ys : List α} {i j : Int} {k : Sv → En → Sr}
theorem atI_map {f : α → β} : atI (xs.map f) i = (atI xs i).map f := by
  unfold atI
  rw [List.length_map]
  cases ixN xs.length i with
  | none => rfl
  | some n => simp
theorem c_ix {u : α → Oc l w r ν} (s : α → Sv) (hs : ∀ a, mk m.kid (e a) = s a) (h' : ∀ a, RS Γ (k (s a)) (u a) C P) : RS Γ (fun ρ => bndS (kIx ⟨m, eL e xs⟩ ⟨m', .int i⟩ ρ) k) ((ixO xs i).bind u) C P := by
  have h : ∀ a, RS Γ (k (mk m.kid (e a))) (u a) C P := fun a => by rw [hs a]; exact h' a
  have e0 : ∀ ρ, kIx ⟨m, eL e xs⟩ ⟨m', .int i⟩ ρ = match atI (xs.map e) i with | some d => .ok (mk m.kid d) ρ | none => .bad := fun _ => rfl
  unfold ixO
  cases c : atI xs i with
  | none => exact c_bad
  | some a =>
    refine c_ok (fun ρ => ?_) (h a)
    rw [e0, atI_map, c]; rfl
theorem c_ixT {u : α → Oc l w r ν} (s : α → Sv) (hs : ∀ a, mk m.kid (e a) = s a) (h' : ∀ a, RS Γ (k (s a)) (u a) C P) : RS Γ (fun ρ => bndS (kIx ⟨m, eT e xs⟩ ⟨m', .int i⟩ ρ) k) ((ixO xs i).bind u) C P := by
  have h : ∀ a, RS Γ (k (mk m.kid (e a))) (u a) C P := fun a => by rw [hs a]; exact h' a
  have e0 : ∀ ρ, kIx ⟨m, eT e xs⟩ ⟨m', .int i⟩ ρ = match atI (xs.map e) i with | some d => .ok (mk m.kid d) ρ | none => .bad := fun _ => rfl
  unfold ixO
  cases c : atI xs i with
  | none => exact c_bad
  | some a =>
    refine c_ok (fun ρ => ?_) (h a)
    rw [e0, atI_map, c]; rfl
theorem c_div {u : Int → Oc l w r ν} (h : ∀ a, RS Γ (k (isv a)) (u a) C P) : RS Γ (fun ρ => bndS (kS (gIc cDiv Int.fdiv) ⟨m, .int i⟩ ⟨m', .int j⟩ ρ) k) ((divO i j).bind u) C P := by
  unfold divO
  by_cases c : 0 < j ∧ j < 1073741824
  · rw [if_pos c]; exact c_ok (k_divc c.1 (cDiv_c c.1 c.2)) (h _)
  · rw [if_neg c]; exact c_bad
theorem c_mod {u : Int → Oc l w r ν} (h : ∀ a, RS Γ (k (isv a)) (u a) C P) : RS Γ (fun ρ => bndS (kS (gIc cMod Int.fmod) ⟨m, .int i⟩ ⟨m', .int j⟩ ρ) k) ((modO i j).bind u) C P := by
  unfold modO
  by_cases c : 0 < j
  · rw [if_pos c]; exact c_ok (k_modc c) (h _)
  · rw [if_neg c]; exact c_bad
theorem c_mul {u : Int → Oc l w r ν} (h : ∀ a, RS Γ (k (isv a)) (u a) C P) : RS Γ (fun ρ => bndS (kMul ⟨m, .int i⟩ ⟨m', .int j⟩ ρ) k) ((mulO i j).bind u) C P := by
  unfold mulO
  by_cases c : cMul i j = true
  · rw [if_pos c]; exact c_ok (k_mulc c) (h _)
  · rw [if_neg c]; exact c_bad
theorem c_rep {u : List α → Oc l w r ν} (hl : lft m (xs.map e) = true) (h : ∀ a, RS Γ (k ⟨.own, eL e a⟩) (u a) C P) : RS Γ (fun ρ => bndS (kMul ⟨m, eL e xs⟩ ⟨m', .int i⟩ ρ) k) ((repO xs i).bind u) C P := by
  unfold repO
  by_cases c : cRep xs.length i = true
  · rw [if_pos c]
    refine c_ok (fun ρ => ?_) (h _)
    show grd (lft m (xs.map e) && cRep (xs.map e).length i) (Rs.ok (Sv.mk .own (.lst (List.replicate i.toNat (xs.map e)).flatten)) ρ) = _
    rw [hl, List.length_map, c]
    show Rs.ok _ ρ = _
    unfold eL
    rw [List.map_flatten, List.map_replicate]
  · rw [if_neg c]; exact c_bad
theorem c_rep1 {x : α} {u : List α → Oc l w r ν} (hl : lft m ([x].map e) = true) (h : ∀ a, RS Γ (k ⟨.own, eL e a⟩) (u a) C P) : RS Γ (fun ρ => bndS (kMul ⟨m, eL e [x]⟩ ⟨m', .int i⟩ ρ) k) ((rep1O x i).bind u) C P := by
  have e1 : (rep1O x i : Oc l w r (List α)) = repO [x] i := by
    unfold rep1O repO
    have : ∀ n : Nat, (List.replicate n [x]).flatten = List.replicate n x := fun n => by
      induction n with
      | zero => rfl
      | succ n ih => rw [List.replicate_succ, List.flatten_cons, ih]; rfl
    rw [this]; rfl
  rw [e1]
  exact c_rep hl h
theorem c_cat {u : List α → Oc l w r ν} (hl : lft m (xs.map e) = true) (hl' : lft m' (ys.map e) = true) (h : ∀ a, RS Γ (k ⟨.own, eL e a⟩) (u a) C P) : RS Γ (fun ρ => bndS (kAdd ⟨m, eL e xs⟩ ⟨m', eL e ys⟩ ρ) k) ((catO xs ys).bind u) C P := by
  unfold catO
  by_cases c : xs.length + ys.length ≤ sizeLine
  · rw [if_pos c]
    refine c_ok (fun ρ => ?_) (h _)
    show grd (lft m (xs.map e) && lft m' (ys.map e) && decide ((xs.map e).length + (ys.map e).length ≤ sizeLine)) (Rs.ok (Sv.mk .own (.lst (xs.map e ++ ys.map e))) ρ) = _
    rw [hl, hl', List.length_map, List.length_map, decide_eq_true c]
    show Rs.ok _ ρ = _
    unfold eL
    rw [List.map_append]
  · rw [if_neg c]; exact c_bad
theorem c_app {n : Nat} {ds : List Vl} {fa : Sem1} (h0 : Γ[n]? = some (.vl ⟨m, .lst ds⟩)) (h : RS Γ (fun ρ => bndS (fa ρ) fun s ρ1 => grdS (isShr s.m) (bndS (onL n (kApp s.d) ρ1) k)) t C P) : RS Γ (fun ρ => bndS (fApp n fa ρ) k) t C P :=
  h.congr fun ρ hρ => by
    unfold fApp
    have : isL ρ n = true := by unfold isL; rw [hρ.var h0]
    rw [this]
    show bndS (bnd (fa ρ) fun s ρ1 => grd (isShr s.m) (onL n (kApp s.d) ρ1)) k = _
    rw [bndS_bnd]
    congr 1; funext s ρ1
    rw [bndS_grd]
theorem c_onL {n : Nat} {ds es : List Vl} {d : Vl} {kk : List Vl → Option (Vl × List Vl)} (h0 : Γ[n]? = some (.vl ⟨m, .lst ds⟩)) (hm : mutb m = true) (e : kk ds = some (d, es)) (h : RS (Γ.set n (.vl ⟨m, .lst es⟩)) (k (mk .shr d)) t C P) : RS Γ (fun ρ => bndS (onL n kk ρ) k) t C P := by
  refine RS.mk fun ρ hρ => ?_
  have e1 : onL n kk ρ = .ok (mk .shr d) (ρ.set n (some ⟨m, .lst es⟩)) := by
    unfold onL
    rw [hρ.var h0]
    show grd (mutb m) (match kk ds with | some (d, ys) => .ok (mk .shr d) (ρ.set n (some ⟨m, .lst ys⟩)) | none => .bad) = _
    rw [hm, e]; rfl
  have := h _ (hρ.set (show SlR (.vl ⟨m, .lst es⟩) (some ⟨m, .lst es⟩) from rfl) (i := n))
  rw [show k (mk .shr d) (ρ.set n (some ⟨m, .lst es⟩)) = bndS (onL n kk ρ) k by rw [e1]; rfl] at this
  exact this
theorem c_push {n : Nat} {x : α} {u : List α → Oc l w r ν} (h0 : Γ[n]? = some (.vl ⟨m, eL e xs⟩)) (hm : mutb m = true) (h : ∀ ys, RS (Γ.set n (.vl ⟨m, eL e ys⟩)) (k svN) (u ys) C P) : RS Γ (fun ρ => bndS (onL n (kApp (e x)) ρ) k) ((pushO xs x).bind u) C P := by
  unfold pushO
  by_cases c : xs.length < sizeLine
  · rw [if_pos c]
    refine c_onL (d := .non) (es := (xs ++ [x]).map e) h0 hm ?_ (h (xs ++ [x]))
    unfold kApp
    rw [List.length_map, if_pos c, List.map_append]; rfl
  · rw [if_neg c]; exact c_bad
def setK (n : Nat) (s : Sv) : Sv → En → Sr := kIS fun k ρ2 => match onL n (kSet k s.d) ρ2 with
  | .ok _ ρ3 => .next ρ3
  | _ => .bad
def grdL (n : Nat) (b : Bool) (f : SemS) : SemS := fun ρ => grdS (b && isL ρ n) (f ρ)
theorem c_grdL {n : Nat} {b : Bool} {ds : List Vl} {f : SemS} (hb : b = true) (h0 : Γ[n]? = some (.vl ⟨m, .lst ds⟩)) (h : RS Γ f t C P) : RS Γ (grdL n b f) t C P :=
  h.congr fun ρ hρ => by
    have : isL ρ n = true := by unfold isL; rw [hρ.var h0]
    unfold grdL
    rw [hb, this]; rfl
theorem s_set {n : Nat} {fk fv : Sem1} {g : SemS} (h : RS Γ (fun ρ => bndS (fv ρ) fun s => grdL n (isShr s.m) fun ρ1 => bndS (fk ρ1) fun kk ρ2 => seqK (setK n s kk ρ2) g) t C P) : RS Γ (sSeq (sSet n fk fv) g) t C P :=
  h.congr fun ρ _ => by
    rw [seq_eq]
    unfold sSet
    rw [seqK_bndS]
    congr 1; funext s ρ1
    show seqK (grdS _ (bndS _ _)) g = grdS _ (bndS _ _)
    rw [seqK_grdS, seqK_bndS]; rfl
theorem c_set {n : Nat} {x : α} {g : SemS} {u : List α → Oc l w r ν} (h0 : Γ[n]? = some (.vl ⟨m, eL e xs⟩)) (hm : mutb m = true) (h : ∀ ys, RS (Γ.set n (.vl ⟨m, eL e ys⟩)) g (u ys) C P) : RS Γ (fun ρ => seqK (setK n ⟨.shr, e x⟩ ⟨m', .int i⟩ ρ) g) ((setO xs i x).bind u) C P := by
  unfold setO
  cases c : ixN xs.length i with
  | none => exact c_bad
  | some q =>
    refine (c_onL (kk := kSet i (e x)) (k := fun _ => g) (d := .non) (es := (xs.set q x).map e) h0 hm ?_ (h (xs.set q x))).congr fun ρ hρ => ?_
    · unfold kSet
      rw [List.length_map, c, List.map_set]; rfl
    · show seqK (match onL n (kSet i (e x)) ρ with | .ok _ ρ3 => .next ρ3 | _ => .bad) g = bndS (onL n (kSet i (e x)) ρ) fun _ => g
      have : ∀ c fs ρ', onL n (kSet i (e x)) ρ ≠ .exc c fs ρ' := fun c fs ρ' => by
        unfold onL
        rw [hρ.var h0]
        show grd _ (match kSet i (e x) (xs.map e) with | some (d, ys) => _ | none => _) ≠ _
        cases mutb m <;> cases kSet i (e x) (xs.map e) <;> intro z <;> cases z
      cases z : onL n (kSet i (e x)) ρ with
      | ok s ρ1 => rfl
      | exc c fs ρ1 => exact (this _ _ _ z).elim
      | bad => rfl
theorem eraseIdx_map' {f : α → β} : ∀ {xs : List α} {j : Nat}, (xs.map f).eraseIdx j = (xs.eraseIdx j).map f
  | [], _ => rfl
  | x :: xs, 0 => rfl
  | x :: xs, j + 1 => by
    show f x :: (xs.map f).eraseIdx j = f x :: (xs.eraseIdx j).map f
    rw [eraseIdx_map']
theorem c_popAt {n : Nat} {fa : Sem1} {ds : List Vl} (h0 : Γ[n]? = some (.vl ⟨m, .lst ds⟩)) (h : RS Γ (fun ρ => bndS (fa ρ) (kIS fun kk ρ1 => bndS (onL n (kPopAt kk) ρ1) k)) t C P) : RS Γ (fun ρ => bndS (fPopAt n fa ρ) k) t C P :=
  h.congr fun ρ hρ => by
    unfold fPopAt
    have : isL ρ n = true := by unfold isL; rw [hρ.var h0]
    rw [this]
    show bndS (bnd (fa ρ) (kI fun k ρ1 => onL n (kPopAt k) ρ1)) k = _
    rw [bndS_bnd]
    congr 1; funext s ρ1
    obtain ⟨m, d⟩ := s
    cases d <;> rfl
theorem c_popAtK {n : Nat} {u : α × List α → Oc l w r ν} (h0 : Γ[n]? = some (.vl ⟨m, eL e xs⟩)) (hm : mutb m = true) (s : α → Sv) (hs : ∀ a, mk .shr (e a) = s a) (h' : ∀ p, RS (Γ.set n (.vl ⟨m, eL e p.2⟩)) (k (s p.1)) (u p) C P) : RS Γ (fun ρ => bndS (onL n (kPopAt i) ρ) k) ((popAtO xs i).bind u) C P := by
  have h : ∀ p, RS (Γ.set n (.vl ⟨m, eL e p.2⟩)) (k (mk .shr (e p.1))) (u p) C P := fun p => by rw [hs]; exact h' p
  unfold popAtO
  by_cases q : -(2 ^ 63) ≤ i ∧ i < 2 ^ 63
  · rw [if_pos q]
    cases c : (seqIndex? i xs.length).bind fun j => xs[j]?.map fun d => (d, xs.eraseIdx j) with
    | none => exact c_bad
    | some p =>
      refine c_onL (kk := kPopAt i) (d := e p.1) (es := p.2.map e) h0 hm ?_ (h p)
      unfold kPopAt
      rw [if_pos q, List.length_map]
      cases c2 : seqIndex? i xs.length with
      | none => rw [c2] at c; cases c
      | some j =>
        rw [c2] at c
        have c : xs[j]?.map (fun d => (d, xs.eraseIdx j)) = some p := c
        show (xs.map e)[j]?.map (fun d => (d, (xs.map e).eraseIdx j)) = _
        cases c3 : xs[j]? with
        | none => rw [c3] at c; cases c
        | some a =>
          rw [c3] at c
          injection c with c
          rw [List.getElem?_map, c3, ← c, eraseIdx_map']; rfl
  · rw [if_neg q]; exact c_bad
theorem rngI_iv {lo : Int} {n : Nat} : rngI lo 1 n = (iv lo n).map isv := by
  unfold rngI iv
  rw [List.map_map]
  refine List.map_congr_left fun k _ => ?_
  show (⟨.shr, .int (lo + (k : Int) * 1)⟩ : Sv) = ⟨.shr, .int (lo + (k : Int))⟩
  rw [Int.mul_one]
variable {ki : Bool × List Sv → En → Sr}
theorem kii_bnd {f : Int → En → Rs (Bool × List Sv)} (s : Sv) (ρ : En) : bndS (kII f s ρ) ki = kIS (fun i ρ => bndS (f i ρ) ki) s ρ := by
  obtain ⟨m, d⟩ := s
  cases d <;> rfl
theorem c_r1 {fa : Sem1} (h : RS Γ (fun ρ => bndS (fa ρ) (kIS fun j ρ1 => grdS (c62 0 && c62 j) (ki (true, (iv 0 (j - 0).toNat).map isv) ρ1))) t C P) : RS Γ (fun ρ => bndS (iR1 fa ρ) ki) t C P :=
  h.congr fun ρ _ => by
    unfold iR1
    rw [bndS_bnd]
    congr 1; funext s ρ1
    rw [kii_bnd]
    congr 1; funext j ρ2
    rw [bndS_grd, rngI_iv, show c62 0 = true from rfl, Int.sub_zero]; rfl
theorem c_rng {u : List Int → Oc l w r ν} (h : ∀ xs, RS Γ (ki (true, xs.map isv)) (u xs) C P) : RS Γ (fun ρ => grdS (c62 i && c62 j) (ki (true, (iv i (j - i).toNat).map isv) ρ)) ((rngO i j).bind u) C P := by
  unfold rngO
  by_cases c : (c62 i && c62 j) = true
  · rw [if_pos c]; exact c_grd c (h _)
  · rw [if_neg c]; exact c_bad
theorem c_src {fa : Sem1} {kk : Sv → En → Rs (Bool × List Sv)} (h : RS Γ (fun ρ => bndS (fa ρ) fun s ρ1 => bndS (kk s ρ1) ki) t C P) : RS Γ (fun ρ => bndS (iSrc fa kk ρ) ki) t C P := h.congr fun _ _ => bndS_bnd _ _ _
theorem k_itL : ∀ ρ, kItL ⟨m, eL e xs⟩ ρ = .ok (!m.isT, xs.map fun x => mk m.kid (e x)) ρ := fun ρ => by
  show Rs.ok (!m.isT, (xs.map e).map (mk m.kid)) ρ = _
  rw [List.map_map]; rfl
theorem v_sl {ql qh : Bool} {fa : Sem1} {fl fh : SemO} {s u : Sv} {lo hi : Option Int} (h : Ev Γ fa s) (hh : held s.m (ql && qh) = true) (h1 : Ev Γ fl lo) (h2 : Ev Γ fh hi) (hk : ∀ ρ, kSl s lo hi ρ = .ok u ρ) : Ev Γ (fSl ql qh fa fl fh) u := fun ρ hρ => by
  unfold fSl
  rw [h ρ hρ]
  show grd (held s.m (ql && qh)) (bnd (fl ρ) _) = _
  rw [hh, h1 ρ hρ]
  show bnd (fh ρ) _ = _
  rw [h2 ρ hρ]; exact hk ρ
theorem v_noP : Ev Γ fNoP none := fun _ _ => rfl
theorem v_part {fa : Sem1} (h : Ev Γ fa ⟨m, .int i⟩) : Ev Γ (fPart fa) (some i) := fun ρ hρ => by
  unfold fPart; rw [h ρ hρ]; rfl
end
end MV
namespace MV
open PySem PySem.Spec PyProof.Rows L2 He
structure EqT {α : Type} [DecidableEq α] (e : α → Vl) (n : Nat) : Prop where
  lay : ∀ x, (toD (e x)).canLay0 = true
  dep : ∀ x, (toD (e x)).depth ≤ n
  eqv : ∀ x y, PyData.eqv (toD (e x)) (toD (e y)) = decide (x = y)
theorem EqT.up {α : Type} [DecidableEq α] {e : α → Vl} {n : Nat} (h : EqT e n) : EqT e (n + 1) := ⟨h.lay, fun x => Nat.le_succ_of_le (h.dep x), h.eqv⟩
theorem eqt_I : EqT eI 0 := ⟨fun _ => rfl, fun _ => Nat.le_refl _, fun x y => by
  show PyData.eqv (.int x) (.int y) = _
  by_cases h : x = y
  · subst h; simp [PyData.eqv]
  · simp [PyData.eqv, h]⟩
theorem eqt_B : EqT eB 0 := ⟨fun _ => rfl, fun _ => Nat.le_refl _, fun x y => by
  show PyData.eqv (.bool x) (.bool y) = _
  cases x <;> cases y <;> simp [PyData.eqv]⟩
theorem chars_inj : ∀ {a b : List Char}, a.map Char.toNat = b.map Char.toNat → a = b
  | [], [], _ => rfl
  | [], _ :: _, h => by simp at h
  | _ :: _, [], h => by simp at h
  | c :: a, d :: b, h => by
    rw [List.map_cons, List.map_cons] at h
    injection h with h1 h2
    rw [chars_inj h2, Char.toNat_inj.mp h1]
theorem strOf_inj {a b : List Char} (h : strOf a = strOf b) : a = b := by
  unfold strOf at h
  injection h with h
  exact chars_inj (congrArg Array.toList h)
theorem strOf_ok (a : List Char) : PyData.strOk (strOf a) = true := by
  unfold PyData.strOk strOf
  rw [← Array.all_toList, List.all_map]
  refine List.all_eq_true.mpr fun c _ => ?_
  show decide (c.toNat < 0x110000) = true
  have h := c.valid
  refine decide_eq_true ?_
  rcases h with h | ⟨_, h⟩
  · exact Nat.lt_trans h (by decide)
  · exact h
theorem eqt_S : EqT eS 0 := ⟨fun x => strOf_ok x, fun _ => Nat.le_refl _, fun x y => by
  show PyData.eqv (.str (strOf x)) (.str (strOf y)) = _
  by_cases h : x = y
  · subst h; simp [PyData.eqv]
  · have : strOf x ≠ strOf y := fun z => h (strOf_inj z)
    simp [PyData.eqv, h, this]⟩
section
variable {α β γ δ : Type} [DecidableEq α] [DecidableEq β] [DecidableEq γ] [DecidableEq δ] {e : α → Vl} {a : β → Vl} {b : γ → Vl} {d : δ → Vl} {n : Nat}
theorem eqt_alls (h : EqT e n) : (∀ xs : List α, PyData.canLayAll0 (toDs (xs.map e)) = true) ∧ (∀ xs : List α, PyData.depthAll (toDs (xs.map e)) ≤ n) ∧ ∀ xs ys : List α, PyData.eqvAll (toDs (xs.map e)) (toDs (ys.map e)) = decide (xs = ys) := by
  refine ⟨fun xs => ?_, fun xs => ?_, fun xs => ?_⟩
  · induction xs with
    | nil => rfl
    | cons x xs ih => show (PyData.canLay0 (toD (e x)) && PyData.canLayAll0 (toDs (xs.map e))) = true; rw [h.lay, ih]; rfl
  · induction xs with
    | nil => simp [toDs, PyData.depthAll]
    | cons x xs ih =>
      show PyData.depthAll (toD (e x) :: toDs (xs.map e)) ≤ n
      have := h.dep x
      simp only [PyData.depthAll]
      omega
  · induction xs with
    | nil => intro ys; cases ys <;> simp [toDs, PyData.eqvAll]
    | cons x xs ih =>
      intro ys
      cases ys with
      | nil => simp [toDs, PyData.eqvAll]
      | cons y ys =>
        show (PyData.eqv (toD (e x)) (toD (e y)) && PyData.eqvAll (toDs (xs.map e)) (toDs (ys.map e))) = _
        rw [h.eqv, ih]
        by_cases c : x = y
        · subst c; simp
        · simp [c]
theorem eqt_L (h : EqT e n) : EqT (eL e) (n + 1) := by
  obtain ⟨h1, h2, h3⟩ := eqt_alls h
  refine ⟨h1, fun x => ?_, h3⟩
  show PyData.depth (.list (toDs (x.map e))) ≤ _
  simp only [PyData.depth]
  exact Nat.succ_le_succ (h2 x)
theorem eqt_T (h : EqT e n) : EqT (eT e) (n + 1) := by
  obtain ⟨h1, h2, h3⟩ := eqt_alls h
  refine ⟨h1, fun x => ?_, h3⟩
  show PyData.depth (.tuple (toDs (x.map e))) ≤ _
  simp only [PyData.depth]
  exact Nat.succ_le_succ (h2 x)
variable {m m' : Md} {x y : α}
theorem gEq_t (h : EqT e n) (hn : n ≤ 64 := by decide) : gEq (e x) (e y) = some (.bl (decide (x = y))) := by
  have hs : ∀ z, SeqAt.shaped (toD (e z)) = true := fun z => by
    show ((toD (e z)).canLay0 && decide ((toD (e z)).depth ≤ 64)) = true
    rw [h.lay, decide_eq_true (Nat.le_trans (h.dep z) hn)]; rfl
  unfold gEq cEq veq
  rw [hs, hs, h.eqv]; rfl
theorem k_eq (h : EqT e n) (hn : n ≤ 64 := by decide) : ∀ ρ, kS gEq ⟨m, e x⟩ ⟨m', e y⟩ ρ = .ok (isb (decide (x = y))) ρ := fun ρ => by
  show (match gEq (e x) (e y) with | some d => if isSc d then Rs.ok (Sv.mk .shr d) ρ else .bad | none => .bad) = _
  rw [gEq_t h hn]; rfl
theorem k_ne (h : EqT e n) (hn : n ≤ 64 := by decide) : ∀ ρ, kS gNe ⟨m, e x⟩ ⟨m', e y⟩ ρ = .ok (isb (decide (x ≠ y))) ρ := fun ρ => by
  have : gNe (e x) (e y) = some (.bl (decide (x ≠ y))) := by
    have hs : ∀ z, SeqAt.shaped (toD (e z)) = true := fun z => by
      show ((toD (e z)).canLay0 && decide ((toD (e z)).depth ≤ 64)) = true
      rw [h.lay, decide_eq_true (Nat.le_trans (h.dep z) hn)]; rfl
    unfold gNe cEq veq
    rw [hs, hs, h.eqv, decide_not]; rfl
  show (match gNe (e x) (e y) with | some d => if isSc d then Rs.ok (Sv.mk .shr d) ρ else .bad | none => .bad) = _
  rw [this]; rfl
end
section
variable {m m' : Md} {neg : Bool} {α : Type} [DecidableEq α] {e : α → Vl} {x : α} {xs : List α}
structure InT (e : α → Vl) : Prop where
  sc : ∀ x, isSc (e x) = true
  eq : ∀ x y, eqF (e y) (e x) = decide (x = y)
end
def lcK (own : List Nat) (tgt : SemG) (cond : SemB) (elt : Sem1) (items : List Sv) (k : Sv → En → Sr) : SemS := fun ρ1 => bndS (compL own tgt cond elt items (wipeE ρ1 own) []) fun ds ρ2 => k ⟨.own, .lst ds⟩ ρ2
def wipeG (Γ : List Sl) : List Nat → List Sl
  | [] => Γ
  | v :: vs => (wipeG Γ vs).set v .no
theorem wipeG.env {Γ : List Sl} {ρ : En} (h : EnvR Γ ρ) : ∀ own : List Nat, EnvR (wipeG Γ own) (wipeE ρ own)
  | [] => h
  | v :: vs => (wipeG.env h vs).set (show SlR .no none from rfl)
def eltS (cond : SemB) (elt : Sem1) : SemS := fun ρ => bndS (cond ρ) fun b ρ1 => bsel b (bndS (elt ρ1) retK) (.next ρ1)
def surE : Sur Empty Unit Unit := ⟨fun _ _ => False, fun _ _ _ _ => False, fun _ _ => True⟩
def PE {β : Type} (e : β → Vl) (G : List Sl) : Option β → Sr → Prop := fun o r => match o with
  | none => ∃ ρ', r = .next ρ' ∧ EnvR G ρ'
  | some y => ∃ ρ', r = .ret ⟨.shr, e y⟩ ρ' ∧ EnvR G ρ'
section
variable {l l' w r ν α β γ : Type} {Γ Δ : List Sl} {C : Sur l w r} {P : ν → Sr → Prop} {t : Oc l w r ν} {e : β → Vl} {k : Sv → En → Sr} {own : List Nat} {tgt : SemG} {cond : SemB} {elt : Sem1}
def lcF (own : List Nat) (tgt : SemG) (cond : SemB) (elt : Sem1) (q : Bool) (k : Sv → En → Sr) : Bool × List Sv → En → Sr := fun its ρ1 => grdS (its.1 || q) (lcK own tgt cond elt its.2 k ρ1)
theorem c_lc {q : Bool} {src : SemI} (h : RS Γ (fun ρ => bndS (src ρ) (lcF own tgt cond elt q k)) t C P) : RS Γ (fun ρ => bndS (fLc q own src tgt cond elt ρ) k) t C P :=
  h.congr fun ρ _ => by
    unfold fLc
    rw [bndS_bnd]
    congr 1; funext its ρ1
    rw [bndS_grd, bndS_bnd]; rfl
theorem comp_go {v : α → Sv} {D : List Sl} {TG : α → List Sl} {te : α → Oc Empty Unit Unit (Option β)} (ht : ∀ x ρ, EnvR D ρ → ∃ ρ1, tgt (v x) ρ = some ρ1 ∧ EnvR (TG x) ρ1) (hw : ∀ x, wipeG (TG x) own = D) (he : ∀ x, RS (TG x) (eltS cond elt) (te x) surE (PE e (TG x))) :
    ∀ (xs : List α) (acc : List β) (ρ : En), EnvR D ρ → match (compO te xs acc : Oc l w r (List β)) with
      | .next ys => ∃ ρ', compL own tgt cond elt (xs.map v) ρ (acc.map e) = .ok (ys.map e) ρ' ∧ EnvR D ρ'
      | .bad => True
      | _ => False
  | [], acc, ρ, h => ⟨ρ, rfl, h⟩
  | x :: xs, acc, ρ, h => by
    obtain ⟨ρ1, e1, h1⟩ := ht x ρ h
    have h2 := he x ρ1 h1
    have el : compL own tgt cond elt ((x :: xs).map v) ρ (acc.map e) = bndN (cond ρ1) fun b ρ2 => match b with
      | true => bndN (elt ρ2) fun s ρ3 => grd (isShr s.m && decide ((acc.map e).length < sizeLine)) (compL own tgt cond elt (xs.map v) (wipeE ρ3 own) (acc.map e ++ [s.d]))
      | false => compL own tgt cond elt (xs.map v) (wipeE ρ2 own) (acc.map e) := by
      rw [List.map_cons]
      show (match tgt (v x) ρ with | some ρ1 => _ | none => _) = _
      first | (rw [e1]; done) | (rw [e1]; rfl)
    have ec : (compO te (x :: xs) acc : Oc l w r (List β)) = match te x with
      | .next none => compO te xs acc
      | .next (some y) => if acc.length < sizeLine then compO te xs (acc ++ [y]) else .bad
      | _ => .bad := rfl
    rw [el, ec]
    cases hx : te x with
    | next o =>
      rw [hx] at h2
      cases o with
      | none =>
        obtain ⟨ρ', e3, h3⟩ := h2
        have : ∃ ρ2, cond ρ1 = .ok false ρ2 ∧ ρ2 = ρ' := by
          unfold eltS at e3
          cases q : cond ρ1 with
          | ok b ρ2 =>
            rw [q] at e3
            have e3 : bsel b (bndS (elt ρ2) retK) (.next ρ2) = .next ρ' := e3
            cases b with
            | true =>
              have e3 : bndS (elt ρ2) retK = .next ρ' := e3
              cases q2 : elt ρ2 <;> rw [q2] at e3 <;> cases e3
            | false =>
              have e3 : Sr.next ρ2 = .next ρ' := e3
              injection e3 with e3
              exact ⟨ρ2, rfl, e3⟩
          | exc _ _ _ => rw [q] at e3; cases e3
          | bad => rw [q] at e3; cases e3
        obtain ⟨ρ2, q1, rfl⟩ := this
        rw [q1]
        exact comp_go ht hw he xs acc _ (by rw [← hw x]; exact wipeG.env h3 own)
      | some y =>
        obtain ⟨ρ', e3, h3⟩ := h2
        have : ∃ ρ2, cond ρ1 = .ok true ρ2 ∧ elt ρ2 = .ok ⟨.shr, e y⟩ ρ' := by
          unfold eltS at e3
          cases q : cond ρ1 with
          | ok b ρ2 =>
            rw [q] at e3
            have e3 : bsel b (bndS (elt ρ2) retK) (.next ρ2) = .ret ⟨.shr, e y⟩ ρ' := e3
            cases b with
            | true =>
              have e3 : bndS (elt ρ2) retK = .ret ⟨.shr, e y⟩ ρ' := e3
              cases q2 : elt ρ2 with
              | ok s ρ3 =>
                rw [q2] at e3
                have e3 : Sr.ret s ρ3 = .ret ⟨.shr, e y⟩ ρ' := e3
                injection e3 with e4 e5
                exact ⟨ρ2, rfl, by rw [q2, e4, e5]⟩
              | exc _ _ _ => rw [q2] at e3; cases e3
              | bad => rw [q2] at e3; cases e3
            | false => have e3 : Sr.next ρ2 = .ret ⟨.shr, e y⟩ ρ' := e3; cases e3
          | exc _ _ _ => rw [q] at e3; cases e3
          | bad => rw [q] at e3; cases e3
        obtain ⟨ρ2, q1, q2⟩ := this
        by_cases c : acc.length < sizeLine
        · rw [q1]
          show match (if acc.length < sizeLine then compO te xs (acc ++ [y]) else .bad : Oc l w r (List β)) with
            | .next ys => ∃ ρ', bndN (elt ρ2) (fun s ρ3 => grd (isShr s.m && decide ((acc.map e).length < sizeLine)) (compL own tgt cond elt (xs.map v) (wipeE ρ3 own) (acc.map e ++ [s.d]))) = .ok (ys.map e) ρ' ∧ EnvR D ρ'
            | .bad => True
            | _ => False
          rw [if_pos c, q2]
          have := comp_go ht hw he xs (acc ++ [y]) (wipeE ρ' own) (by rw [← hw x]; exact wipeG.env h3 own)
          rw [List.map_append] at this
          rw [List.length_map, decide_eq_true c]
          exact this
        · show match (if acc.length < sizeLine then compO te xs (acc ++ [y]) else .bad : Oc l w r (List β)) with
            | .next ys => _
            | .bad => True
            | _ => False
          rw [if_neg c]; exact trivial
    | brk s => exact s.elim
    | cont s => exact s.elim
    | ret x o => rw [hx] at h2; obtain ⟨_, _, _, z⟩ := h2; exact z.elim
    | exc c fs o => exact trivial
    | bad => exact trivial
theorem c_comp {bb q : Bool} {v : α → Sv} {xs : List α} {D : List Sl} {TG : α → List Sl} {te : α → Oc Empty Unit Unit (Option β)} {u : List β → Oc l w r ν} (hq : (bb || q) = true) (e : β → Vl) (hd : wipeG Γ own = D) (ht : ∀ x ρ, EnvR D ρ → ∃ ρ1, tgt (v x) ρ = some ρ1 ∧ EnvR (TG x) ρ1) (hw : ∀ x, wipeG (TG x) own = D) (he : ∀ x, RS (TG x) (eltS cond elt) (te x) surE (PE e (TG x))) (h : ∀ ys, RS D (k ⟨.own, eL e ys⟩) (u ys) C P) :
    RS Γ (lcF own tgt cond elt q k (bb, xs.map v)) ((compO te xs []).bind u) C P := by
  refine RS.congr (g := lcK own tgt cond elt (xs.map v) k) (fun ρ _ => by show grdS (bb || q) _ = _; rw [hq]; rfl) ?_
  refine RS.mk fun ρ hρ => ?_
  have hD : EnvR D (wipeE ρ own) := by rw [← hd]; exact wipeG.env hρ own
  have g := comp_go (l := l) (w := w) (r := r) ht hw he xs [] _ hD
  cases q : (compO te xs [] : Oc l w r (List β)) with
  | next ys =>
    rw [q] at g
    obtain ⟨ρ', e1, h1⟩ := g
    have e1 : compL own tgt cond elt (xs.map v) (wipeE ρ own) [] = .ok (ys.map e) ρ' := e1
    have := h ys ρ' h1
    rw [show k ⟨.own, eL e ys⟩ ρ' = lcK own tgt cond elt (xs.map v) k ρ by unfold lcK; rw [e1]; rfl] at this
    exact this
  | brk _ => rw [q] at g; exact g.elim
  | cont _ => rw [q] at g; exact g.elim
  | ret _ _ => rw [q] at g; exact g.elim
  | exc _ _ _ => rw [q] at g; exact g.elim
  | bad => exact trivial
theorem compO_plain {p : α → Prop} [DecidablePred p] {f : α → β} : ∀ (xs : List α) (acc : List β), acc.length + xs.length ≤ sizeLine → (compO (fun x => if p x then .next (some (f x)) else .next none) xs acc : Oc l w r (List β)) = .next (acc ++ (xs.filter fun x => decide (p x)).map f)
  | [], acc, _ => by show Oc.next acc = _; simp
  | x :: xs, acc, h => by
    have h : acc.length + (xs.length + 1) ≤ sizeLine := h
    by_cases c : p x
    · have e : (compO (fun x => if p x then .next (some (f x)) else .next none) (x :: xs) acc : Oc l w r (List β)) = compO (fun x => if p x then .next (some (f x)) else .next none) xs (acc ++ [f x]) := by
        rw [compO, if_pos c]
        show (if acc.length < sizeLine then _ else _) = _
        rw [if_pos (by omega)]
      rw [e, compO_plain xs _ (by rw [List.length_append]; simp; omega), List.filter_cons_of_pos (by simpa using c)]
      simp
    · have e : (compO (fun x => if p x then .next (some (f x)) else .next none) (x :: xs) acc : Oc l w r (List β)) = compO (fun x => if p x then .next (some (f x)) else .next none) xs acc := by
        rw [compO, if_neg c]
      rw [e, compO_plain xs _ (by omega), List.filter_cons_of_neg (by simpa using c)]
theorem c_lcP {bb q : Bool} {v : α → Sv} {xs : List α} {D : List Sl} {TG : α → List Sl} {p : α → Prop} [DecidablePred p] {f : α → β} {u : List β → Oc l w r ν} (hq : (bb || q) = true) (e : β → Vl) (hd : wipeG Γ own = D) (ht : ∀ x ρ, EnvR D ρ → ∃ ρ1, tgt (v x) ρ = some ρ1 ∧ EnvR (TG x) ρ1) (hw : ∀ x, wipeG (TG x) own = D) (hc : ∀ x, Ev (TG x) cond (decide (p x))) (he : ∀ x, Ev (TG x) elt ⟨.shr, e (f x)⟩) (h : ∀ ys, RS D (k ⟨.own, eL e ys⟩) (u ys) C P) :
    RS Γ (lcF own tgt cond elt q k (bb, xs.map v)) ((lcO xs p f).bind u) C P := by
  unfold lcO
  by_cases c : xs.length ≤ sizeLine
  · rw [if_pos c]
    have := c_comp (Γ := Γ) (C := C) (P := P) (xs := xs) (te := fun x => if p x then .next (some (f x)) else .next none) hq e hd ht hw (fun x => RS.mk fun ρ hρ => by
      have e1 : eltS cond elt ρ = bsel (decide (p x)) (.ret ⟨.shr, e (f x)⟩ ρ) (.next ρ) := by
        unfold eltS
        rw [hc x ρ hρ]
        show bsel _ (bndS (elt ρ) retK) _ = _
        rw [he x ρ hρ]; rfl
      by_cases q : p x
      · rw [if_pos q]
        exact ⟨ρ, by rw [e1, decide_eq_true q]; rfl, hρ⟩
      · rw [if_neg q]
        exact ⟨ρ, by rw [e1, decide_eq_false q]; rfl, hρ⟩) h
    rw [compO_plain xs [] (by simpa using c)] at this
    simpa using this
  · rw [if_neg c]; exact c_bad
theorem c_lmP {bb q : Bool} {v : α → Sv} {xs : List α} {D : List Sl} {TG : α → List Sl} {f : α → β} {u : List β → Oc l w r ν} (hq : (bb || q) = true) (e : β → Vl) (hd : wipeG Γ own = D) (ht : ∀ x ρ, EnvR D ρ → ∃ ρ1, tgt (v x) ρ = some ρ1 ∧ EnvR (TG x) ρ1) (hw : ∀ x, wipeG (TG x) own = D) (he : ∀ x, Ev (TG x) elt ⟨.shr, e (f x)⟩) (h : ∀ ys, RS D (k ⟨.own, eL e ys⟩) (u ys) C P) :
    RS Γ (lcF own tgt bYes elt q k (bb, xs.map v)) ((lmO xs f).bind u) C P := by
  have := c_lcP (Γ := Γ) (C := C) (P := P) (cond := bYes) (p := fun _ => True) (f := f) (xs := xs) hq e hd ht hw (fun _ _ _ => rfl) he h
  have e1 : (lcO xs (fun _ => True) f : Oc l w r (List β)) = lmO xs f := by
    unfold lcO lmO
    rw [List.filter_eq_self.mpr (fun _ _ => by simp)]
  rw [e1] at this
  exact this
theorem e_some {y : β} {G : List Sl} (h : Wke Γ G) : RS Γ (retK ⟨.shr, e y⟩) (.next (some y) : Oc Empty Unit Unit (Option β)) surE (PE e G) := RS.mk fun ρ hρ => ⟨ρ, rfl, h.env hρ⟩
theorem e_none {G : List Sl} (h : Wke Γ G) : RS Γ Sr.next (.next none : Oc Empty Unit Unit (Option β)) surE (PE e G) := RS.mk fun ρ hρ => ⟨ρ, rfl, h.env hρ⟩
theorem e_go {tt : Oc Empty Unit Unit (Option β)} {Q : Option β → Sr → Prop} (h : RS Γ (fun ρ => bndS (cond ρ) fun b ρ1 => bsel b (bndS (elt ρ1) retK) (.next ρ1)) tt surE Q) : RS Γ (eltS cond elt) tt surE Q := h
theorem xE : ∀ ρ, EnvR Γ ρ → surE.ex () ρ := fun _ _ => trivial
theorem t_nmC {n : Nat} {v : α → Sv} {D : List Sl} (h1 : noIoG D n = true) (h2 : ∀ x, sto (v x).m = true) : ∀ (x : α) (ρ : En), EnvR D ρ → ∃ ρ1, gNm n (v x) ρ = some ρ1 ∧ EnvR (D.set n (.vl (v x))) ρ1 := fun x ρ hρ =>
  t_nm (G := fun _ : Unit => D) (fun _ => h1) h2 x () ρ hρ
def fldK (i : Nat) (f : Str) (cs : List Str) (s : Sv) (ρ1 : En) : Sr := match ρ1[i]? with
  | some (some ⟨m, .ins c fs⟩) => grdS (mutb m && decide (c ∈ cs) && decide (fs.length < 1000)) (.next (ρ1.set i (some ⟨m, .ins c (putFV f s.d fs)⟩)))
  | _ => .bad
theorem s_fld {i : Nat} {f : Str} {cs : List Str} {fa : Sem1} {g : SemS} (h : RS Γ (fun ρ => bndS (fa ρ) fun s ρ1 => grdS (isShr s.m) (seqK (fldK i f cs s ρ1) g)) t C P) : RS Γ (sSeq (sFldS i f cs fa) g) t C P :=
  h.congr fun ρ _ => by
    rw [seq_eq]
    unfold sFldS
    rw [seqK_bndS]
    congr 1; funext s ρ1
    rw [seqK_grdS]; rfl
theorem c_fld {i : Nat} {f : Str} {cs : List Str} {m : Md} {c : Str} {d : Vl} {fs fs' : List (Str × Vl)} {g : SemS} (h0 : Γ[i]? = some (.vl ⟨m, .ins c fs⟩)) (hm : (mutb m && decide (c ∈ cs) && decide (fs.length < 1000)) = true) (e : putFV f d fs = fs') (h : RS (Γ.set i (.vl ⟨m, .ins c fs'⟩)) g t C P) : RS Γ (fun ρ => seqK (fldK i f cs ⟨.shr, d⟩ ρ) g) t C P := by
  refine RS.mk fun ρ hρ => ?_
  have := h _ (hρ.set (show SlR (.vl ⟨m, .ins c fs'⟩) (some ⟨m, .ins c fs'⟩) from rfl) (i := i))
  have e1 : g (ρ.set i (some ⟨m, .ins c fs'⟩)) = seqK (fldK i f cs ⟨.shr, d⟩ ρ) g := by
    unfold fldK
    rw [hρ.var h0]
    show _ = seqK (grdS (mutb m && decide (c ∈ cs) && decide (fs.length < 1000)) (.next (ρ.set i (some ⟨m, .ins c (putFV f d fs)⟩)))) g
    rw [hm, e]; rfl
  rw [e1] at this
  exact this
def tryO {l w w' r ν : Type} (g : w' → w) (tf : Oc l w' r ν) (th : Str → List (Str × Vl) → w' → Oc l w r ν) : Oc l w r ν := match tf with
  | .next a => .next a
  | .brk s => .brk s
  | .cont s => .cont s
  | .ret x o => .ret x (g o)
  | .exc c fs o => th c fs o
  | .bad => .bad
@[simp] theorem tryO_next {w' : Type} (g : w' → w) (a : ν) (th : Str → List (Str × Vl) → w' → Oc l w r ν) : tryO g (.next a) th = .next a := rfl
@[simp] theorem tryO_ret {w' : Type} (g : w' → w) (x : r) (o : w') (th : Str → List (Str × Vl) → w' → Oc l w r ν) : tryO g (.ret x o) th = .ret x (g o) := rfl
@[simp] theorem tryO_exc {w' : Type} (g : w' → w) (c : Str) (fs : List (Str × Vl)) (o : w') (th : Str → List (Str × Vl) → w' → Oc l w r ν) : tryO g (.exc c fs o) th = th c fs o := rfl
@[simp] theorem tryO_bad {w' : Type} (g : w' → w) (th : Str → List (Str × Vl) → w' → Oc l w r ν) : tryO g .bad th = .bad := rfl
def Sur.try_ {w' : Type} (C : Sur l w r) (g : w' → w) (Gx : w' → List Sl) : Sur l w' r where
  lp := C.lp
  rt := fun x o s ρ => C.rt x (g o) s ρ
  ex := fun o ρ => EnvR (Gx o) ρ
theorem xtry {w' : Type} {g : w' → w} {Gx : w' → List Sl} {o : w'} (h : Wke Γ (Gx o)) : ∀ ρ, EnvR Γ ρ → (C.try_ g Gx).ex o ρ := fun ρ hρ => h.env hρ
theorem pn_ne {G : ν → List Sl} (a : ν) (c : Str) (fs : List (Str × Vl)) (ρ' : En) : ¬ PN G a (.exc c fs ρ') := fun ⟨_, z, _⟩ => by cases z
theorem s_try {w' : Type} {f : SemS} {hs : List HSem} {g : w' → w} {Gx : w' → List Sl} {tf : Oc l w' r ν} {th : Str → List (Str × Vl) → w' → Oc l w r ν} (hP : ∀ a c fs ρ', ¬ P a (.exc c fs ρ')) (hf : RS Γ f tf (C.try_ g Gx) P) (hh : ∀ c fs o, RS (Gx o) (fun ρ => hRun hs c fs ρ) (th c fs o) C P) : RS Γ (sTry f hs) (tryO g tf th) C P := by
  refine RS.mk fun ρ hρ => ?_
  have hf := hf ρ hρ
  have e : sTry f hs ρ = match f ρ with
    | .exc c fs ρ1 => hRun hs c fs ρ1
    | r => r := rfl
  cases tf with
  | next a =>
    have hf : P a (f ρ) := hf
    show P a (sTry f hs ρ)
    rw [e]
    cases q : f ρ with
    | exc c fs ρ' => rw [q] at hf; exact (hP a c fs ρ' hf).elim
    | next _ => rw [q] at hf; exact hf
    | brk _ => rw [q] at hf; exact hf
    | cont _ => rw [q] at hf; exact hf
    | ret _ _ => rw [q] at hf; exact hf
    | bad => rw [q] at hf; exact hf
  | brk s => obtain ⟨ρ', e1, k⟩ := hf; exact ⟨ρ', by rw [e, e1], k⟩
  | cont s => obtain ⟨ρ', e1, k⟩ := hf; exact ⟨ρ', by rw [e, e1], k⟩
  | ret x o => obtain ⟨s, ρ', e1, k⟩ := hf; exact ⟨s, ρ', by rw [e, e1], k⟩
  | exc c fs o =>
    obtain ⟨ρ', e1, k⟩ := hf
    have := hh c fs o ρ' k
    have e2 : sTry f hs ρ = hRun hs c fs ρ' := by rw [e, e1]
    show match th c fs o with
      | .next a => P a (sTry f hs ρ)
      | .brk s => ∃ ρ', sTry f hs ρ = .brk ρ' ∧ C.lp s ρ'
      | .cont s => ∃ ρ', sTry f hs ρ = .cont ρ' ∧ C.lp s ρ'
      | .ret x o => ∃ s ρ', sTry f hs ρ = .ret s ρ' ∧ C.rt x o s ρ'
      | .exc c fs o => ∃ ρ', sTry f hs ρ = .exc c fs ρ' ∧ C.ex o ρ'
      | .bad => True
    rw [e2]
    exact this
  | bad => exact trivial
theorem h_end {c : Str} {fs : List (Str × Vl)} {o : w} (hx : ∀ ρ, EnvR Γ ρ → C.ex o ρ) : RS Γ (fun ρ => hRun [] c fs ρ) (.exc c fs o) C P := RS.mk fun ρ hρ => ⟨ρ, rfl, hx ρ hρ⟩
def Sur.nx (C : Sur l w r) : Sur l w r := ⟨C.lp, C.rt, fun _ _ => False⟩
theorem h_as {i : Nat} {c : Str} {fs : List (Str × Vl)} {yes no : List Str} {su : Str → List (Str × Vl) → SemS} {hs : List HSem} {T1 T2 : Oc l w r ν} (hi : noIoG Γ i = true) (hP : ∀ a c fs ρ', ¬ P a (.exc c fs ρ')) (hn : ∀ a x, P a x → match x with
    | .next ρ => P a (.next (ρ.set i none))
    | .ret _ _ => True
    | _ => False) (hl : ∀ s ρ, C.lp s ρ → C.lp s (ρ.set i none)) (h1 : RS (Γ.set i .no) (su c fs) T1 C.nx P) (h2 : RS Γ (fun ρ => hRun hs c fs ρ) T2 C P) :
    RS Γ (fun ρ => hRun (⟨some i, tabX yes no, su⟩ :: hs) c fs ρ) (if yes.contains c then T1 else if no.contains c then T2 else .bad) C P := by
  have e : ∀ ρ, hRun (⟨some i, tabX yes no, su⟩ :: hs) c fs ρ = match tabX yes no c with
    | some true => (match (if noIo ρ i && decide (i < ρ.length) then some (ρ.set i none) else none) with
      | some ρ1 => unR (some i) (su c fs ρ1)
      | none => .bad)
    | some false => hRun hs c fs ρ
    | none => .bad := fun _ => rfl
  by_cases q : yes.contains c = true
  · rw [if_pos q]
    refine RS.mk fun ρ hρ => ?_
    have k := h1 (ρ.set i none) (hρ.set (show SlR .no none from rfl))
    have hlen : i < ρ.length := by
      unfold noIoG at hi
      cases g : Γ[i]? with
      | none => rw [g] at hi; cases hi
      | some a =>
        obtain ⟨o, h3, _⟩ := hρ.get g
        rcases Nat.lt_or_ge i ρ.length with z | z
        · exact z
        · rw [List.getElem?_eq_none z] at h3; cases h3
    have e1 : hRun (⟨some i, tabX yes no, su⟩ :: hs) c fs ρ = unR (some i) (su c fs (ρ.set i none)) := by
      rw [e ρ, show tabX yes no c = some true by unfold tabX; rw [if_pos q]]
      show (match (if noIo ρ i && decide (i < ρ.length) then some (ρ.set i none) else none) with
      | some ρ1 => unR (some i) (su c fs ρ1)
      | none => .bad) = _
      rw [noIoG.env hi hρ, decide_eq_true hlen]; rfl
    cases T1 with
    | next a =>
      have k : P a (su c fs (ρ.set i none)) := k
      show P a (hRun (⟨some i, tabX yes no, su⟩ :: hs) c fs ρ)
      rw [e1]
      have := hn a _ k
      cases z : su c fs (ρ.set i none) with
      | next ρ1 => rw [z] at this; exact this
      | ret s ρ1 => rw [z] at k; exact k
      | brk _ => rw [z] at this; exact this.elim
      | cont _ => rw [z] at this; exact this.elim
      | exc _ _ _ => rw [z] at this; exact this.elim
      | bad => rw [z] at this; exact this.elim
    | brk s => obtain ⟨ρ', q1, q2⟩ := k; exact ⟨ρ'.set i none, e1.trans (by rw [q1]; rfl), hl _ _ q2⟩
    | cont s => obtain ⟨ρ', q1, q2⟩ := k; exact ⟨ρ'.set i none, e1.trans (by rw [q1]; rfl), hl _ _ q2⟩
    | ret x o => obtain ⟨s, ρ', q1, q2⟩ := k; exact ⟨s, ρ', e1.trans (by rw [q1]; rfl), q2⟩
    | exc cc ff o => obtain ⟨ρ', _, z⟩ := k; exact z.elim
    | bad => exact trivial
  · rw [if_neg q]
    by_cases q2 : no.contains c = true
    · rw [if_pos q2]
      exact h2.congr fun ρ _ => by rw [e ρ, show tabX yes no c = some false by unfold tabX; rw [if_neg q, if_pos q2]]
    · rw [if_neg q2]; exact c_bad
theorem set_jk {G : List Sl} {i : Nat} {ρ : En} (h : G[i]? = some .jk ∨ G[i]? = some .no) (hρ : EnvR G ρ) : EnvR G (ρ.set i none) := by
  have : ∀ a, G[i]? = some a → G = G.set i a := fun a e => by
    apply List.ext_getElem?
    intro j
    rw [List.getElem?_set]
    by_cases c : i = j
    · subst c
      rw [if_pos rfl, e]
      rcases Nat.lt_or_ge i G.length with z | z
      · rw [if_pos z]
      · rw [List.getElem?_eq_none z] at e; cases e
    · rw [if_neg c]
  rcases h with h | h
  · rw [this _ h]; exact hρ.set (show SlR .jk none from trivial)
  · rw [this _ h]; exact hρ.set (show SlR .no none from rfl)
theorem hn_N {i : Nat} {G : ν → List Sl} (h : ∀ a, (G a)[i]? = some .jk ∨ (G a)[i]? = some .no) : ∀ (a : ν) (x : Sr), PN G a x → match x with
    | .next ρ => PN G a (.next (ρ.set i none))
    | .ret _ _ => True
    | _ => False := fun a x ⟨ρ', e, k⟩ => by
  subst e
  exact ⟨_, rfl, set_jk (h a) k⟩
theorem hl_0 {pm : List PM} {rm : Bool} {eo : w → List Vl} {er : r → Vl} {i : Nat} : ∀ s ρ, (surF pm rm eo er).lp s ρ → (surF pm rm eo er).lp s (ρ.set i none) := fun s => s.elim
def xfI (fs : List (Str × Vl)) (f : Str) : Oc l w r Int := match fs.lookup f with
  | some (.int i) => .next i
  | _ => .bad
theorem c_xfI {fs : List (Str × Vl)} {f : Str} {u : Int → Oc l w r ν} (h : ∀ a, RS Γ (k (isv a)) (u a) C P) : RS Γ (fun ρ => bndS (fXf fs f ρ) k) ((xfI fs f).bind u) C P := by
  have e : ∀ ρ, fXf fs f ρ = match fs.lookup f with | some d => .ok ⟨.shr, d⟩ ρ | none => .bad := fun _ => rfl
  unfold xfI
  split
  · rename_i i q
    exact c_ok (fun ρ => by rw [e, q]) (h i)
  · exact c_bad
end
end MV
namespace MV
open PySem PySem.Spec PyProof.Rows L2 He
section
variable {l l' w r ν α β γ : Type} {Γ Δ : List Sl} {C : Sur l w r} {P : ν → Sr → Prop} {t : Oc l w r ν} {m m' : Md} {k : Sv → En → Sr}
theorem v_str {z : Str} {cs : List Char} (h : strOf cs = z) : Ev Γ (fC (.str z)) (sv (eS cs)) := fun _ _ => by rw [← h]; rfl
theorem v_isx {b : Bool} : Ev Γ (fIsX b) (isb b) := fun _ _ => rfl
theorem bt (b : Bool) : b = decide (b = true) := (Bool.decide_eq_true (b := b)).symm
theorem not_dec {b : Bool} {p : Prop} [Decidable p] (h : b = decide p) : (!b) = decide (¬ p) := by rw [h, decide_not]
theorem c_int {i : Int} {F : Int → En → Sr} (h : RS Γ (F i) t C P) : RS Γ (kIS F ⟨m, .int i⟩) t C P := h
theorem c_grd0 {f : SemS} (g : RS Γ f t C P) : RS Γ f t C P := g
def eqO (x y : Vl) : Oc l w r Bool := if cEq x y then .next (veq x y) else .bad
def neO (x y : Vl) : Oc l w r Bool := if cEq x y then .next (!veq x y) else .bad
theorem c_eqO {x y : Vl} {u : Bool → Oc l w r ν} (h : ∀ b, RS Γ (k (isb b)) (u b) C P) : RS Γ (fun ρ => bndS (kS gEq ⟨m, x⟩ ⟨m', y⟩ ρ) k) ((eqO x y).bind u) C P := by
  unfold eqO
  by_cases c : cEq x y = true
  · rw [if_pos c]
    refine c_ok (fun ρ => ?_) (h _)
    show (match (if cEq x y then some (Vl.bl (veq x y)) else none) with | some d => if isSc d then Rs.ok (Sv.mk .shr d) ρ else .bad | none => .bad) = _
    rw [if_pos c]; rfl
  · rw [if_neg c]; exact c_bad
theorem c_neO {x y : Vl} {u : Bool → Oc l w r ν} (h : ∀ b, RS Γ (k (isb b)) (u b) C P) : RS Γ (fun ρ => bndS (kS gNe ⟨m, x⟩ ⟨m', y⟩ ρ) k) ((neO x y).bind u) C P := by
  unfold neO
  by_cases c : cEq x y = true
  · rw [if_pos c]
    refine c_ok (fun ρ => ?_) (h _)
    show (match (if cEq x y then some (Vl.bl (!veq x y)) else none) with | some d => if isSc d then Rs.ok (Sv.mk .shr d) ρ else .bad | none => .bad) = _
    rw [if_pos c]; rfl
  · rw [if_neg c]; exact c_bad
theorem eLV {e : α → Vl} {xs : List α} : eL e xs = eL eV (xs.map e) := by
  unfold eL
  rw [List.map_map]; rfl
theorem c_catV {e : α → Vl} {e' : β → Vl} {xs : List α} {ys : List β} {u : List Vl → Oc l w r ν} (hl : lft m (xs.map e) = true) (hl' : lft m' (ys.map e') = true) (h : ∀ a, RS Γ (k ⟨.own, eL eV a⟩) (u a) C P) : RS Γ (fun ρ => bndS (kAdd ⟨m, eL e xs⟩ ⟨m', eL e' ys⟩ ρ) k) ((catO (xs.map e) (ys.map e')).bind u) C P := by
  have := c_cat (Γ := Γ) (C := C) (P := P) (e := eV) (m := m) (m' := m') (xs := xs.map e) (ys := ys.map e') (u := u) (by rw [List.map_map]; exact hl) (by rw [List.map_map]; exact hl') h
  rw [← eLV, ← eLV] at this
  exact this
def getO (x : Option α) : Oc l w r α := match x with
  | some a => .next a
  | none => .bad
@[simp] theorem getO_some (a : α) : (getO (some a) : Oc l w r α) = .next a := rfl
end
structure Drw where
  v : Int
  p : Nat
  cs : List Int
  v0 : 0 ≤ v
  pl : p ≤ cs.length
  c63 : cs.length ≤ 63
def eDrw (d : Drw) : Vl := .lst [.int d.v, .int d.p, .lst (d.cs.map Vl.int)]
def iabs (i : Int) : Int := if i < 0 then -i else i
def skipZ (cs : List Int) : Nat → Int → Nat → Int × Nat
  | 0, v, p => (v, p)
  | n + 1, v, p => if v = 0 then (if p < cs.length then skipZ cs n (iabs (cs.getD p 0)) (p + 1) else (v, p)) else (v, p)
theorem skipZ_ok {cs : List Int} : ∀ (n : Nat) (v : Int) (p : Nat), 0 ≤ v → p ≤ cs.length → 0 ≤ (skipZ cs n v p).1 ∧ (skipZ cs n v p).2 ≤ cs.length
  | 0, _, _, h, k => ⟨h, k⟩
  | n + 1, v, p, h, k => by
    unfold skipZ
    split
    · split
      · exact skipZ_ok n _ _ (by unfold iabs; split <;> omega) (by omega)
      · exact ⟨h, k⟩
    · exact ⟨h, k⟩
def Drw.sk (d : Drw) : Int × Nat := skipZ d.cs (d.cs.length - d.p + 1) d.v d.p
def t_l_draw (d : Drw) (lim : Int) : TF Drw Int := if h : 0 < lim ∧ lim < 1073741824 then .ret (d.sk.1 % lim) ⟨d.sk.1 / lim, d.sk.2, d.cs, Int.ediv_nonneg (skipZ_ok _ _ _ d.v0 d.pl).1 (Int.le_of_lt h.1), (skipZ_ok _ _ _ d.v0 d.pl).2, d.c63⟩ else .bad
def t_l_begin (ns : List Int) : TF Unit Drw := if h : ns.length ≤ 63 then .ret ⟨0, 0, ns, Int.le_refl 0, Nat.zero_le _, h⟩ () else .bad
theorem draw_ok (d : Drw) {lim : Int} (h1 : 0 < lim) (h2 : lim < 1073741824) : ∃ r d', t_l_draw d lim = .ret r d' ∧ 0 ≤ r ∧ r < lim := by
  unfold t_l_draw
  rw [dif_pos ⟨h1, h2⟩]
  exact ⟨_, _, rfl, Int.emod_nonneg _ (by omega), Int.emod_lt_of_pos _ h1⟩
theorem begin_ok {ns : List Int} (h : ns.length ≤ 63) : ∃ d, t_l_begin ns = .ret d () := by
  unfold t_l_begin
  rw [dif_pos h]
  exact ⟨_, rfl⟩
end MV
namespace MV
open PySem PySem.Spec PyProof.Rows L2 He
section
variable {l l' w r ν α β : Type}
theorem size_eq : sizeLine = 16777216 := by decide
theorem ixN_nn {n : Nat} {i : Int} (h0 : 0 ≤ i) (h1 : i < (n : Int)) : ixN n i = some i.toNat := by
  unfold ixN
  rw [if_pos h0, if_pos h1]
theorem atI_nn {xs : List α} {i : Int} (h0 : 0 ≤ i) (h1 : i < (xs.length : Int)) : atI xs i = xs[i.toNat]? := by
  unfold atI
  rw [ixN_nn h0 h1]; rfl
theorem ixO_get {xs : List α} {i : Int} {a : α} (h0 : 0 ≤ i) (h1 : xs[i.toNat]? = some a) : (ixO xs i : Oc l w r α) = .next a := by
  have hl : i.toNat < xs.length := by
    rcases Nat.lt_or_ge i.toNat xs.length with z | z
    · exact z
    · rw [List.getElem?_eq_none z] at h1; cases h1
  unfold ixO
  rw [atI_nn h0 (by omega), h1]
theorem ixO_d {xs : List α} {i : Int} (d : α) (h0 : 0 ≤ i) (h1 : i < (xs.length : Int)) : (ixO xs i : Oc l w r α) = .next (xs.getD i.toNat d) := by
  refine ixO_get h0 ?_
  rw [List.getD_eq_getElem?_getD, List.getElem?_eq_getElem (by omega)]; rfl
theorem ixO_n {xs : List α} {i : Nat} (d : α) (h1 : i < xs.length) : (ixO xs (i : Int) : Oc l w r α) = .next (xs.getD i d) := by
  have := ixO_d (l := l) (w := w) (r := r) (xs := xs) d (Int.natCast_nonneg i) (by omega)
  simpa using this
theorem setO_d {xs : List α} {i : Int} {x : α} (h0 : 0 ≤ i) (h1 : i < (xs.length : Int)) : (setO xs i x : Oc l w r (List α)) = .next (xs.set i.toNat x) := by
  unfold setO
  rw [ixN_nn h0 h1]
theorem pushO_ok {xs : List α} {x : α} (h : xs.length < 16777216) : (pushO xs x : Oc l w r (List α)) = .next (xs ++ [x]) := by
  unfold pushO
  rw [size_eq, if_pos h]
theorem catO_ok {xs ys : List α} (h : xs.length + ys.length ≤ 16777216) : (catO xs ys : Oc l w r (List α)) = .next (xs ++ ys) := by
  unfold catO
  rw [size_eq, if_pos h]
theorem modO_ok {i j : Int} (h : 0 < j) : (modO i j : Oc l w r Int) = .next (i % j) := by unfold modO; rw [if_pos h]
theorem divO_ok {i j : Int} (h : 0 < j) (h' : j < 1073741824) : (divO i j : Oc l w r Int) = .next (i / j) := by unfold divO; rw [if_pos ⟨h, h'⟩]
theorem mulO_ok {i j : Int} (h : -18446744073709551616 < i ∧ i < 18446744073709551616 ∨ -18446744073709551616 < j ∧ j < 18446744073709551616) : (mulO i j : Oc l w r Int) = .next (i * j) := by
  unfold mulO
  rcases h with h | h
  · rw [if_pos (cMul_l (by omega))]
  · rw [if_pos (cMul_r (by omega))]
theorem c62_b {i : Int} (h1 : -4000000000000000000 ≤ i) (h2 : i ≤ 4000000000000000000) : c62 i = true := by
  unfold c62
  rw [decide_eq_true (show -(2 ^ 62) ≤ i by omega), decide_eq_true (show i < 2 ^ 62 by omega)]; rfl
theorem rngO_ok {a b : Int} (h : (-4000000000000000000 ≤ a ∧ a ≤ 4000000000000000000) ∧ -4000000000000000000 ≤ b ∧ b ≤ 4000000000000000000) : (rngO a b : Oc l w r (List Int)) = .next (iv a (b - a).toNat) := by
  unfold rngO
  rw [c62_b h.1.1 h.1.2, c62_b h.2.1 h.2.2]; rfl
theorem rngO_n {n : Nat} (h : n ≤ 16777216) : (rngO 0 (n : Int) : Oc l w r (List Int)) = .next (iv 0 n) := by
  rw [rngO_ok (by omega), show ((n : Int) - 0).toNat = n by omega]
theorem cRep_ok {n : Nat} {k : Int} (h0 : -1000000 ≤ k) (h1 : k ≤ 1000000) (h : n * k.toNat ≤ 16777216) : cRep n k = true := by
  unfold cRep
  rw [decide_eq_true (show -(2 ^ 63) ≤ k by omega), decide_eq_true (show k < 2 ^ 63 by omega), size_eq, decide_eq_true h]; rfl
theorem rep1O_ok {x : α} {k : Int} (h0 : -1000000 ≤ k) (h1 : k ≤ 1000000) : (rep1O x k : Oc l w r (List α)) = .next (List.replicate k.toNat x) := by
  unfold rep1O
  rw [cRep_ok h0 h1 (by omega)]; rfl
theorem lmO_ok {xs : List α} {f : α → β} (h : xs.length ≤ 16777216) : (lmO xs f : Oc l w r (List β)) = .next (xs.map f) := by unfold lmO; rw [size_eq, if_pos h]
theorem maxO_ok {xs : List Int} (h : xs ≠ []) : (maxO xs : Oc l w r Int) = .next (maxL xs) := by
  unfold maxO
  cases xs with
  | nil => exact (h rfl).elim
  | cons x xs => rfl
theorem forO_cons {body : α → l' → Oc l' w r l'} {x : α} {xs : List α} {s : l'} : (forO body (x :: xs) s : Oc l w r l') = match body x s with
    | .next s' => forO body xs s'
    | .cont s' => forO body xs s'
    | .brk s' => .next s'
    | .ret x o => .ret x o
    | .exc c fs o => .exc c fs o
    | .bad => .bad := rfl
theorem forO_f {body : α → l' → Oc l' w r l'} (f : Nat → l') : ∀ (xs : List α) (k : Nat), (∀ j (h : j < xs.length), body xs[j] (f (k + j)) = .next (f (k + j + 1)) ∨ body xs[j] (f (k + j)) = .cont (f (k + j + 1))) → (forO body xs (f k) : Oc l w r l') = .next (f (k + xs.length))
  | [], k, _ => rfl
  | x :: xs, k, h => by
    have ih := forO_f f xs (k + 1) fun j hj => by
      have := h (j + 1) (by simpa using hj)
      rw [show k + 1 + j = k + (j + 1) by omega]
      exact this
    have h0 := h 0 (by simp)
    rw [forO_cons]
    have e : f (k + (x :: xs).length) = f (k + 1 + xs.length) := by rw [List.length_cons]; congr 1; omega
    rw [e, ← ih]
    rcases h0 with h0 | h0
    · have h0 : body x (f k) = .next (f (k + 1)) := h0
      rw [h0]
    · have h0 : body x (f k) = .cont (f (k + 1)) := h0
      rw [h0]
theorem forO_l {body : α → l' → Oc l' w r l'} (f : Nat → l') {xs : List α} {s : l'} (h0 : s = f 0) (h : ∀ j (hj : j < xs.length), body xs[j] (f j) = .next (f (j + 1)) ∨ body xs[j] (f j) = .cont (f (j + 1))) : (forO body xs s : Oc l w r l') = .next (f xs.length) := by
  have := forO_f (l := l) (body := body) f xs 0 fun j hj => by simpa using h j hj
  rw [h0]; simpa using this
theorem iv_len {lo : Int} {n : Nat} : (iv lo n).length = n := by unfold iv; simp
theorem iv_at {lo : Int} {n j : Nat} (h : j < (iv lo n).length) : (iv lo n)[j] = lo + (j : Int) := by
  have e : (iv lo n)[j]? = some (lo + (j : Int)) := by
    rw [iv_len] at h
    unfold iv
    rw [List.getElem?_map, List.getElem?_range h]; rfl
  rw [List.getElem?_eq_getElem h] at e
  exact Option.some.inj e
theorem forO_iv {body : Int → l' → Oc l' w r l'} (f : Nat → l') {a : Int} {n : Nat} {s : l'} (h0 : s = f 0) (h : ∀ j, j < n → body (a + (j : Int)) (f j) = .next (f (j + 1)) ∨ body (a + (j : Int)) (f j) = .cont (f (j + 1))) : (forO body (iv a n) s : Oc l w r l') = .next (f n) := by
  have := forO_l (l := l) (body := body) f (xs := iv a n) h0 fun j hj => by rw [iv_at]; exact h j (by rw [iv_len] at hj; exact hj)
  rw [iv_len] at this
  exact this
theorem forO_iv0 {body : Int → l' → Oc l' w r l'} (f : Nat → l') {n : Nat} {s : l'} (h0 : s = f 0) (h : ∀ j, j < n → body (j : Int) (f j) = .next (f (j + 1)) ∨ body (j : Int) (f j) = .cont (f (j + 1))) : (forO body (iv 0 n) s : Oc l w r l') = .next (f n) :=
  forO_iv f h0 fun j hj => by rw [show (0 : Int) + (j : Int) = (j : Int) by omega]; exact h j hj
theorem forO_i {body : α → l' → Oc l' w r l'} (I : Nat → l' → Prop) : ∀ (xs : List α) (k : Nat) (s : l'), I k s → (∀ j (h : j < xs.length) s, I (k + j) s → ∃ s', (body xs[j] s = .next s' ∨ body xs[j] s = .cont s') ∧ I (k + j + 1) s') → ∃ s', (forO body xs s : Oc l w r l') = .next s' ∧ I (k + xs.length) s'
  | [], k, s, h, _ => ⟨s, rfl, h⟩
  | x :: xs, k, s, h, hs => by
    obtain ⟨s1, h1, h2⟩ := hs 0 (by simp) s h
    obtain ⟨s', e, i⟩ := forO_i I xs (k + 1) s1 h2 fun j hj s h => by
      have := hs (j + 1) (by simpa using hj) s (by rw [show k + (j + 1) = k + 1 + j by omega]; exact h)
      rw [show k + 1 + j + 1 = k + (j + 1) + 1 by omega]
      exact this
    refine ⟨s', ?_, by rw [List.length_cons, show k + (xs.length + 1) = k + 1 + xs.length by omega]; exact i⟩
    rw [forO_cons]
    rcases h1 with h1 | h1
    · have h1 : body x s = .next s1 := h1
      rw [h1]; exact e
    · have h1 : body x s = .cont s1 := h1
      rw [h1]; exact e
theorem forO_inv {body : α → l' → Oc l' w r l'} (I : Nat → l' → Prop) {xs : List α} {s : l'} (h0 : I 0 s) (hs : ∀ j (h : j < xs.length) s, I j s → ∃ s', (body xs[j] s = .next s' ∨ body xs[j] s = .cont s') ∧ I (j + 1) s') : ∃ s', (forO body xs s : Oc l w r l') = .next s' ∧ I xs.length s' := by
  have := forO_i (l := l) (body := body) I xs 0 s h0 fun j hj s h => by
    rw [Nat.zero_add] at h ⊢
    exact hs j hj s h
  simpa using this
theorem forO_inv_iv {body : Int → l' → Oc l' w r l'} (I : Nat → l' → Prop) {a : Int} {n : Nat} {s : l'} (h0 : I 0 s) (hs : ∀ j, j < n → ∀ s, I j s → ∃ s', (body (a + (j : Int)) s = .next s' ∨ body (a + (j : Int)) s = .cont s') ∧ I (j + 1) s') : ∃ s', (forO body (iv a n) s : Oc l w r l') = .next s' ∧ I n s' := by
  have := forO_inv (l := l) (body := body) I (xs := iv a n) h0 fun j hj s h => by rw [iv_at]; exact hs j (by rw [iv_len] at hj; exact hj) s h
  rw [iv_len] at this
  exact this
theorem forO_at {body : α → l' → Oc l' w r l'} (f : Nat → l') {xs : List α} {s : l'} {k : Nat} (hk : k < xs.length) (h0 : s = f 0) (h : ∀ j (hj : j < k), body (xs[j]'(by omega)) (f j) = .next (f (j + 1)) ∨ body (xs[j]'(by omega)) (f j) = .cont (f (j + 1))) : (forO body xs s : Oc l w r l') = forO body (xs[k] :: xs.drop (k + 1)) (f k) := by
  have e : xs = xs.take k ++ (xs[k] :: xs.drop (k + 1)) := by
    rw [List.getElem_cons_drop, List.take_append_drop]
  have hl : (xs.take k).length = k := by rw [List.length_take]; omega
  have key : ∀ (ys zs : List α) (s s' : l'), (forO body ys s : Oc l w r l') = .next s' → (∀ j (hj : j < ys.length) t, body ys[j] t ≠ .brk s') → True := fun _ _ _ _ _ _ => trivial
  have app : ∀ (ys zs : List α) (g : Nat → l') (i : Nat), (∀ j (hj : j < ys.length), body ys[j] (g (i + j)) = .next (g (i + j + 1)) ∨ body ys[j] (g (i + j)) = .cont (g (i + j + 1))) → (forO body (ys ++ zs) (g i) : Oc l w r l') = forO body zs (g (i + ys.length)) := by
    intro ys
    induction ys with
    | nil => exact fun _ _ _ _ => rfl
    | cons y ys ih =>
      intro zs g i hy
      have ih := ih zs g (i + 1) fun j hj => by
        have := hy (j + 1) (by simpa using hj)
        rw [show i + 1 + j = i + (j + 1) by omega]
        exact this
      have h0 := hy 0 (by simp)
      rw [List.cons_append, forO_cons, List.length_cons, show i + (ys.length + 1) = i + 1 + ys.length by omega, ← ih]
      rcases h0 with h0 | h0
      · have h0 : body y (g i) = .next (g (i + 1)) := h0
        rw [h0]
      · have h0 : body y (g i) = .cont (g (i + 1)) := h0
        rw [h0]
  have := app (xs.take k) (xs[k] :: xs.drop (k + 1)) f 0 fun j hj => by
    rw [List.getElem_take, Nat.zero_add]
    exact h j (by omega)
  rw [← e, Nat.zero_add, hl] at this
  rw [h0]; exact this
theorem forO_ret {body : α → l' → Oc l' w r l'} (f : Nat → l') {xs : List α} {s : l'} {k : Nat} (hk : k < xs.length) {x : r} {o : w} (h0 : s = f 0) (h : ∀ j (hj : j < k), body (xs[j]'(by omega)) (f j) = .next (f (j + 1)) ∨ body (xs[j]'(by omega)) (f j) = .cont (f (j + 1))) (hx : body xs[k] (f k) = .ret x o) : (forO body xs s : Oc l w r l') = .ret x o := by
  rw [forO_at f hk h0 h, forO_cons, hx]
theorem forO_exc {body : α → l' → Oc l' w r l'} (f : Nat → l') {xs : List α} {s : l'} {k : Nat} (hk : k < xs.length) {c : Str} {fs : List (Str × Vl)} {o : w} (h0 : s = f 0) (h : ∀ j (hj : j < k), body (xs[j]'(by omega)) (f j) = .next (f (j + 1)) ∨ body (xs[j]'(by omega)) (f j) = .cont (f (j + 1))) (hx : body xs[k] (f k) = .exc c fs o) : (forO body xs s : Oc l w r l') = .exc c fs o := by
  rw [forO_at f hk h0 h, forO_cons, hx]
end
end MV
namespace MV
theorem iv_length {lo : Int} {n : Nat} : (iv lo n).length = n := by unfold iv; simp
theorem mem_iv {x lo : Int} {n : Nat} : x ∈ iv lo n ↔ lo ≤ x ∧ x < lo + n := by
  unfold iv
  rw [List.mem_map]
  constructor
  · rintro ⟨k, hk, rfl⟩
    have := List.mem_range.mp hk
    omega
  · rintro ⟨h1, h2⟩
    exact ⟨(x - lo).toNat, List.mem_range.mpr (by omega), by omega⟩
theorem nodup_iv {lo : Int} {n : Nat} : (iv lo n).Nodup := by
  unfold iv List.Nodup
  rw [List.pairwise_map]
  exact List.nodup_range.imp fun h e => h (by omega)
theorem iv_zero {lo : Int} : iv lo 0 = [] := rfl
theorem iv_succ {lo : Int} {n : Nat} : iv lo (n + 1) = iv lo n ++ [lo + (n : Int)] := by
  unfold iv
  rw [List.range_succ, List.map_append]; rfl
theorem iv_get {lo : Int} {n i : Nat} (h : i < n) : (iv lo n)[i]? = some (lo + i) := by
  unfold iv
  rw [List.getElem?_map, List.getElem?_range h]; rfl
def sm {α : Type} (l : List α) (f : α → Int) : Int := (l.map f).sum
theorem sm_nil {α : Type} {f : α → Int} : sm [] f = 0 := rfl
theorem sm_cons {α : Type} {a : α} {l : List α} {f : α → Int} : sm (a :: l) f = f a + sm l f := by unfold sm; simp
theorem sm_app {α : Type} {l m : List α} {f : α → Int} : sm (l ++ m) f = sm l f + sm m f := by unfold sm; simp
theorem sm_add {α : Type} {l : List α} {f g : α → Int} : sm l (fun x => f x + g x) = sm l f + sm l g := by
  induction l with
  | nil => rfl
  | cons a l ih => rw [sm_cons, sm_cons, sm_cons, ih]; omega
theorem sm_sub {α : Type} {l : List α} {f g : α → Int} : sm l (fun x => f x - g x) = sm l f - sm l g := by
  induction l with
  | nil => rfl
  | cons a l ih => rw [sm_cons, sm_cons, sm_cons, ih]; omega
theorem sm_mul {α : Type} {l : List α} {f : α → Int} {c : Int} : sm l (fun x => c * f x) = c * sm l f := by
  induction l with
  | nil => simp [sm_nil]
  | cons a l ih => rw [sm_cons, sm_cons, ih, Int.mul_add]
theorem sm_zero {α : Type} {l : List α} : sm l (fun _ => 0) = 0 := by
  induction l with
  | nil => rfl
  | cons a l ih => rw [sm_cons, ih]; rfl
theorem sm_congr {α : Type} {l : List α} {f g : α → Int} (h : ∀ x ∈ l, f x = g x) : sm l f = sm l g := by
  unfold sm; rw [List.map_congr_left h]
theorem sm_comm {α β : Type} {l : List α} {m : List β} {f : α → β → Int} : sm l (fun a => sm m (f a)) = sm m (fun b => sm l fun a => f a b) := by
  induction l with
  | nil => rw [sm_nil]; exact sm_zero.symm
  | cons a l ih =>
    rw [sm_cons, ih, ← sm_add]
    exact sm_congr fun b _ => (sm_cons (f := fun a => f a b)).symm
theorem sm_perm {α : Type} {l m : List α} {f : α → Int} (h : l.Perm m) : sm l f = sm m f := by
  induction h with
  | nil => rfl
  | cons a _ ih => rw [sm_cons, sm_cons, ih]
  | swap a b l => rw [sm_cons, sm_cons, sm_cons, sm_cons]; omega
  | trans _ _ i j => exact i.trans j
theorem sm_map {α β : Type} {l : List α} {g : α → β} {f : β → Int} : sm (l.map g) f = sm l fun x => f (g x) := by
  unfold sm; rw [List.map_map]; rfl
theorem sm_le {α : Type} {l : List α} {f : α → Int} (h : ∀ x ∈ l, 0 ≤ f x) : 0 ≤ sm l f ∧ ∀ x ∈ l, f x ≤ sm l f := by
  induction l with
  | nil => exact ⟨by rw [sm_nil]; omega, fun x hx => by cases hx⟩
  | cons a l ih =>
    have ⟨i1, i2⟩ := ih fun x hx => h x (List.mem_cons_of_mem _ hx)
    have h0 := h a List.mem_cons_self
    rw [sm_cons]
    refine ⟨by omega, fun x hx => ?_⟩
    rcases List.mem_cons.mp hx with e | e
    · rw [e]; omega
    · have := i2 x e; omega
def ind (p : Prop) [Decidable p] : Int := if p then 1 else 0
theorem sm_count {α : Type} {l : List α} {p : α → Prop} [DecidablePred p] : sm l (fun x => ind (p x)) = ((l.filter fun x => decide (p x)).length : Int) := by
  induction l with
  | nil => rfl
  | cons a l ih =>
    rw [sm_cons, ih]
    unfold ind
    by_cases h : p a
    · rw [if_pos h, List.filter_cons_of_pos (p := fun x => decide (p x)) (decide_eq_true h), List.length_cons]; omega
    · rw [if_neg h, List.filter_cons_of_neg (p := fun x => decide (p x)) (by simp [h])]; omega
def hAt (hs : List Int) (p : Int) : Int := hs.getD (p % (hs.length : Int)).toNat 0
def land (hs : List Int) (p : Int) : Int := p + hAt hs p
def tgs (hs : List Int) : List Int := (List.range hs.length).map fun (i : Nat) => ((i : Int) + hs.getD i 0) % (hs.length : Int)
structure Gd (hs : List Int) : Prop where
  l1 : 1 ≤ hs.length
  l2 : hs.length ≤ 6
  lo : ∀ h ∈ hs, 0 ≤ h
  hi : ∀ h ∈ hs, h ≤ 96
  pm : (tgs hs).Perm (iv 0 hs.length)
theorem getD_mem {hs : List Int} {i : Nat} (h : i < hs.length) : hs.getD i 0 ∈ hs := by
  rw [List.getD_eq_getElem?_getD, List.getElem?_eq_getElem h]
  exact List.getElem_mem h
section
variable {hs : List Int}
theorem modlt (h : 1 ≤ hs.length) (p : Int) : (p % (hs.length : Int)).toNat < hs.length ∧ ((p % (hs.length : Int)).toNat : Int) = p % (hs.length : Int) := by
  have h0 : (0 : Int) ≤ p % (hs.length : Int) := Int.emod_nonneg _ (by omega)
  have h1 : p % (hs.length : Int) < (hs.length : Int) := Int.emod_lt_of_pos _ (by omega)
  omega
theorem hAt_mem (h : 1 ≤ hs.length) (p : Int) : hAt hs p ∈ hs := getD_mem (modlt h p).1
theorem Gd.hlo (g : Gd hs) (p : Int) : 0 ≤ hAt hs p := g.lo _ (hAt_mem g.l1 p)
theorem Gd.hhi (g : Gd hs) (p : Int) : hAt hs p ≤ 96 := g.hi _ (hAt_mem g.l1 p)
theorem hAt_mod {p q : Int} (h : p % (hs.length : Int) = q % (hs.length : Int)) : hAt hs p = hAt hs q := by unfold hAt; rw [h]
theorem hAt_nat {i : Nat} (h : i < hs.length) : hAt hs (i : Int) = hs.getD i 0 := by
  unfold hAt
  rw [Int.emod_eq_of_lt (by omega) (by omega)]; rfl
theorem Gd.inj (g : Gd hs) {p q : Int} (e : land hs p = land hs q) : p = q := by
  have nd : (tgs hs).Nodup := g.pm.nodup_iff.mpr nodup_iv
  have hp := modlt g.l1 p
  have hq := modlt g.l1 q
  have l1 := g.l1
  have key : ∀ r : Int, (((r % (hs.length : Int)).toNat : Int) + hs.getD (r % (hs.length : Int)).toNat 0) % (hs.length : Int) = (land hs r) % (hs.length : Int) := fun r => by
    have hr := modlt g.l1 r
    unfold land hAt
    rw [hr.2, Int.emod_add_emod]
  have e2 : (tgs hs)[(p % (hs.length : Int)).toNat]? = (tgs hs)[(q % (hs.length : Int)).toNat]? := by
    unfold tgs
    rw [List.getElem?_map, List.getElem?_map, List.getElem?_range hp.1, List.getElem?_range hq.1]
    exact congrArg some ((key p).trans (by rw [e]; exact (key q).symm))
  have e3 : (p % (hs.length : Int)).toNat = (q % (hs.length : Int)).toNat := by
    have h1 : (p % (hs.length : Int)).toNat < (tgs hs).length := by unfold tgs; rw [List.length_map, List.length_range]; exact hp.1
    exact (List.getElem?_inj h1 nd).mp e2
  have e4 : p % (hs.length : Int) = q % (hs.length : Int) := by omega
  have e5 := hAt_mod e4
  unfold land at e
  omega
theorem Gd.sur (g : Gd hs) (q : Int) : ∃ i : Nat, i < hs.length ∧ ((i : Int) + hs.getD i 0) % (hs.length : Int) = q % (hs.length : Int) := by
  have hq := modlt g.l1 q
  have : q % (hs.length : Int) ∈ tgs hs := g.pm.mem_iff.mpr (mem_iv.mpr (by omega))
  unfold tgs at this
  obtain ⟨i, h1, h2⟩ := List.mem_map.mp this
  exact ⟨i, List.mem_range.mp h1, h2⟩
theorem sub_of_mod {n i h q : Int} (n0 : 0 < n) (i0 : 0 ≤ i) (i1 : i < n) (e : (i + h) % n = q % n) : (q - h) % n = i := by
  have : (q - h) % n = i % n := by
    rw [Int.emod_eq_emod_iff_emod_sub_eq_zero] at e ⊢
    have e2 : (i + h - q) = -(q - h - i) := by omega
    rw [e2] at e
    exact Int.emod_eq_zero_of_dvd (Int.dvd_neg.mp (Int.dvd_of_emod_eq_zero e))
  rw [this, Int.emod_eq_of_lt i0 i1]
structure Cm (hs c : List Int) : Prop where
  len : c.length = hs.length
  at_ : ∀ i : Nat, i < hs.length → c.getD (((i : Int) + hs.getD i 0) % (hs.length : Int)).toNat 0 = ((i : Int) + hs.getD i 0) % (hs.length : Int) - hs.getD i 0
def cm (c : List Int) (q : Int) : Int := hAt c q + q - q % (c.length : Int)
theorem Cm.land {c : List Int} (g : Gd hs) (m : Cm hs c) (q : Int) : land hs (cm c q) = q := by
  obtain ⟨i, h1, h2⟩ := g.sur q
  have l1 := g.l1
  have e : cm c q = q - hs.getD i 0 := by
    unfold cm hAt
    rw [m.len, ← h2, m.at_ i h1]; omega
  have e2 : hAt hs (q - hs.getD i 0) = hs.getD i 0 := by
    unfold hAt
    rw [sub_of_mod (by omega) (by omega) (by omega) h2]; rfl
  rw [e]
  unfold MV.land
  rw [e2]; omega
theorem Cm.iff {c : List Int} (g : Gd hs) (m : Cm hs c) (p q : Int) : MV.land hs p = q ↔ p = cm c q :=
  ⟨fun e => g.inj (e.trans (m.land g q).symm), fun e => by rw [e]; exact m.land g q⟩
theorem step_div {n y : Int} (h1 : 1 ≤ n) (h2 : n ≤ 6) : y / n - (y - 1) / n = ind (y % n = 0) := by
  unfold ind
  have : n = 1 ∨ n = 2 ∨ n = 3 ∨ n = 4 ∨ n = 5 ∨ n = 6 := by omega
  rcases this with rfl | rfl | rfl | rfl | rfl | rfl <;> split <;> omega
theorem win {n g h i : Int} (h1 : 1 ≤ n) (h2 : n ≤ 6) (i0 : 0 ≤ i) (i1 : i < n) (h0 : 0 ≤ h) : ∀ m : Nat, sm (iv 0 m) (fun k => ind ((g - 1 - k) % n = i ∧ g ≤ g - 1 - k + h)) = (g - 1 - i) / n - (g - 1 - (if (m : Int) ≤ h then (m : Int) else h) - i) / n
  | 0 => by
    show 0 = _
    rw [if_pos (by omega)]
    simp
  | m + 1 => by
    rw [iv_succ, sm_app, win h1 h2 i0 i1 h0 m, sm_cons, sm_nil]
    by_cases c : (m : Int) < h
    · rw [if_pos (by omega), if_pos (by omega)]
      have s := step_div (n := n) (y := g - 1 - m - i) h1 h2
      have e : ind ((g - 1 - m - i) % n = 0) = ind ((g - 1 - (0 + (m : Int))) % n = i ∧ g ≤ g - 1 - (0 + (m : Int)) + h) := by
        unfold ind
        have : ((g - 1 - m - i) % n = 0) ↔ ((g - 1 - (0 + (m : Int))) % n = i ∧ g ≤ g - 1 - (0 + (m : Int)) + h) := by
          rw [Int.zero_add]
          constructor
          · intro z
            refine ⟨?_, by omega⟩
            have := Int.emod_emod_of_dvd
            have z2 : (g - 1 - m) % n = i % n := (Int.emod_eq_emod_iff_emod_sub_eq_zero).mpr z
            rw [z2, Int.emod_eq_of_lt i0 i1]
          · rintro ⟨z, _⟩
            have z2 : (g - 1 - m) % n = i % n := by rw [z, Int.emod_eq_of_lt i0 i1]
            exact (Int.emod_eq_emod_iff_emod_sub_eq_zero).mp z2
        by_cases w : (g - 1 - m - i) % n = 0
        · rw [if_pos w, if_pos (this.mp w)]
        · rw [if_neg w, if_neg fun z => w (this.mpr z)]
      rw [← e, ← s]
      rw [show g - 1 - ((m + 1 : Nat) : Int) - i = g - 1 - m - i - 1 by omega]
      omega
    · have e : ind ((g - 1 - (0 + (m : Int))) % n = i ∧ g ≤ g - 1 - (0 + (m : Int)) + h) = 0 := by
        unfold ind; rw [if_neg]; omega
      rw [e, if_neg (show ¬ ((m + 1 : Nat) : Int) ≤ h by omega)]
      by_cases c2 : (m : Int) = h
      · rw [if_pos (show (m : Int) ≤ h by omega), c2]; omega
      · rw [if_neg (show ¬ (m : Int) ≤ h by omega)]; omega
theorem one_class {n : Nat} {f : Nat → Int} {r : Nat} (h : r < n) : sm (List.range n) (fun i => if r = i then f i else 0) = f r := by
  induction n with
  | zero => omega
  | succ n ih =>
    rw [List.range_succ, sm_app, sm_cons, sm_nil]
    by_cases c : r = n
    · subst c
      have : sm (List.range r) (fun i => if r = i then f i else 0) = 0 := (sm_congr (g := fun _ => 0) fun x hx => if_neg (show ¬ r = x by have := List.mem_range.mp hx; omega)).trans sm_zero
      rw [this, if_pos rfl]; omega
    · rw [ih (by omega), if_neg c]; omega
theorem Gd.sum (g : Gd hs) : hs.sum = (hs.length : Int) * sm (List.range hs.length) (fun i => ((i : Int) + hs.getD i 0) / (hs.length : Int)) := by
  have e0 : hs = (List.range hs.length).map fun i => hs.getD i 0 := by
    apply List.ext_getElem
    · simp
    · intro i h1 h2
      rw [List.getElem_map, List.getElem_range, List.getD_eq_getElem?_getD, List.getElem?_eq_getElem h1]; rfl
  have e1 : hs.sum = sm (List.range hs.length) (fun i => hs.getD i 0) := by
    show hs.sum = ((List.range hs.length).map fun i => hs.getD i 0).sum
    rw [← e0]
  have e2 : sm (List.range hs.length) (fun i => ((i : Int) + hs.getD i 0) % (hs.length : Int)) = sm (List.range hs.length) (fun i => (i : Int)) := by
    have := sm_perm (f := fun x => x) g.pm
    unfold tgs iv at this
    rw [sm_map, sm_map] at this
    rw [this]
    exact sm_congr fun x _ => by omega
  have e3 : sm (List.range hs.length) (fun i => (i : Int) + hs.getD i 0) = sm (List.range hs.length) (fun i => (hs.length : Int) * (((i : Int) + hs.getD i 0) / (hs.length : Int))) + sm (List.range hs.length) (fun i => ((i : Int) + hs.getD i 0) % (hs.length : Int)) := by
    rw [← sm_add]
    exact sm_congr fun i _ => (Int.mul_ediv_add_emod _ _).symm
  rw [sm_add, e2, sm_mul] at e3
  have e4 : sm (List.range hs.length) (fun (i : Nat) => (i : Int)) = sm (List.range hs.length) Nat.cast := rfl
  rw [e1]; omega
theorem Gd.air (g : Gd hs) (t : Int) : (((iv 0 96).filter fun k => decide (t ≤ land hs (t - 1 - k))).length : Int) = hs.sum / (hs.length : Int) := by
  have l1 := g.l1
  have l2 := g.l2
  rw [← sm_count, g.sum, Int.mul_ediv_cancel_left _ (by omega)]
  have e1 : sm (iv 0 96) (fun k => ind (t ≤ land hs (t - 1 - k))) = sm (iv 0 96) (fun k => sm (List.range hs.length) fun i => ind ((t - 1 - k) % (hs.length : Int) = (i : Int) ∧ t ≤ t - 1 - k + hs.getD i 0)) := by
    refine sm_congr fun k _ => ?_
    have hm := modlt g.l1 (t - 1 - k)
    have := one_class (f := fun i => ind (t ≤ t - 1 - k + hs.getD i 0)) hm.1
    show ind (t ≤ t - 1 - k + hs.getD ((t - 1 - k) % (hs.length : Int)).toNat 0) = _
    rw [← this]
    refine sm_congr fun i _ => ?_
    unfold ind
    by_cases c : ((t - 1 - k) % (hs.length : Int)).toNat = i
    · rw [if_pos c]
      by_cases d : t ≤ t - 1 - k + hs.getD i 0
      · rw [if_pos d, if_pos ⟨by omega, d⟩]
      · rw [if_neg d, if_neg fun z => d z.2]
    · rw [if_neg c, if_neg fun z => c (by omega)]
  rw [e1, sm_comm]
  have e2 : sm (List.range hs.length) (fun i => sm (iv 0 96) fun k => ind ((t - 1 - k) % (hs.length : Int) = (i : Int) ∧ t ≤ t - 1 - k + hs.getD i 0)) = sm (List.range hs.length) fun i => (t - 1 - (i : Int)) / (hs.length : Int) - ((t - 1 - (((i : Int) + hs.getD i 0) % (hs.length : Int))) / (hs.length : Int) - ((i : Int) + hs.getD i 0) / (hs.length : Int)) := by
    refine sm_congr fun i hi => ?_
    have hi := List.mem_range.mp hi
    have hm := getD_mem hi
    have := g.lo _ hm
    have h96 := g.hi _ hm
    rw [win (by omega) (by omega) (by omega) (by omega) this]
    have : (if ((96 : Nat) : Int) ≤ hs.getD i 0 then ((96 : Nat) : Int) else hs.getD i 0) = hs.getD i 0 := by split <;> omega
    rw [this]
    have e : t - 1 - hs.getD i 0 - (i : Int) = t - 1 - (((i : Int) + hs.getD i 0) % (hs.length : Int)) + (hs.length : Int) * (-(((i : Int) + hs.getD i 0) / (hs.length : Int))) := by
      have := Int.mul_ediv_add_emod ((i : Int) + hs.getD i 0) (hs.length : Int)
      rw [Int.mul_neg]; omega
    rw [e, Int.add_mul_ediv_left _ _ (by omega)]
    omega
  rw [e2, sm_sub, sm_sub]
  have e3 : sm (List.range hs.length) (fun i => (t - 1 - (((i : Int) + hs.getD i 0) % (hs.length : Int))) / (hs.length : Int)) = sm (List.range hs.length) (fun i => (t - 1 - (i : Int)) / (hs.length : Int)) := by
    have := sm_perm (f := fun x => (t - 1 - x) / (hs.length : Int)) g.pm
    unfold tgs iv at this
    rw [sm_map, sm_map] at this
    rw [this]
    exact sm_congr fun x _ => by rw [Int.zero_add]
  rw [e3]; omega
end
end MV
namespace MV
section
variable {hs : List Int}
def fnd (hs : List Int) (g : Int) : List Int := ((iv (g - 96) 96).map (land hs)).filter fun q => decide (g ≤ q)
def airC (c : List Int) (g : Int) (H : Nat) : List Int := (iv g H).filter fun q => decide (cm c q < g)
theorem Gd.nodup_map (g : Gd hs) {lo : Int} {n : Nat} : ((iv lo n).map (land hs)).Nodup := by
  unfold List.Nodup
  rw [List.pairwise_map]
  exact nodup_iv.imp fun h e => h (g.inj e)
theorem mem_fnd {t q : Int} : q ∈ fnd hs t ↔ t ≤ q ∧ ∃ p, t - 96 ≤ p ∧ p < t ∧ land hs p = q := by
  unfold fnd
  rw [List.mem_filter, List.mem_map]
  constructor
  · rintro ⟨⟨p, hp, e⟩, h⟩
    have := mem_iv.mp hp
    exact ⟨of_decide_eq_true h, p, by omega, by omega, e⟩
  · rintro ⟨h, p, h1, h2, e⟩
    exact ⟨⟨p, mem_iv.mpr (by omega), e⟩, decide_eq_true h⟩
theorem Gd.ge (g : Gd hs) (p : Int) : p ≤ land hs p := by have := g.hlo p; unfold land; omega
theorem Gd.le (g : Gd hs) (p : Int) : land hs p ≤ p + 96 := by have := g.hhi p; unfold land; omega
theorem Cm.mem {c : List Int} (g : Gd hs) (m : Cm hs c) {t q : Int} : q ∈ fnd hs t ↔ t ≤ q ∧ cm c q < t := by
  rw [mem_fnd]
  constructor
  · rintro ⟨h, p, h1, h2, e⟩
    rw [(m.iff g p q).mp e] at h2
    exact ⟨h, h2⟩
  · rintro ⟨h1, h2⟩
    have := g.le (cm c q)
    rw [m.land g q] at this
    exact ⟨h1, cm c q, by omega, h2, m.land g q⟩
theorem Cm.air {c : List Int} (g : Gd hs) (m : Cm hs c) {t : Int} {H : Nat} (hH : ∀ h ∈ hs, h ≤ (H : Int)) : (airC c t H).Perm (fnd hs t) := by
  refine (List.perm_ext_iff_of_nodup (nodup_iv.filter _) (g.nodup_map.filter _)).mpr fun q => ?_
  show q ∈ airC c t H ↔ q ∈ fnd hs t
  rw [m.mem g]
  unfold airC
  rw [List.mem_filter, mem_iv, decide_eq_true_iff]
  constructor
  · rintro ⟨⟨h1, h2⟩, h3⟩; exact ⟨h1, h3⟩
  · rintro ⟨h1, h2⟩
    refine ⟨⟨h1, ?_⟩, h2⟩
    have e := m.land g q
    have := hH _ (hAt_mem g.l1 (cm c q))
    unfold MV.land at e
    omega
theorem Gd.count (g : Gd hs) (t : Int) : ((fnd hs t).length : Int) = hs.sum / (hs.length : Int) := by
  rw [← g.air t]
  have p : ((iv 0 96).map fun k => t - 1 - k).Perm (iv (t - 96) 96) := by
    refine (List.perm_ext_iff_of_nodup ?_ nodup_iv).mpr fun q => ?_
    · unfold List.Nodup
      rw [List.pairwise_map]
      exact nodup_iv.imp fun h e => h (by omega)
    · rw [List.mem_map, mem_iv]
      constructor
      · rintro ⟨k, hk, rfl⟩
        have := mem_iv.mp hk
        omega
      · intro h
        exact ⟨t - 1 - q, mem_iv.mpr (by omega), by omega⟩
  unfold fnd
  have e1 := ((p.map (land hs)).filter fun q => decide (t ≤ q)).length_eq
  rw [← e1, List.map_map, List.filter_map, List.length_map]
  rfl
theorem Cm.one {c : List Int} (g : Gd hs) (m : Cm hs c) {q : Int} : ((iv (q - 96) 97).filter fun p => decide (MV.land hs p = q)) = [cm c q] := by
  have h1 := g.ge (cm c q)
  have h2 := g.le (cm c q)
  rw [m.land g q] at h1 h2
  refine (List.Perm.eq_singleton ?_)
  refine (List.perm_ext_iff_of_nodup (nodup_iv.filter _) (by simp)).mpr fun p => ?_
  rw [List.mem_filter, decide_eq_true_iff, mem_iv, List.mem_singleton, m.iff g]
  constructor
  · rintro ⟨_, h⟩; exact h
  · intro h; exact ⟨by omega, h⟩
end
end MV
namespace MV
def tgn (n : Nat) (hs : List Int) : List Int := (List.range hs.length).map fun (i : Nat) => ((i : Int) + hs.getD i 0) % (n : Int)
theorem tgn_self {hs : List Int} : tgn hs.length hs = tgs hs := rfl
theorem tgn_app {n : Nat} {hs : List Int} {x : Int} : tgn n (hs ++ [x]) = tgn n hs ++ [((hs.length : Int) + x) % (n : Int)] := by
  unfold tgn
  rw [List.length_append, List.length_singleton, List.range_succ, List.map_append]
  congr 1
  · refine List.map_congr_left fun i hi => ?_
    have hi := List.mem_range.mp hi
    rw [List.getD_eq_getElem?_getD, List.getD_eq_getElem?_getD, List.getElem?_append_left hi]
  · simp [List.getD_eq_getElem?_getD]
theorem tgn_len {n : Nat} {hs : List Int} : (tgn n hs).length = hs.length := by unfold tgn; simp
theorem perm_era {α : Type} : ∀ {l : List α} {j : Nat} {t : α}, l[j]? = some t → (t :: l.eraseIdx j).Perm l
  | x :: l, 0, t, e => by
    have : x = t := by simpa using e
    rw [this]; exact List.Perm.refl _
  | x :: l, j + 1, t, e => by
    have := perm_era (l := l) (j := j) (t := t) (by simpa using e)
    exact (List.Perm.swap x t _).trans (this.cons x)
structure L1 (n k : Nat) (left hs : List Int) : Prop where
  pm : (left ++ tgn n hs).Perm (iv 0 n)
  len : hs.length = k
  lo : ∀ h ∈ hs, 0 ≤ h ∧ h < (n : Int)
theorem L1.start (n : Nat) : L1 n 0 (iv 0 n) [] := ⟨by show (iv 0 n ++ []).Perm _; rw [List.append_nil], rfl, fun h hh => by cases hh⟩
theorem L1.left {n k : Nat} {left hs : List Int} (h : L1 n k left hs) : left.length + k = n := by
  have := h.pm.length_eq
  rw [List.length_append, tgn_len, iv_length, h.len] at this
  exact this
theorem L1.step {n k : Nat} {left hs : List Int} (h : L1 n k left hs) {j : Nat} (hj : j < left.length) (t : Int) (e : left[j]? = some t) : L1 n (k + 1) (left.eraseIdx j) (hs ++ [(t - (k : Int)) % (n : Int)]) := by
  have hn : 0 < n := by have := h.left; omega
  have et : left[j] = t := by rw [List.getElem?_eq_getElem hj] at e; exact Option.some.inj e
  have mt : t ∈ iv 0 n := h.pm.mem_iff.mp (List.mem_append_left _ (et ▸ List.getElem_mem hj))
  have bt := mem_iv.mp mt
  have e2 : ((hs.length : Int) + (t - (k : Int)) % (n : Int)) % (n : Int) = t := by
    rw [h.len, Int.add_emod_emod, show (k : Int) + (t - k) = t by omega, Int.emod_eq_of_lt (by omega) (by omega)]
  refine ⟨?_, by rw [List.length_append, List.length_singleton, h.len], fun x hx => ?_⟩
  · rw [tgn_app, e2]
    refine List.Perm.trans ?_ h.pm
    have p1 : (t :: left.eraseIdx j).Perm left := perm_era e
    have p2 : (left.eraseIdx j ++ (tgn n hs ++ [t])).Perm (t :: (left.eraseIdx j ++ tgn n hs)) := by
      rw [← List.append_assoc]
      exact List.perm_append_singleton _ _
    exact p2.trans (by rw [← List.cons_append]; exact p1.append_right _)
  · rcases List.mem_append.mp hx with q | q
    · exact h.lo x q
    · rw [List.mem_singleton.mp q]
      exact ⟨Int.emod_nonneg _ (by omega), Int.emod_lt_of_pos _ (by omega)⟩
theorem pm_sum {hs : List Int} (pm : (tgs hs).Perm (iv 0 hs.length)) : ∃ b, hs.sum = (hs.length : Int) * b := by
  have e0 : hs = (List.range hs.length).map fun i => hs.getD i 0 := by
    apply List.ext_getElem
    · simp
    · intro i h1 h2
      rw [List.getElem_map, List.getElem_range, List.getD_eq_getElem?_getD, List.getElem?_eq_getElem h1]; rfl
  have e1 : hs.sum = sm (List.range hs.length) (fun i => hs.getD i 0) := by
    show hs.sum = ((List.range hs.length).map fun i => hs.getD i 0).sum
    rw [← e0]
  have e2 : sm (List.range hs.length) (fun i => ((i : Int) + hs.getD i 0) % (hs.length : Int)) = sm (List.range hs.length) (fun i => (i : Int)) := by
    have := sm_perm (f := fun x => x) pm
    unfold tgs iv at this
    rw [sm_map, sm_map] at this
    rw [this]
    exact sm_congr fun x _ => by omega
  have e3 : sm (List.range hs.length) (fun i => (i : Int) + hs.getD i 0) = sm (List.range hs.length) (fun i => (hs.length : Int) * (((i : Int) + hs.getD i 0) / (hs.length : Int))) + sm (List.range hs.length) (fun i => ((i : Int) + hs.getD i 0) % (hs.length : Int)) := by
    rw [← sm_add]
    exact sm_congr fun i _ => (Int.mul_ediv_add_emod _ _).symm
  rw [sm_add, e2, sm_mul] at e3
  have e4 : sm (List.range hs.length) (fun (i : Nat) => (i : Int)) = sm (List.range hs.length) Nat.cast := rfl
  exact ⟨sm (List.range hs.length) (fun i => ((i : Int) + hs.getD i 0) / (hs.length : Int)), by rw [e1]; omega⟩
theorem sum_le {n : Int} : ∀ {hs : List Int}, (∀ h ∈ hs, 0 ≤ h ∧ h < n) → 0 ≤ hs.sum ∧ hs.sum ≤ (hs.length : Int) * (n - 1)
  | [], _ => by simp
  | h :: hs, q => by
    have := sum_le fun x hx => q x (List.mem_cons_of_mem _ hx)
    have h0 := q h List.mem_cons_self
    rw [List.sum_cons, List.length_cons]
    have e : ((hs.length + 1 : Nat) : Int) * (n - 1) = (hs.length : Int) * (n - 1) + (n - 1) := by
      rw [show ((hs.length + 1 : Nat) : Int) = (hs.length : Int) + 1 by omega, Int.add_mul]; omega
    omega
theorem mem_le_sum : ∀ {hs : List Int}, (∀ h ∈ hs, 0 ≤ h) → 0 ≤ hs.sum ∧ ∀ h ∈ hs, h ≤ hs.sum
  | [], _ => ⟨by simp, fun h hh => by cases hh⟩
  | h :: hs, q => by
    have ⟨i1, i2⟩ := mem_le_sum fun x hx => q x (List.mem_cons_of_mem _ hx)
    have h0 := q h List.mem_cons_self
    rw [List.sum_cons]
    refine ⟨by omega, fun x hx => ?_⟩
    rcases List.mem_cons.mp hx with e | e
    · omega
    · have := i2 x e; omega
structure L2s (n : Nat) (most balls : Int) (hs : List Int) : Prop where
  len : hs.length = n
  pm : (tgs hs).Perm (iv 0 hs.length)
  lo : ∀ h ∈ hs, 0 ≤ h
  sm : hs.sum = (n : Int) * balls
  b0 : 0 ≤ balls
  bm : balls ≤ most
theorem L1.done {n : Nat} {left hs : List Int} (h : L1 n n left hs) (h1 : 1 ≤ n) (h6 : n ≤ 6) {most : Int} (hm : 5 ≤ most) : L2s n most (hs.sum / (n : Int)) hs := by
  have hl := h.left
  have e : left = [] := List.eq_nil_of_length_eq_zero (by omega)
  have pm := h.pm
  rw [e, List.nil_append, ← h.len, tgn_self] at pm
  obtain ⟨b, hb⟩ := pm_sum pm
  have s := sum_le h.lo
  rw [h.len] at hb s
  have eb : hs.sum / (n : Int) = b := by rw [hb, Int.mul_ediv_cancel_left _ (by omega)]
  have hb2 : 0 ≤ b ∧ b ≤ n - 1 := by
    rw [hb] at s
    have : n = 1 ∨ n = 2 ∨ n = 3 ∨ n = 4 ∨ n = 5 ∨ n = 6 := by omega
    rcases this with rfl | rfl | rfl | rfl | rfl | rfl <;> omega
  exact ⟨h.len, pm, fun x hx => (h.lo x hx).1, by rw [eb]; exact hb, by omega, by omega⟩
theorem sum_set : ∀ {hs : List Int} {i : Nat} {x : Int}, i < hs.length → (hs.set i x).sum = hs.sum + x - hs.getD i 0
  | h :: hs, 0, x, _ => by
    rw [List.set_cons_zero, List.sum_cons, List.sum_cons]
    show x + hs.sum = h + hs.sum + x - h
    omega
  | h :: hs, i + 1, x, q => by
    rw [List.set_cons_succ, List.sum_cons, List.sum_cons, sum_set (by simpa using q)]
    show h + (hs.sum + x - hs.getD i 0) = h + hs.sum + x - hs.getD i 0
    omega
theorem getD_set {hs : List Int} {i j : Nat} {x : Int} (h : i < hs.length) : (hs.set i x).getD j 0 = if i = j then x else hs.getD j 0 := by
  rw [List.getD_eq_getElem?_getD, List.getElem?_set]
  split
  · rfl
  · rw [List.getD_eq_getElem?_getD]
theorem L2s.step {n : Nat} {most balls more : Int} {hs : List Int} (h : L2s n most balls hs) {i : Nat} (hi : i < n) (m0 : 0 ≤ more) (m1 : balls + more ≤ most) : L2s n most (balls + more) (hs.set i (hs.getD i 0 + (n : Int) * more)) := by
  have hl : i < hs.length := by rw [h.len]; exact hi
  have et : tgs (hs.set i (hs.getD i 0 + (n : Int) * more)) = tgs hs := by
    unfold tgs
    rw [List.length_set]
    refine List.map_congr_left fun j _ => ?_
    rw [getD_set hl]
    split
    · rename_i e
      subst e
      rw [← Int.add_assoc, h.len, Int.add_mul_emod_self_left]
    · rfl
  have nm : 0 ≤ (n : Int) * more := Int.mul_nonneg (by omega) m0
  refine ⟨by rw [List.length_set]; exact h.len, by rw [et, List.length_set]; exact h.pm, fun x hx => ?_, ?_, by have := h.b0; omega, m1⟩
  · rcases List.mem_or_eq_of_mem_set hx with q | q
    · exact h.lo x q
    · have := h.lo _ (getD_mem hl)
      omega
  · rw [sum_set hl, h.sm, Int.mul_add]; omega
theorem L2s.gd {n : Nat} {most balls : Int} {hs : List Int} (h : L2s n most balls hs) (h1 : 1 ≤ n) (h6 : n ≤ 6) (hm : most ≤ 16) : Gd hs ∧ hs.sum / (hs.length : Int) ≤ most ∧ hs.sum = (hs.length : Int) * (hs.sum / (hs.length : Int)) := by
  have b0 := h.b0
  have bm := h.bm
  have eb : hs.sum / (hs.length : Int) = balls := by rw [h.sm, h.len, Int.mul_ediv_cancel_left _ (by omega)]
  refine ⟨⟨by rw [h.len]; exact h1, by rw [h.len]; exact h6, h.lo, fun x hx => ?_, h.pm⟩, by omega, by rw [eb, h.sm, h.len]⟩
  have := (mem_le_sum h.lo).2 x hx
  rw [h.sm] at this
  have : n = 1 ∨ n = 2 ∨ n = 3 ∨ n = 4 ∨ n = 5 ∨ n = 6 := by omega
  rcases this with rfl | rfl | rfl | rfl | rfl | rfl <;> omega
theorem hAt_cycle {hs : List Int} {p k : Int} : hAt hs (p + (hs.length : Int) * k) = hAt hs p := hAt_mod (by rw [Int.add_mul_emod_self_left])
theorem Gd.nocol {hs : List Int} (g : Gd hs) {i j : Nat} (h : j < i) (hi : i < hs.length) : ((i : Int) + hs.getD i 0 - (j : Int) - hs.getD j 0) % (hs.length : Int) ≠ 0 := fun e => by
  obtain ⟨k, hk⟩ := Int.dvd_of_emod_eq_zero e
  have e1 : land hs (i : Int) = land hs ((j : Int) + (hs.length : Int) * k) := by
    unfold land
    rw [hAt_cycle, hAt_nat hi, hAt_nat (Nat.lt_trans h hi)]; omega
  have e2 := g.inj e1
  have : 0 < (hs.length : Int) * k := by omega
  have k0 : 0 < k := by
    rcases Int.lt_or_le 0 k with q | q
    · exact q
    · have := Int.mul_le_mul_of_nonneg_left q (show (0 : Int) ≤ (hs.length : Int) by omega)
      omega
  have := Int.mul_le_mul_of_nonneg_left (show (1 : Int) ≤ k by omega) (show (0 : Int) ≤ (hs.length : Int) by omega)
  omega
end MV
namespace MV
section
variable {hs : List Int}
theorem iv_add {lo : Int} {m : Nat} : ∀ n : Nat, iv lo (m + n) = iv lo m ++ iv (lo + (m : Int)) n
  | 0 => by rw [iv_zero, List.append_nil]; rfl
  | n + 1 => by
    rw [← Nat.add_assoc, iv_succ, iv_add n, iv_succ, List.append_assoc]
    congr 2
    simp only [Int.natCast_add, Int.add_assoc]
theorem filt_split {α : Type} {p : α → Bool} : ∀ l : List α, (l.filter p).length + (l.filter fun x => !p x).length = l.length
  | [] => rfl
  | a :: l => by
    have ih := filt_split (p := p) l
    cases h : p a with
    | true => rw [List.filter_cons_of_pos h, List.filter_cons_of_neg (by simp [h]), List.length_cons, List.length_cons]; omega
    | false => rw [List.filter_cons_of_neg (by simp [h]), List.filter_cons_of_pos (by simp [h]), List.length_cons, List.length_cons]; omega
def cnt (hs : List Int) (a t : Int) : List Int := (iv a (t - a).toNat).filter fun p => decide (t ≤ land hs p)
theorem fnd_length (t : Int) : (fnd hs t).length = ((iv (t - 96) 96).filter fun p => decide (t ≤ land hs p)).length := by
  unfold fnd
  rw [List.filter_map, List.length_map]; rfl
theorem none_before (g : Gd hs) {t lo : Int} {n : Nat} (h : lo + (n : Int) ≤ t - 96) : ((iv lo n).filter fun p => decide (t ≤ land hs p)) = [] :=
  List.filter_eq_nil_iff.mpr fun p hp e => by
    have h1 := mem_iv.mp hp
    have h2 := g.le p
    have h3 : t ≤ land hs p := of_decide_eq_true e
    omega
theorem win_all (g : Gd hs) {a t : Int} (h : a ≤ t) : ((iv (a - 96) (t - a + 96).toNat).filter fun p => decide (t ≤ land hs p)).length = (fnd hs t).length := by
  have e : (t - a + 96).toNat = (t - a).toNat + 96 := by omega
  rw [e, iv_add, List.filter_append, none_before g (by omega), List.nil_append, fnd_length]
  congr 3
  omega
theorem balls_same (g : Gd hs) (a t : Int) : (fnd hs a).length = (fnd hs t).length := by
  have h1 := g.count a
  have h2 := g.count t
  omega
theorem cnt_U (g : Gd hs) {a t : Int} (h : a ≤ t) : (cnt hs a t).length = ((fnd hs a).filter fun q => decide (q < t)).length := by
  have h1 := win_all g h
  have e : (t - a + 96).toNat = 96 + (t - a).toNat := by omega
  rw [e, iv_add, List.filter_append, List.length_append, show a - 96 + ((96 : Nat) : Int) = a by omega] at h1
  have h2 := filt_split (p := fun q => decide (q < t)) (fnd hs a)
  have h3 : ((fnd hs a).filter fun q => !decide (q < t)).length = ((iv (a - 96) 96).filter fun p => decide (t ≤ land hs p)).length := by
    unfold fnd
    rw [List.filter_filter, List.filter_map, List.length_map]
    congr 1
    refine List.filter_congr fun p _ => ?_
    show (!decide (land hs p < t) && decide (a ≤ land hs p)) = decide (t ≤ land hs p)
    by_cases c : t ≤ land hs p
    · rw [decide_eq_true c, decide_eq_false (show ¬ land hs p < t by omega), decide_eq_true (show a ≤ land hs p by omega)]; rfl
    · rw [decide_eq_false c, decide_eq_true (show land hs p < t by omega)]; rfl
  have h4 := balls_same g a t
  show ((iv a (t - a).toNat).filter fun p => decide (t ≤ land hs p)).length = _
  omega
theorem cnt_clip (g : Gd hs) {a b t : Int} {H : Int} (hH : ∀ h ∈ hs, h ≤ H) (hb : b = if t - H > a then t - H else a) (h : a ≤ t) (h0 : 0 ≤ H) : ((iv b (t - b).toNat).filter fun p => decide (t ≤ land hs p)) = cnt hs a t := by
  unfold cnt
  by_cases c : t - H > a
  · rw [if_pos c] at hb
    have e : (t - a).toNat = (b - a).toNat + (t - b).toNat := by omega
    rw [e, iv_add, List.filter_append]
    have : ((iv a (b - a).toNat).filter fun p => decide (t ≤ land hs p)) = [] := List.filter_eq_nil_iff.mpr fun p hp e => by
      have h1 := mem_iv.mp hp
      have h2 := hH _ (hAt_mem g.l1 p)
      have h3 : t ≤ land hs p := of_decide_eq_true e
      unfold land at h3
      omega
    rw [this, List.nil_append, show a + ((b - a).toNat : Int) = b by omega]
  · rw [if_neg c] at hb
    rw [hb]
end
end MV
namespace MV
def dc (c : Int → Int) (a : Int) : Nat → Int
  | 0 => 0
  | k + 1 => dc c a k + (if c (a + k) < a then 1 else 0)
def cc1 (E : Int → Bool) (b : Int → Nat → Int) (a : Int) : Nat → Int
  | 0 => b a 0
  | k + 1 => if E (a + k) then max (max (cc1 E b a k) (b a k + 1)) (b a (k + 1)) else max (cc1 E b a k) (b a (k + 1))
def ccb (b : Int → Nat → Int) (P : List (Int → Bool)) : Int → Nat → Int := P.foldl (fun b E => cc1 E b) b
def lw (c : Int → Int) (E : Int → Bool) : Nat → Int → Int → Int
  | 0, _, l => l
  | f + 1, p, l => if E p then l else lw c E f (p - 1) (min l (c (p - 1)))
def brt (n : Nat) (c : Int → Int) (E : Int → Bool) (g : Int) : Int := lw c E n (g - 1) (c (g - 1))
def stepf (n : Nat) (c : Int → Int) (E : Int → Bool) (g : Int) : Int := if E g = true ∨ c g < brt n c E g then brt n c E g else c g
structure ES (n : Nat) (E : Int → Bool) : Prop where
  per : ∀ q, E (q + n) = E q
  ex : ∃ q, E q = true
structure CF (n : Nat) (c : Int → Int) : Prop where
  le : ∀ q, c q ≤ q
  per : ∀ q, c (q + n) = c q + n
  pm : ((iv 0 n).map fun q => c q % (n : Int)).Perm (iv 0 n)
theorem lw_min {c : Int → Int} {E : Int → Bool} {x : Int} : ∀ (f : Nat) (p l : Int), lw c E f p (min x l) = min x (lw c E f p l)
  | 0, _, _ => rfl
  | f + 1, p, l => by
    unfold lw
    cases E p with
    | true => rfl
    | false =>
      show lw c E f (p - 1) (min (min x l) (c (p - 1))) = min x (lw c E f (p - 1) (min l (c (p - 1))))
      rw [← lw_min f (p - 1), show min (min x l) (c (p - 1)) = min x (min l (c (p - 1))) by omega]
theorem lw_le {c : Int → Int} {E : Int → Bool} : ∀ (f : Nat) (p l : Int), lw c E f p l ≤ l
  | 0, _, l => Int.le_refl l
  | f + 1, p, l => by
    unfold lw
    cases E p with
    | true => exact Int.le_refl l
    | false =>
      have := lw_le (c := c) (E := E) f (p - 1) (min l (c (p - 1)))
      show lw c E f (p - 1) (min l (c (p - 1))) ≤ l
      omega
theorem lw_fuel {c : Int → Int} {E : Int → Bool} : ∀ (f d : Nat) (p l : Int), d ≤ f → E (p - (d : Int)) = true → lw c E (f + 1) p l = lw c E f p l
  | 0, d, p, l, hd, h => by
    have : p - (d : Int) = p := by omega
    rw [this] at h
    unfold lw
    rw [h]; rfl
  | f + 1, d, p, l, hd, h => by
    rw [show lw c E (f + 1 + 1) p l = if E p then l else lw c E (f + 1) (p - 1) (min l (c (p - 1))) from rfl]
    rw [show lw c E (f + 1) p l = if E p then l else lw c E f (p - 1) (min l (c (p - 1))) from rfl]
    cases e : E p with
    | true => rfl
    | false =>
      have d0 : d ≠ 0 := by
        intro z; subst z
        rw [show p - ((0 : Nat) : Int) = p by omega, e] at h
        cases h
      exact lw_fuel f (d - 1) (p - 1) _ (by omega) (by rw [show p - 1 - ((d - 1 : Nat) : Int) = p - (d : Int) by omega]; exact h)
theorem per_mul {c : Int → Int} {n : Nat} (h : ∀ q, c (q + n) = c q + n) (q : Int) : ∀ k : Int, c (q + n * k) = c q + n * k := by
  have nat : ∀ k : Nat, ∀ q, c (q + n * (k : Int)) = c q + n * (k : Int) := by
    intro k
    induction k with
    | zero => intro q; simp
    | succ k ih =>
      intro q
      have e : (n : Int) * ((k + 1 : Nat) : Int) = n * (k : Int) + n := by rw [Int.natCast_add, Int.mul_add]; simp
      rw [e, ← Int.add_assoc, h, ih]; omega
  intro k
  rcases Int.le_total 0 k with hk | hk
  · obtain ⟨m, rfl⟩ := Int.eq_ofNat_of_zero_le hk
    exact nat m q
  · obtain ⟨m, hm⟩ := Int.eq_ofNat_of_zero_le (show 0 ≤ -k by omega)
    have := nat m (q + n * k)
    have e : (n : Int) * k = -(n * (m : Int)) := by rw [← Int.mul_neg, ← hm, Int.neg_neg]
    rw [e] at this ⊢
    rw [show q + -((n : Int) * (m : Int)) + n * (m : Int) = q by omega] at this
    omega
theorem bper_mul {E : Int → Bool} {n : Nat} (h : ∀ q, E (q + n) = E q) (q : Int) : ∀ k : Int, E (q + n * k) = E q := by
  have nat : ∀ k : Nat, ∀ q, E (q + n * (k : Int)) = E q := by
    intro k
    induction k with
    | zero => intro q; simp
    | succ k ih =>
      intro q
      have e : (n : Int) * ((k + 1 : Nat) : Int) = n * (k : Int) + n := by rw [Int.natCast_add, Int.mul_add]; simp
      rw [e, ← Int.add_assoc, h, ih]
  intro k
  rcases Int.le_total 0 k with hk | hk
  · obtain ⟨m, rfl⟩ := Int.eq_ofNat_of_zero_le hk
    exact nat m q
  · obtain ⟨m, hm⟩ := Int.eq_ofNat_of_zero_le (show 0 ≤ -k by omega)
    have := nat m (q + n * k)
    have e : (n : Int) * k = -(n * (m : Int)) := by rw [← Int.mul_neg, ← hm, Int.neg_neg]
    rw [e] at this ⊢
    rw [show q + -((n : Int) * (m : Int)) + n * (m : Int) = q by omega] at this
    exact this.symm
theorem ES.near {n : Nat} {E : Int → Bool} (e : ES n E) (n1 : 1 ≤ n) (p : Int) : ∃ d : Nat, d < n ∧ E (p - (d : Int)) = true := by
  obtain ⟨q, hq⟩ := e.ex
  have h0 : 0 ≤ (p - q) % (n : Int) := Int.emod_nonneg _ (by omega)
  have h1 : (p - q) % (n : Int) < n := Int.emod_lt_of_pos _ (by omega)
  refine ⟨((p - q) % (n : Int)).toNat, by omega, ?_⟩
  rw [show (((p - q) % (n : Int)).toNat : Int) = (p - q) % (n : Int) by omega]
  have := Int.emod_add_mul_ediv (p - q) (n : Int)
  rw [show p - (p - q) % (n : Int) = q + n * ((p - q) / (n : Int)) by omega, bper_mul e.per]
  exact hq
theorem brt_succ {n : Nat} {c : Int → Int} {E : Int → Bool} (e : ES n E) (n1 : 1 ≤ n) (g : Int) : brt n c E (g + 1) = if E g then c g else min (c g) (brt n c E g) := by
  obtain ⟨m, rfl⟩ : ∃ m, n = m + 1 := ⟨n - 1, by omega⟩
  unfold brt
  rw [show g + 1 - 1 = g by omega]
  rw [show lw c E (m + 1) g (c g) = if E g then c g else lw c E m (g - 1) (min (c g) (c (g - 1))) from rfl]
  cases h : E g with
  | true => rfl
  | false =>
    show lw c E m (g - 1) (min (c g) (c (g - 1))) = min (c g) (lw c E (m + 1) (g - 1) (c (g - 1)))
    obtain ⟨d, hd, hE⟩ := e.near n1 g
    have d0 : d ≠ 0 := by
      intro z; subst z
      rw [show g - ((0 : Nat) : Int) = g by omega, h] at hE
      cases hE
    rw [lw_min, lw_fuel m (d - 1) (g - 1) _ (by omega) (by rw [show g - 1 - ((d - 1 : Nat) : Int) = g - (d : Int) by omega]; exact hE)]
theorem brt_lt {n : Nat} {c : Int → Int} {E : Int → Bool} (le : ∀ q, c q ≤ q) (g : Int) : brt n c E g < g := by
  unfold brt
  have := lw_le (c := c) (E := E) n (g - 1) (c (g - 1))
  have := le (g - 1)
  omega
theorem cc1_eq {n : Nat} {c : Int → Int} {E : Int → Bool} (e : ES n E) (n1 : 1 ≤ n) (le : ∀ q, c q ≤ q) (a : Int) : ∀ k : Nat, cc1 E (dc c) a k = dc c a k + (if a ≤ brt n c E (a + k) then 1 else 0)
  | 0 => by
    have := brt_lt (n := n) (E := E) le (a + ((0 : Nat) : Int))
    rw [if_neg (by omega)]; rfl
  | k + 1 => by
    have ih := cc1_eq e n1 le a k
    have b := brt_succ (c := c) e n1 (a + (k : Int))
    unfold cc1
    rw [ih, show a + ((k + 1 : Nat) : Int) = a + (k : Int) + 1 by omega, b]
    rw [show dc c a (k + 1) = dc c a k + (if c (a + k) < a then 1 else 0) from rfl]
    cases E (a + (k : Int)) with
    | true =>
      simp only [if_true]
      split <;> split <;> split <;> omega
    | false =>
      simp only [if_false, Bool.false_eq_true]
      split <;> split <;> split <;> omega
theorem cc1_step {n : Nat} {c : Int → Int} {E : Int → Bool} (e : ES n E) (n1 : 1 ≤ n) (le : ∀ q, c q ≤ q) (a : Int) : ∀ k : Nat, cc1 E (dc c) a k = dc (stepf n c E) a k
  | 0 => rfl
  | k + 1 => by
    have ih := cc1_step e n1 le a k
    have h1 := cc1_eq e n1 le a k
    have h2 := cc1_eq e n1 le a (k + 1)
    have b := brt_succ (c := c) e n1 (a + (k : Int))
    rw [show a + ((k + 1 : Nat) : Int) = a + (k : Int) + 1 by omega, b] at h2
    rw [show dc c a (k + 1) = dc c a k + (if c (a + k) < a then 1 else 0) from rfl] at h2
    rw [show dc (stepf n c E) a (k + 1) = dc (stepf n c E) a k + (if stepf n c E (a + k) < a then 1 else 0) from rfl, ← ih, h1, h2]
    unfold stepf
    generalize brt n c E (a + (k : Int)) = B
    generalize c (a + (k : Int)) = C
    cases E (a + (k : Int)) with
    | true =>
      simp only [if_true, true_or]
      split <;> split <;> split <;> omega
    | false =>
      simp only [if_false, Bool.false_eq_true, false_or]
      by_cases q : C < B
      · rw [if_pos q]
        split <;> split <;> split <;> omega
      · rw [if_neg q]
        split <;> split <;> omega
theorem step_le {n : Nat} {c : Int → Int} {E : Int → Bool} (le : ∀ q, c q ≤ q) (g : Int) : stepf n c E g ≤ g := by
  have := brt_lt (n := n) (E := E) le g
  have := le g
  unfold stepf
  split <;> omega
theorem lw_per {n : Nat} {c : Int → Int} {E : Int → Bool} (hc : ∀ q, c (q + n) = c q + n) (hE : ∀ q, E (q + n) = E q) : ∀ (f : Nat) (p l : Int), lw c E f (p + n) (l + n) = lw c E f p l + n
  | 0, _, _ => rfl
  | f + 1, p, l => by
    unfold lw
    rw [hE]
    cases E p with
    | true => rfl
    | false =>
      show lw c E f (p + n - 1) (min (l + n) (c (p + n - 1))) = lw c E f (p - 1) (min l (c (p - 1))) + n
      rw [← lw_per hc hE f (p - 1), show p + (n : Int) - 1 = p - 1 + n by omega, hc, show min (l + (n : Int)) (c (p - 1) + n) = min l (c (p - 1)) + n by omega]
theorem brt_per {n : Nat} {c : Int → Int} {E : Int → Bool} (hc : ∀ q, c (q + n) = c q + n) (hE : ∀ q, E (q + n) = E q) (g : Int) : brt n c E (g + n) = brt n c E g + n := by
  unfold brt
  rw [show g + (n : Int) - 1 = g - 1 + n by omega, hc]
  exact lw_per hc hE n (g - 1) _
theorem step_per {n : Nat} {c : Int → Int} {E : Int → Bool} (hc : ∀ q, c (q + n) = c q + n) (hE : ∀ q, E (q + n) = E q) (g : Int) : stepf n c E (g + n) = stepf n c E g + n := by
  unfold stepf
  rw [brt_per hc hE, hc, hE]
  by_cases h : E g = true ∨ c g < brt n c E g
  · rw [if_pos h, if_pos (h.imp id fun h => by omega)]
  · rw [if_neg h, if_neg fun z => h (z.imp id fun h => by omega)]
theorem step_sum {n : Nat} {c : Int → Int} {E : Int → Bool} (e : ES n E) (n1 : 1 ≤ n) (φ : Int → Int) (a : Int) : ∀ m : Nat, sm (iv a m) (fun g => φ (stepf n c E g)) + φ (brt n c E (a + m)) = φ (brt n c E a) + sm (iv a m) (fun g => φ (c g))
  | 0 => by
    rw [iv_zero, sm_nil, sm_nil, show a + ((0 : Nat) : Int) = a by omega]; omega
  | m + 1 => by
    have ih := step_sum (c := c) e n1 φ a m
    have b := brt_succ (c := c) e n1 (a + (m : Int))
    rw [iv_succ, sm_app, sm_app, sm_cons, sm_nil, sm_cons, sm_nil, show a + ((m + 1 : Nat) : Int) = a + (m : Int) + 1 by omega, b]
    have key : φ (stepf n c E (a + m)) + φ (if E (a + (m : Int)) then c (a + m) else min (c (a + m)) (brt n c E (a + m))) = φ (brt n c E (a + m)) + φ (c (a + m)) := by
      unfold stepf
      cases E (a + (m : Int)) with
      | true => simp only [if_true, true_or]
      | false =>
        simp only [if_false, Bool.false_eq_true, false_or]
        by_cases q : c (a + m) < brt n c E (a + m)
        · rw [if_pos q, show min (c (a + (m : Int))) (brt n c E (a + m)) = c (a + m) by omega]
        · rw [if_neg q, show min (c (a + (m : Int))) (brt n c E (a + m)) = brt n c E (a + m) by omega]; omega
    omega
theorem perm_of_sm {n : Nat} {f g : Int → Int} (h : ∀ r : Int, sm (iv 0 n) (fun q => ind (f q = r)) = sm (iv 0 n) (fun q => ind (g q = r))) : ((iv 0 n).map f).Perm ((iv 0 n).map g) := by
  refine List.perm_iff_count.mpr fun r => ?_
  have key : ∀ f : Int → Int, (((iv 0 n).map f).count r : Int) = sm (iv 0 n) (fun q => ind (f q = r)) := by
    intro f
    rw [sm_count]
    congr 1
    rw [List.count_eq_countP, List.countP_map, List.countP_eq_length_filter]
    congr 1
  have := h r
  rw [← key, ← key] at this
  omega
theorem CF.step {n : Nat} {c : Int → Int} {E : Int → Bool} (h : CF n c) (e : ES n E) (n1 : 1 ≤ n) : CF n (stepf n c E) := by
  refine ⟨step_le h.le, step_per h.per e.per, ?_⟩
  refine List.Perm.trans (perm_of_sm fun r => ?_) h.pm
  have s := step_sum (c := c) e n1 (fun x => ind (x % (n : Int) = r)) 0 n
  have b := brt_per h.per e.per 0
  rw [Int.zero_add] at s b
  have : ind (brt n c E n % (n : Int) = r) = ind (brt n c E 0 % (n : Int) = r) := by
    rw [b, Int.add_emod_right]
  have s : sm (iv 0 n) (fun g => ind (stepf n c E g % (n : Int) = r)) + ind (brt n c E n % (n : Int) = r) = ind (brt n c E 0 % (n : Int) = r) + sm (iv 0 n) (fun g => ind (c g % (n : Int) = r)) := s
  omega
def tot (n : Nat) (c : Int → Int) : Int := sm (iv 0 n) fun q => q - c q
theorem tot_step {n : Nat} {c : Int → Int} {E : Int → Bool} (h : CF n c) (e : ES n E) (n1 : 1 ≤ n) : tot n (stepf n c E) = tot n c + n := by
  have s := step_sum (c := c) e n1 (fun x => x) 0 n
  have b := brt_per h.per e.per 0
  rw [Int.zero_add] at s b
  have s : sm (iv 0 n) (fun g => stepf n c E g) + brt n c E n = brt n c E 0 + sm (iv 0 n) (fun g => c g) := s
  have d1 : tot n (stepf n c E) = sm (iv 0 n) (fun g => g) - sm (iv 0 n) (fun g => stepf n c E g) := sm_sub
  have d2 : tot n c = sm (iv 0 n) (fun g => g) - sm (iv 0 n) (fun g => c g) := sm_sub
  omega
theorem CF.high {n : Nat} {c : Int → Int} (h : CF n c) (n1 : 1 ≤ n) (q : Int) : q - c q ≤ tot n c := by
  have e := Int.emod_add_mul_ediv q (n : Int)
  have h0 : 0 ≤ q % (n : Int) := Int.emod_nonneg _ (by omega)
  have h1 : q % (n : Int) < n := Int.emod_lt_of_pos _ (by omega)
  have p := per_mul h.per (q % (n : Int)) (q / (n : Int))
  rw [e] at p
  have := (sm_le (l := iv 0 n) (f := fun q => q - c q) (fun x _ => by have := h.le x; show 0 ≤ x - c x; omega)).2 (q % (n : Int)) (mem_iv.mpr (by omega))
  have : q % (n : Int) - c (q % (n : Int)) ≤ tot n c := this
  omega
theorem CF.id (n : Nat) : CF n (fun q => q) := by
  refine ⟨fun q => Int.le_refl q, fun q => rfl, ?_⟩
  have : ((iv 0 n).map fun q => q % (n : Int)) = iv 0 n := by
    rw [List.map_congr_left (g := fun q => q) fun q hq => ?_, List.map_id']
    have := mem_iv.mp hq
    exact Int.emod_eq_of_lt this.1 (by omega)
  rw [this]
def pgc (n : Nat) (c : Int → Int) (P : List (Int → Bool)) : Int → Int := P.foldl (fun c E => stepf n c E) c
theorem pgc_ok {n : Nat} (n1 : 1 ≤ n) : ∀ {P : List (Int → Bool)} {c : Int → Int}, CF n c → (∀ E ∈ P, ES n E) → CF n (pgc n c P) ∧ tot n (pgc n c P) = tot n c + n * (P.length : Int) ∧ ccb (dc c) P = dc (pgc n c P)
  | [], c, h, _ => ⟨h, by simp [pgc], rfl⟩
  | E :: P, c, h, hP => by
    have e := hP E List.mem_cons_self
    obtain ⟨h1, h2, h3⟩ := pgc_ok n1 (P := P) (h.step e n1) fun F hF => hP F (List.mem_cons_of_mem _ hF)
    refine ⟨h1, ?_, ?_⟩
    · show tot n (pgc n (stepf n c E) P) = _
      rw [h2, tot_step h e n1, List.length_cons, Int.natCast_add, Int.mul_add]; omega
    · show ccb (cc1 E (dc c)) P = dc (pgc n (stepf n c E) P)
      rw [← h3, show cc1 E (dc c) = dc (stepf n c E) from funext fun a => funext fun k => cc1_step e n1 h.le a k]
end MV
namespace MV
structure HC (n : Nat) (c : Int → Int) (hs : List Int) : Prop where
  len : hs.length = n
  at_ : ∀ i : Nat, i < n → c ((i : Int) + hs.getD i 0) = i
theorem map_inj_nodup {α β : Type} {f : α → β} : ∀ {l : List α}, (l.map f).Nodup → ∀ {x y : α}, x ∈ l → y ∈ l → f x = f y → x = y
  | [], _, x, y, hx, _, _ => by cases hx
  | a :: l, nd, x, y, hx, hy, e => by
    rw [List.map_cons, List.nodup_cons] at nd
    rcases List.mem_cons.mp hx with hxa | hx
    · subst hxa
      rcases List.mem_cons.mp hy with hya | hy
      · exact hya.symm
      · exact absurd (List.mem_map.mpr ⟨y, hy, e.symm⟩) nd.1
    · rcases List.mem_cons.mp hy with hy | hy
      · exact absurd (List.mem_map.mpr ⟨x, hx, by rw [e, hy]⟩) nd.1
      · exact map_inj_nodup nd.2 hx hy e
section
variable {n : Nat} {c : Int → Int} {hs : List Int}
theorem mod_mem (n1 : 1 ≤ n) (q : Int) : q % (n : Int) ∈ iv 0 n := by
  have h0 : 0 ≤ q % (n : Int) := Int.emod_nonneg _ (by omega)
  have h1 : q % (n : Int) < n := Int.emod_lt_of_pos _ (by omega)
  exact mem_iv.mpr (by omega)
theorem CF.at_mod (h : CF n c) (q : Int) : c q = c (q % (n : Int)) + n * (q / (n : Int)) := by
  have e := Int.emod_add_mul_ediv q (n : Int)
  have p := per_mul h.per (q % (n : Int)) (q / (n : Int))
  rw [e] at p
  exact p
theorem CF.inj (h : CF n c) (n1 : 1 ≤ n) {x y : Int} (e : c x = c y) : x = y := by
  have nd : ((iv 0 n).map fun q => c q % (n : Int)).Nodup := h.pm.nodup_iff.mpr nodup_iv
  have e1 := h.at_mod x
  have e2 := h.at_mod y
  have m : x % (n : Int) = y % (n : Int) := by
    refine map_inj_nodup nd (mod_mem n1 x) (mod_mem n1 y) ?_
    have a1 : c x % (n : Int) = c (x % (n : Int)) % (n : Int) := by rw [e1, Int.add_mul_emod_self_left]
    have a2 : c y % (n : Int) = c (y % (n : Int)) % (n : Int) := by rw [e2, Int.add_mul_emod_self_left]
    show c (x % (n : Int)) % (n : Int) = c (y % (n : Int)) % (n : Int)
    rw [← a1, ← a2, e]
  rw [m] at e1
  have d1 := Int.emod_add_mul_ediv x (n : Int)
  have d2 := Int.emod_add_mul_ediv y (n : Int)
  omega
theorem CF.sur (h : CF n c) (n1 : 1 ≤ n) (p : Int) : ∃ q, c q = p := by
  obtain ⟨q, hq, e⟩ := List.mem_map.mp (h.pm.mem_iff.mpr (mod_mem n1 p))
  have e : c q % (n : Int) = p % (n : Int) := e
  have d1 := Int.emod_add_mul_ediv (c q) (n : Int)
  have d2 := Int.emod_add_mul_ediv p (n : Int)
  refine ⟨q + n * (p / (n : Int) - c q / (n : Int)), ?_⟩
  rw [per_mul h.per, Int.mul_sub]
  omega
theorem HC.land (k : HC n c hs) (h : CF n c) (n1 : 1 ≤ n) (p : Int) : c (MV.land hs p) = p := by
  have e := Int.emod_add_mul_ediv p (n : Int)
  have h0 : 0 ≤ p % (n : Int) := Int.emod_nonneg _ (by omega)
  have h1 : p % (n : Int) < n := Int.emod_lt_of_pos _ (by omega)
  have a := k.at_ (p % (n : Int)).toNat (by omega)
  have m := per_mul h.per (((p % (n : Int)).toNat : Int) + hs.getD (p % (n : Int)).toNat 0) (p / (n : Int))
  unfold MV.land hAt
  rw [k.len]
  rw [a] at m
  rw [show p + hs.getD (p % (n : Int)).toNat 0 = ((p % (n : Int)).toNat : Int) + hs.getD (p % (n : Int)).toNat 0 + n * (p / (n : Int)) by omega, m]
  omega
theorem HC.back (k : HC n c hs) (h : CF n c) (n1 : 1 ≤ n) (q : Int) : MV.land hs (c q) = q := h.inj n1 (k.land h n1 (c q))
theorem HC.gd (k : HC n c hs) (h : CF n c) (n1 : 1 ≤ n) (n6 : n ≤ 6) (t : tot n c ≤ 96) : Gd hs := by
  have at_ : ∀ i : Nat, i < n → MV.land hs i = (i : Int) + hs.getD i 0 := fun i hi => by
    unfold MV.land
    rw [hAt_nat (by rw [k.len]; exact hi)]
  have lm : ∀ x ∈ hs, ∃ i : Nat, i < n ∧ hs.getD i 0 = x := fun x hx => by
    obtain ⟨i, hi, rfl⟩ := List.getElem_of_mem hx
    exact ⟨i, by rw [← k.len]; exact hi, by rw [List.getD_eq_getElem?_getD, List.getElem?_eq_getElem hi]; rfl⟩
  refine ⟨by rw [k.len]; exact n1, by rw [k.len]; exact n6, fun x hx => ?_, fun x hx => ?_, ?_⟩
  · obtain ⟨i, hi, rfl⟩ := lm x hx
    have a := k.at_ i hi
    have b := h.le ((i : Int) + hs.getD i 0)
    omega
  · obtain ⟨i, hi, rfl⟩ := lm x hx
    have a := k.at_ i hi
    have b := h.high n1 ((i : Int) + hs.getD i 0)
    omega
  · have e1 : tgs hs = (iv 0 n).map fun p => MV.land hs p % (n : Int) := by
      unfold tgs iv
      rw [k.len, List.map_map]
      refine List.map_congr_left fun i hi => ?_
      have hi := List.mem_range.mp hi
      show ((i : Int) + hs.getD i 0) % (n : Int) = MV.land hs (0 + (i : Int)) % (n : Int)
      rw [Int.zero_add, at_ i hi]
    have e2 : (((iv 0 n).map fun q => c q % (n : Int)).map fun p => MV.land hs p % (n : Int)) = iv 0 n := by
      rw [List.map_map]
      rw [List.map_congr_left (g := fun q => q) fun q hq => ?_, List.map_id']
      have hq := mem_iv.mp hq
      show MV.land hs (c q % (n : Int)) % (n : Int) = q
      have lp : ∀ p : Int, MV.land hs (p % (n : Int)) % (n : Int) = MV.land hs p % (n : Int) := fun p => by
        unfold MV.land
        rw [← k.len, hAt_mod (Int.emod_emod _ _), Int.emod_add_emod]
      rw [lp, k.back h n1]
      exact Int.emod_eq_of_lt hq.1 (by omega)
    rw [e1, k.len]
    exact (h.pm.map _).symm.trans (by rw [e2])
theorem Cm.cf {cl : List Int} (g : Gd hs) (m : Cm hs cl) : CF hs.length (cm cl) ∧ HC hs.length (cm cl) hs := by
  have l1 := g.l1
  have per : ∀ q, cm cl (q + hs.length) = cm cl q + hs.length := fun q => by
    unfold cm
    rw [m.len]
    have a : hAt cl (q + (hs.length : Int)) = hAt cl q := hAt_mod (by rw [m.len, Int.add_emod_right])
    rw [a, Int.add_emod_right]; omega
  have hc : ∀ i : Nat, i < hs.length → cm cl ((i : Int) + hs.getD i 0) = i := fun i hi => by
    have := (m.iff g (i : Int) ((i : Int) + hs.getD i 0)).mp (by unfold MV.land; rw [hAt_nat hi])
    exact this.symm
  refine ⟨⟨fun q => ?_, per, ?_⟩, rfl, hc⟩
  · have a := m.land g q
    have b := g.ge (cm cl q)
    omega
  · have e : ((tgs hs).map fun q => cm cl q % (hs.length : Int)) = iv 0 hs.length := by
      unfold tgs iv
      rw [List.map_map]
      refine List.map_congr_left fun i hi => ?_
      have hi := List.mem_range.mp hi
      show cm cl (((i : Int) + hs.getD i 0) % (hs.length : Int)) % (hs.length : Int) = 0 + (i : Int)
      have d := Int.emod_add_mul_ediv ((i : Int) + hs.getD i 0) (hs.length : Int)
      have p := per_mul per (((i : Int) + hs.getD i 0) % (hs.length : Int)) (((i : Int) + hs.getD i 0) / (hs.length : Int))
      rw [d, hc i hi] at p
      have : cm cl (((i : Int) + hs.getD i 0) % (hs.length : Int)) % (hs.length : Int) = (i : Int) % (hs.length : Int) :=
        ((congrArg (fun x => x % (hs.length : Int)) p).trans (Int.add_mul_emod_self_left _ _ _)).symm
      rw [this, Int.emod_eq_of_lt (by omega) (by omega)]; omega
    have := g.pm.map fun q => cm cl q % (hs.length : Int)
    rw [e] at this
    exact this.symm
theorem HC.uniq {hs' : List Int} (k : HC n c hs) (k' : HC n c hs') (h : CF n c) (n1 : 1 ≤ n) : hs = hs' := by
  refine List.ext_getElem (by rw [k.len, k'.len]) fun i h1 h2 => ?_
  have hi : i < n := by rw [← k.len]; exact h1
  have e := h.inj n1 ((k.at_ i hi).trans (k'.at_ i hi).symm)
  rw [List.getD_eq_getElem?_getD, List.getD_eq_getElem?_getD, List.getElem?_eq_getElem h1, List.getElem?_eq_getElem h2] at e
  have e : (i : Int) + hs[i] = (i : Int) + hs'[i] := e
  omega
theorem HC.cm {cl : List Int} (k : HC n c hs) (h : CF n c) (n1 : 1 ≤ n) (g : Gd hs) (m : Cm hs cl) : MV.cm cl = c := by
  funext q
  have a := m.land g q
  have b := k.land h n1 (MV.cm cl q)
  rw [a] at b
  exact b.symm
theorem HC.sum (k : HC n c hs) (h : CF n c) (n1 : 1 ≤ n) (g : Gd hs) : tot n c = hs.sum := by
  have e1 : sm (tgs hs) (fun q => q - c q) = sm (iv 0 n) (fun q => q - c q) := sm_perm (by have := g.pm; rw [k.len] at this; exact this)
  have e2 : sm (tgs hs) (fun q => q - c q) = sm (List.range n) (fun (i : Nat) => hs.getD i 0) := by
    unfold tgs
    rw [sm_map, k.len]
    refine sm_congr fun i hi => ?_
    have hi := List.mem_range.mp hi
    have d := Int.emod_add_mul_ediv ((i : Int) + hs.getD i 0) (n : Int)
    have p := h.at_mod ((i : Int) + hs.getD i 0)
    rw [k.at_ i hi] at p
    omega
  have e3 : sm (List.range n) (fun (i : Nat) => hs.getD i 0) = hs.sum := by
    unfold sm
    congr 1
    refine List.ext_getElem (by simp [k.len]) fun i h1 h2 => ?_
    simp [List.getElem_map, List.getElem_range, List.getD_eq_getElem?_getD, List.getElem?_eq_getElem h2]
  unfold tot
  omega
theorem dc_filt {a : Int} : ∀ k : Nat, dc c a k = (((iv a k).filter fun q => decide (c q < a)).length : Int)
  | 0 => rfl
  | k + 1 => by
    rw [iv_succ, List.filter_append, List.length_append]
    show dc c a k + _ = _
    rw [dc_filt k]
    by_cases h : c (a + (k : Int)) < a
    · rw [if_pos h, List.filter_cons_of_pos (p := fun q => decide (c q < a)) (decide_eq_true h)]; simp
    · rw [if_neg h, List.filter_cons_of_neg (p := fun q => decide (c q < a)) (by rw [decide_eq_false h]; simp)]; simp
theorem HC.cnt (k : HC n c hs) (h : CF n c) (n1 : 1 ≤ n) (g : Gd hs) (a : Int) (m : Nat) : ((MV.cnt hs a (a + m)).length : Int) = dc c a m := by
  rw [cnt_U g (by omega), dc_filt]
  congr 1
  have nd : (fnd hs a).Nodup := g.nodup_map.filter _
  have : ((fnd hs a).filter fun q => decide (q < a + (m : Int))).Perm ((iv a m).filter fun q => decide (c q < a)) := by
    refine (List.perm_ext_iff_of_nodup (nd.filter _) (nodup_iv.filter _)).mpr fun q => ?_
    rw [List.mem_filter, List.mem_filter, mem_fnd, mem_iv, decide_eq_true_iff, decide_eq_true_iff]
    constructor
    · rintro ⟨⟨h1, p, h2, h3, rfl⟩, h4⟩
      rw [k.land h n1]
      exact ⟨⟨h1, h4⟩, h3⟩
    · rintro ⟨⟨h1, h2⟩, h3⟩
      have b := k.back h n1 q
      have := g.le (c q)
      exact ⟨⟨h1, c q, by omega, h3, b⟩, h2⟩
  exact this.length_eq
structure CL (n : Nat) (c : Int → Int) (cl : List Int) : Prop where
  len : cl.length = n
  at_ : ∀ i : Nat, i < n → cl.getD i 0 = c i
theorem CL.cm {cl : List Int} (l : CL n c cl) (h : CF n c) (n1 : 1 ≤ n) (q : Int) : MV.cm cl q = c q := by
  have h0 : 0 ≤ q % (n : Int) := Int.emod_nonneg _ (by omega)
  have h1 : q % (n : Int) < n := Int.emod_lt_of_pos _ (by omega)
  have d := Int.emod_add_mul_ediv q (n : Int)
  unfold MV.cm hAt
  rw [l.len, l.at_ _ (by omega), show ((q % (n : Int)).toNat : Int) = q % (n : Int) by omega, h.at_mod q]
  omega
def hof (n : Nat) (c : Int → Int) (k : Nat) : List Int := (List.range k).foldl (fun hs (i : Nat) => hs.set (c i % (n : Int)).toNat ((i : Int) - c i)) (List.replicate n 0)
theorem hof_succ {k : Nat} : hof n c (k + 1) = (hof n c k).set (c k % (n : Int)).toNat ((k : Int) - c k) := by
  unfold hof
  rw [List.range_succ, List.foldl_append]; rfl
theorem hof_len : ∀ k : Nat, (hof n c k).length = n
  | 0 => by unfold hof; simp
  | k + 1 => by rw [hof_succ, List.length_set, hof_len k]
theorem hof_get (h : CF n c) (n1 : 1 ≤ n) : ∀ k : Nat, k ≤ n → ∀ i : Nat, i < k → (hof n c k).getD (c i % (n : Int)).toNat 0 = (i : Int) - c i
  | 0, _, i, hi => by omega
  | k + 1, hk, i, hi => by
    have nd : ((iv 0 n).map fun q => c q % (n : Int)).Nodup := h.pm.nodup_iff.mpr nodup_iv
    have h0 : 0 ≤ c k % (n : Int) := Int.emod_nonneg _ (by omega)
    have h1 : c k % (n : Int) < n := Int.emod_lt_of_pos _ (by omega)
    have h2 : 0 ≤ c i % (n : Int) := Int.emod_nonneg _ (by omega)
    rw [hof_succ, getD_set (by rw [hof_len]; omega)]
    by_cases e : i = k
    · subst e
      rw [if_pos rfl]
    · rw [if_neg, hof_get h n1 k (by omega) i (by omega)]
      intro z
      have : (i : Int) = (k : Int) := map_inj_nodup nd (x := (i : Int)) (y := (k : Int)) (mem_iv.mpr (by omega)) (mem_iv.mpr (by omega)) (by show c i % (n : Int) = c k % (n : Int); omega)
      omega
theorem hof_hc (h : CF n c) (n1 : 1 ≤ n) : HC n c (hof n c n) := by
  refine ⟨hof_len n, fun j hj => ?_⟩
  obtain ⟨q, hq, e⟩ := List.mem_map.mp (h.pm.mem_iff.mpr (mem_iv.mpr (show 0 ≤ (j : Int) ∧ (j : Int) < 0 + n by omega)))
  have hq := mem_iv.mp hq
  have e : c q % (n : Int) = (j : Int) := e
  have g := hof_get h n1 n (Nat.le_refl n) q.toNat (by omega)
  rw [show ((q.toNat : Nat) : Int) = q by omega, e, Int.toNat_natCast] at g
  rw [g]
  have d := Int.emod_add_mul_ediv (c q) (n : Int)
  have p := per_mul h.per q (-(c q / (n : Int)))
  rw [Int.mul_neg] at p
  rw [show (j : Int) + (q - c q) = q + -((n : Int) * (c q / (n : Int))) by omega, p]
  omega
end
end MV
namespace MV
def uf (c : Int → Int) (q : Int) : Bool := decide (c q ≠ q)
def nxt (E : Int → Bool) : Nat → Int → Int
  | 0, q => q
  | f + 1, q => if E q then q else nxt E f (q + 1)
def pcf (n : Nat) (c : Int → Int) (q : Int) : Int := if uf c q then c (nxt (uf c) n (q + 1)) else q
theorem nxt_spec {E : Int → Bool} : ∀ (f d : Nat) (q : Int), d < f → E (q + (d : Int)) = true → E (nxt E f q) = true ∧ q ≤ nxt E f q ∧ ∀ x, q ≤ x → x < nxt E f q → E x = false
  | 0, d, q, hd, _ => by omega
  | f + 1, d, q, hd, h => by
    unfold nxt
    cases e : E q with
    | true => exact ⟨e, Int.le_refl q, fun x h1 h2 => by simp only [if_true] at h2; omega⟩
    | false =>
      have d0 : d ≠ 0 := by
        intro z; subst z
        rw [show q + ((0 : Nat) : Int) = q by omega, e] at h
        cases h
      obtain ⟨h1, h2, h3⟩ := nxt_spec f (d - 1) (q + 1) (by omega) (by rw [show q + 1 + ((d - 1 : Nat) : Int) = q + (d : Int) by omega]; exact h)
      simp only [Bool.false_eq_true, if_false]
      refine ⟨h1, by omega, fun x x1 x2 => ?_⟩
      by_cases c : x = q
      · rw [c]; exact e
      · exact h3 x (by omega) x2
theorem ES.nx {n : Nat} {E : Int → Bool} (e : ES n E) (n1 : 1 ≤ n) (q : Int) : E (nxt E n q) = true ∧ q ≤ nxt E n q ∧ ∀ x, q ≤ x → x < nxt E n q → E x = false := by
  obtain ⟨d, hd, h⟩ := e.near n1 (q + ((n - 1 : Nat) : Int))
  exact nxt_spec n (n - 1 - d) q (by omega) (by rw [show q + ((n - 1 - d : Nat) : Int) = q + ((n - 1 : Nat) : Int) - (d : Int) by omega]; exact h)
theorem ES.nx_eq {n : Nat} {E : Int → Bool} (e : ES n E) (n1 : 1 ≤ n) {q u : Int} (h : E u = true) (h1 : q ≤ u) (h2 : ∀ x, q ≤ x → x < u → E x = false) : nxt E n q = u := by
  obtain ⟨a1, a2, a3⟩ := e.nx n1 q
  rcases Int.lt_trichotomy (nxt E n q) u with x | x | x
  · have := h2 _ a2 x
    rw [a1] at this; cases this
  · exact x
  · have := a3 _ h1 x
    rw [h] at this; cases this
theorem nxt_per {n : Nat} {E : Int → Bool} (h : ∀ q, E (q + n) = E q) : ∀ (f : Nat) (q : Int), nxt E f (q + n) = nxt E f q + n
  | 0, _ => rfl
  | f + 1, q => by
    unfold nxt
    rw [h]
    cases E q with
    | true => rfl
    | false =>
      show nxt E f (q + n + 1) = nxt E f (q + 1) + n
      rw [show q + (n : Int) + 1 = q + 1 + n by omega, nxt_per h f]
section
variable {n : Nat} {c : Int → Int}
theorem uf_per (h : CF n c) (q : Int) : uf c (q + n) = uf c q := by
  unfold uf
  rw [h.per]
  exact decide_eq_decide.mpr (by omega)
theorem uf_t {q : Int} : uf c q = true ↔ c q ≠ q := decide_eq_true_iff
theorem uf_f {q : Int} : uf c q = false ↔ c q = q := by
  unfold uf
  rw [decide_eq_false_iff_not]
  exact ⟨fun h => Classical.not_not.mp h, fun h z => z h⟩
theorem CF.used (h : CF n c) (n1 : 1 ≤ n) {q : Int} (u : uf c q = true) : uf c (c q) = true ∧ c q < q := by
  have u := uf_t.mp u
  have := h.le q
  exact ⟨uf_t.mpr fun z => u (h.inj n1 z), by omega⟩
theorem CF.src (h : CF n c) (n1 : 1 ≤ n) (e : ES n (uf c)) (q : Int) : c (nxt (uf c) n q) < q := by
  obtain ⟨a1, a2, a3⟩ := e.nx n1 q
  obtain ⟨b1, b2⟩ := h.used n1 a1
  rcases Int.lt_or_le (c (nxt (uf c) n q)) q with x | x
  · exact x
  · have := a3 _ x b2
    rw [b1] at this; cases this
theorem nx_self (e : ES n (uf c)) (n1 : 1 ≤ n) {q : Int} (u : uf c q = true) : nxt (uf c) n q = q := e.nx_eq n1 u (Int.le_refl q) fun x h1 h2 => by omega
theorem nx_up (e : ES n (uf c)) (n1 : 1 ≤ n) {q : Int} (u : uf c q = false) : nxt (uf c) n q = nxt (uf c) n (q + 1) := by
  obtain ⟨a1, a2, a3⟩ := e.nx n1 (q + 1)
  refine e.nx_eq n1 a1 (by omega) fun x h1 h2 => ?_
  by_cases z : x = q
  · rw [z]; exact u
  · exact a3 x (by omega) h2
theorem pcf_sum (h : CF n c) (n1 : 1 ≤ n) (e : ES n (uf c)) (φ : Int → Int) (a : Int) : ∀ m : Nat, sm (iv a m) (fun g => φ (pcf n c g)) + φ (c (nxt (uf c) n a)) = sm (iv a m) (fun g => φ (c g)) + φ (c (nxt (uf c) n (a + m)))
  | 0 => by
    rw [iv_zero, sm_nil, sm_nil, show a + ((0 : Nat) : Int) = a by omega]
  | m + 1 => by
    have ih := pcf_sum h n1 e φ a m
    rw [iv_succ, sm_app, sm_app, sm_cons, sm_nil, sm_cons, sm_nil, show a + ((m + 1 : Nat) : Int) = a + (m : Int) + 1 by omega]
    have key : φ (pcf n c (a + m)) + φ (c (nxt (uf c) n (a + m))) = φ (c (a + m)) + φ (c (nxt (uf c) n (a + m + 1))) := by
      unfold pcf
      cases u : uf c (a + (m : Int)) with
      | true =>
        rw [nx_self e n1 u]
        simp only [if_true]; omega
      | false =>
        rw [nx_up e n1 u, uf_f.mp u]
        simp only [Bool.false_eq_true, if_false]
    omega
theorem CF.peel (h : CF n c) (n1 : 1 ≤ n) (e : ES n (uf c)) : CF n (pcf n c) ∧ tot n (pcf n c) = tot n c - n := by
  have np := nxt_per (uf_per h) n 0
  rw [Int.zero_add] at np
  refine ⟨⟨fun q => ?_, fun q => ?_, ?_⟩, ?_⟩
  · unfold pcf
    split
    · have := h.src n1 e (q + 1); omega
    · exact Int.le_refl q
  · unfold pcf
    rw [uf_per h, show q + (n : Int) + 1 = q + 1 + n by omega, nxt_per (uf_per h), h.per]
    split <;> rfl
  · refine List.Perm.trans (perm_of_sm fun r => ?_) h.pm
    have s := pcf_sum h n1 e (fun x => ind (x % (n : Int) = r)) 0 n
    rw [Int.zero_add, np, h.per] at s
    have z : ind ((c (nxt (uf c) n 0) + n) % (n : Int) = r) = ind (c (nxt (uf c) n 0) % (n : Int) = r) := by rw [Int.add_emod_right]
    have s : sm (iv 0 n) (fun g => ind (pcf n c g % (n : Int) = r)) + ind (c (nxt (uf c) n 0) % (n : Int) = r) = sm (iv 0 n) (fun g => ind (c g % (n : Int) = r)) + ind ((c (nxt (uf c) n 0) + n) % (n : Int) = r) := s
    omega
  · have s := pcf_sum h n1 e (fun x => x) 0 n
    rw [Int.zero_add, np, h.per] at s
    have s : sm (iv 0 n) (fun g => pcf n c g) + c (nxt (uf c) n 0) = sm (iv 0 n) (fun g => c g) + (c (nxt (uf c) n 0) + n) := s
    have d1 : tot n (pcf n c) = sm (iv 0 n) (fun g => g) - sm (iv 0 n) (fun g => pcf n c g) := sm_sub
    have d2 : tot n c = sm (iv 0 n) (fun g => g) - sm (iv 0 n) (fun g => c g) := sm_sub
    omega
end
structure IsConv (b1 b2 v : Int → Nat → Int) : Prop where
  ub : ∀ a k j, j ≤ k → b1 a j + b2 (a + (j : Int)) (k - j) ≤ v a k
  ex : ∀ a k, ∃ j, j ≤ k ∧ v a k = b1 a j + b2 (a + (j : Int)) (k - j)
theorem cc1_ub {E : Int → Bool} {b : Int → Nat → Int} {a : Int} : ∀ k : Nat, (∀ j, j ≤ k → b a j ≤ cc1 E b a k) ∧ ∀ j, j < k → E (a + (j : Int)) = true → b a j + 1 ≤ cc1 E b a k
  | 0 => ⟨fun j h => by rw [show j = 0 by omega]; exact Int.le_refl _, fun j h => by omega⟩
  | k + 1 => by
    obtain ⟨h1, h2⟩ := cc1_ub (E := E) (b := b) (a := a) k
    unfold cc1
    refine ⟨fun j hj => ?_, fun j hj e => ?_⟩
    · by_cases c : j = k + 1
      · subst c
        split <;> omega
      · have := h1 j (by omega)
        split <;> omega
    · by_cases c : j = k
      · subst c
        rw [if_pos e]; omega
      · have := h2 j (by omega) e
        split <;> omega
theorem cc1_ex {E : Int → Bool} {b : Int → Nat → Int} {a : Int} : ∀ k : Nat, (∃ j, j ≤ k ∧ cc1 E b a k = b a j) ∨ ∃ j, j < k ∧ E (a + (j : Int)) = true ∧ cc1 E b a k = b a j + 1
  | 0 => .inl ⟨0, by omega, rfl⟩
  | k + 1 => by
    have ih := cc1_ex (E := E) (b := b) (a := a) k
    unfold cc1
    have lift : ∀ x, x = cc1 E b a k → (∃ j, j ≤ k + 1 ∧ x = b a j) ∨ ∃ j, j < k + 1 ∧ E (a + (j : Int)) = true ∧ x = b a j + 1 := fun x hx => by
      subst hx
      rcases ih with ⟨j, h1, h2⟩ | ⟨j, h1, h2, h3⟩
      · exact .inl ⟨j, by omega, h2⟩
      · exact .inr ⟨j, by omega, h2, h3⟩
    cases e : E (a + (k : Int)) with
    | true =>
      simp only [if_true]
      rcases Int.le_total (max (cc1 E b a k) (b a k + 1)) (b a (k + 1)) with x | x
      · exact .inl ⟨k + 1, by omega, by omega⟩
      · rcases Int.le_total (cc1 E b a k) (b a k + 1) with y | y
        · exact .inr ⟨k, by omega, e, by omega⟩
        · exact lift _ (by omega)
    | false =>
      simp only [Bool.false_eq_true, if_false]
      rcases Int.le_total (cc1 E b a k) (b a (k + 1)) with x | x
      · exact .inl ⟨k + 1, by omega, by omega⟩
      · exact lift _ (by omega)
theorem IsConv.step {b1 b2 v : Int → Nat → Int} (h : IsConv b1 b2 v) (E : Int → Bool) : IsConv b1 (cc1 E b2) (cc1 E v) := by
  refine ⟨fun a k j hj => ?_, fun a k => ?_⟩
  · rcases cc1_ex (E := E) (b := b2) (a := a + (j : Int)) (k - j) with ⟨i, h1, h2⟩ | ⟨i, h1, h2, h3⟩
    · have u := h.ub a (j + i) j (by omega)
      rw [show j + i - j = i by omega] at u
      have w := (cc1_ub (E := E) (b := v) (a := a) k).1 (j + i) (by omega)
      omega
    · have u := h.ub a (j + i) j (by omega)
      rw [show j + i - j = i by omega] at u
      have w := (cc1_ub (E := E) (b := v) (a := a) k).2 (j + i) (by omega) (by rw [show a + ((j + i : Nat) : Int) = a + (j : Int) + (i : Int) by omega]; exact h2)
      omega
  · rcases cc1_ex (E := E) (b := v) (a := a) k with ⟨i, h1, h2⟩ | ⟨i, h1, h2, h3⟩
    · obtain ⟨j, j1, j2⟩ := h.ex a i
      have w := (cc1_ub (E := E) (b := b2) (a := a + (j : Int)) (k - j)).1 (i - j) (by omega)
      have u : b1 a j + cc1 E b2 (a + (j : Int)) (k - j) ≤ cc1 E v a k := by
        rcases cc1_ex (E := E) (b := b2) (a := a + (j : Int)) (k - j) with ⟨i', g1, g2⟩ | ⟨i', g1, g2, g3⟩
        · have u := h.ub a (j + i') j (by omega)
          rw [show j + i' - j = i' by omega] at u
          have w := (cc1_ub (E := E) (b := v) (a := a) k).1 (j + i') (by omega)
          omega
        · have u := h.ub a (j + i') j (by omega)
          rw [show j + i' - j = i' by omega] at u
          have w := (cc1_ub (E := E) (b := v) (a := a) k).2 (j + i') (by omega) (by rw [show a + ((j + i' : Nat) : Int) = a + (j : Int) + (i' : Int) by omega]; exact g2)
          omega
      exact ⟨j, by omega, by omega⟩
    · obtain ⟨j, j1, j2⟩ := h.ex a i
      have w := (cc1_ub (E := E) (b := b2) (a := a + (j : Int)) (k - j)).2 (i - j) (by omega) (by rw [show a + (j : Int) + ((i - j : Nat) : Int) = a + (i : Int) by omega]; exact h2)
      have u : b1 a j + cc1 E b2 (a + (j : Int)) (k - j) ≤ cc1 E v a k := by
        rcases cc1_ex (E := E) (b := b2) (a := a + (j : Int)) (k - j) with ⟨i', g1, g2⟩ | ⟨i', g1, g2, g3⟩
        · have u := h.ub a (j + i') j (by omega)
          rw [show j + i' - j = i' by omega] at u
          have w := (cc1_ub (E := E) (b := v) (a := a) k).1 (j + i') (by omega)
          omega
        · have u := h.ub a (j + i') j (by omega)
          rw [show j + i' - j = i' by omega] at u
          have w := (cc1_ub (E := E) (b := v) (a := a) k).2 (j + i') (by omega) (by rw [show a + ((j + i' : Nat) : Int) = a + (j : Int) + (i' : Int) by omega]; exact g2)
          omega
      exact ⟨j, by omega, by omega⟩
theorem IsConv.uniq {b1 b2 v w : Int → Nat → Int} (h : IsConv b1 b2 v) (g : IsConv b1 b2 w) : v = w := by
  funext a k
  obtain ⟨j, j1, j2⟩ := h.ex a k
  obtain ⟨i, i1, i2⟩ := g.ex a k
  have := h.ub a k i i1
  have := g.ub a k j j1
  omega
end MV
namespace MV
def okS (n : Nat) (S : List Int) : Prop := ∃ x ∈ S, 0 ≤ x ∧ x < (n : Int)
end MV
namespace MV
theorem HC.uf {n : Nat} {c : Int → Int} {hs : List Int} (k : HC n c hs) (h : CF n c) (n1 : 1 ≤ n) (x : Int) : uf c x = !decide (hAt hs x = 0) := by
  have a := k.land h n1 x
  have b := k.back h n1 x
  unfold MV.uf
  rw [decide_not]
  congr 1
  refine decide_eq_decide.mpr ⟨fun z => ?_, fun z => ?_⟩
  · rw [z] at b
    unfold MV.land at b
    omega
  · unfold MV.land at a
    rw [z, Int.add_zero] at a
    exact a
structure Cs (n : Nat) (c : Int → Int) (b : Nat) (hs : List Int) : Prop where
  n1 : 1 ≤ n
  n6 : n ≤ 6
  cf : CF n c
  hc : HC n c hs
  tt : tot n c = n * (b : Int)
  b16 : b ≤ 16
theorem Cs.tot96 {n b : Nat} {c : Int → Int} {hs : List Int} (k : Cs n c b hs) : tot n c ≤ 96 := by
  rw [k.tt]
  have := k.n6
  have := k.b16
  have : (n : Int) * (b : Int) ≤ 6 * 16 := Int.mul_le_mul (by omega) (by omega) (by omega) (by omega)
  omega
theorem Cs.gd {n b : Nat} {c : Int → Int} {hs : List Int} (k : Cs n c b hs) : Gd hs := k.hc.gd k.cf k.n1 k.n6 k.tot96
theorem Cs.sum {n b : Nat} {c : Int → Int} {hs : List Int} (k : Cs n c b hs) : hs.sum = n * (b : Int) := by rw [← k.hc.sum k.cf k.n1 k.gd, k.tt]
theorem Cs.balls {n b : Nat} {c : Int → Int} {hs : List Int} (k : Cs n c b hs) : hs.sum / (hs.length : Int) = b := by
  have := k.n1
  rw [k.sum, k.hc.len, Int.mul_ediv_cancel_left _ (by omega)]
theorem Cs.step {n b : Nat} {c : Int → Int} {hs : List Int} (k : Cs n c b hs) {Q : List (Int → Bool)} (hQ : ∀ E ∈ Q, ES n E) (l : b + Q.length ≤ 16) : Cs n (pgc n c Q) (b + Q.length) (hof n (pgc n c Q) n) := by
  obtain ⟨h1, h2, _⟩ := pgc_ok k.n1 k.cf hQ
  refine ⟨k.n1, k.n6, h1, hof_hc h1 k.n1, ?_, l⟩
  rw [h2, k.tt, Int.natCast_add, Int.mul_add]
theorem Cs.uniq {n b b' : Nat} {c : Int → Int} {hs hs' : List Int} (k : Cs n c b hs) (k' : Cs n c b' hs') : hs = hs' := k.hc.uniq k'.hc k.cf k.n1
end MV
namespace MV
def bits (n code : Nat) : List Int := (iv 0 n).filter fun p => decide ((code / 2 ^ p.toNat) % 2 = 1)
theorem in6 {n : Nat} (n1 : 1 ≤ n) (n6 : n ≤ 6) : n ∈ [1, 2, 3, 4, 5, 6] := by
  have : n = 1 ∨ n = 2 ∨ n = 3 ∨ n = 4 ∨ n = 5 ∨ n = 6 := by omega
  rcases this with rfl | rfl | rfl | rfl | rfl | rfl <;> decide
theorem bits_any : ∀ n ∈ [1, 2, 3, 4, 5, 6], ∀ c ∈ List.range (2 ^ n - 1), (bits n (c + 1)).any (fun x => decide (0 ≤ x) && decide (x < (n : Int))) = true := by decide +kernel
theorem bits_ok {n c : Nat} (n1 : 1 ≤ n) (n6 : n ≤ 6) (h : c < 2 ^ n - 1) : okS n (bits n (c + 1)) := by
  obtain ⟨x, hx, b⟩ := List.any_eq_true.mp (bits_any n (in6 n1 n6) c (List.mem_range.mpr h))
  rw [Bool.and_eq_true, decide_eq_true_iff, decide_eq_true_iff] at b
  exact ⟨x, hx, b⟩
end MV
namespace MV
open PySem PySem.Spec PyProof.Rows L2 He
section
variable {l l' w r ν α β γ σ : Type} {Γ Δ : List Sl} {C : Sur l w r} {P : ν → Sr → Prop} {t : Oc l w r ν} {e : β → Vl} {k : Sv → En → Sr} {own : List Nat} {tgt : SemG} {cond : SemB} {elt : Sem1}
def compS (f : α → σ → Oc Empty Unit Unit (Option β × σ)) : List α → σ → List β → Oc l w r (List β × σ)
  | [], s, acc => .next (acc, s)
  | x :: xs, s, acc => match f x s with
    | .next (none, s1) => compS f xs s1 acc
    | .next (some y, s1) => if acc.length < sizeLine then compS f xs s1 (acc ++ [y]) else .bad
    | _ => .bad
def PES {β σ : Type} (e : β → Vl) (G : σ → List Sl) : Option β × σ → Sr → Prop := fun o r => match o with
  | (none, s) => ∃ ρ', r = .next ρ' ∧ EnvR (G s) ρ'
  | (some y, s) => ∃ ρ', r = .ret ⟨.shr, e y⟩ ρ' ∧ EnvR (G s) ρ'
theorem e_someS {y : β} {s : σ} {G : σ → List Sl} (h : Wke Γ (G s)) : RS Γ (retK ⟨.shr, e y⟩) (.next (some y, s) : Oc Empty Unit Unit (Option β × σ)) surE (PES e G) := RS.mk fun ρ hρ => ⟨ρ, rfl, h.env hρ⟩
theorem e_yesS {ν : Type} {tt : Oc Empty Unit Unit ν} {Q : ν → Sr → Prop} (h : RS Γ (fun ρ => bndS (elt ρ) retK) tt surE Q) : RS Γ (eltS bYes elt) tt surE Q := h
theorem compS_go {v : α → Sv} {D : σ → List Sl} {TG : α → σ → List Sl} {te : α → σ → Oc Empty Unit Unit (Option β × σ)} (ht : ∀ x s ρ, EnvR (D s) ρ → ∃ ρ1, tgt (v x) ρ = some ρ1 ∧ EnvR (TG x s) ρ1) (hw : ∀ x s, wipeG (TG x s) own = D s) (he : ∀ x s, RS (TG x s) (eltS cond elt) (te x s) surE (PES e (TG x))) :
    ∀ (xs : List α) (acc : List β) (s0 : σ) (ρ : En), EnvR (D s0) ρ → match (compS te xs s0 acc : Oc l w r (List β × σ)) with
      | .next p => ∃ ρ', compL own tgt cond elt (xs.map v) ρ (acc.map e) = .ok (p.1.map e) ρ' ∧ EnvR (D p.2) ρ'
      | .bad => True
      | _ => False
  | [], acc, s0, ρ, h => ⟨ρ, rfl, h⟩
  | x :: xs, acc, s0, ρ, h => by
    obtain ⟨ρ1, e1, h1⟩ := ht x s0 ρ h
    have h2 := he x s0 ρ1 h1
    have el : compL own tgt cond elt ((x :: xs).map v) ρ (acc.map e) = bndN (cond ρ1) fun b ρ2 => match b with
      | true => bndN (elt ρ2) fun s ρ3 => grd (isShr s.m && decide ((acc.map e).length < sizeLine)) (compL own tgt cond elt (xs.map v) (wipeE ρ3 own) (acc.map e ++ [s.d]))
      | false => compL own tgt cond elt (xs.map v) (wipeE ρ2 own) (acc.map e) := by
      rw [List.map_cons]
      show (match tgt (v x) ρ with | some ρ1 => _ | none => _) = _
      first | (rw [e1]; done) | (rw [e1]; rfl)
    have ec : (compS te (x :: xs) s0 acc : Oc l w r (List β × σ)) = match te x s0 with
      | .next (none, s1) => compS te xs s1 acc
      | .next (some y, s1) => if acc.length < sizeLine then compS te xs s1 (acc ++ [y]) else .bad
      | _ => .bad := rfl
    rw [el, ec]
    cases hx : te x s0 with
    | next o =>
      rw [hx] at h2
      obtain ⟨o, s1⟩ := o
      cases o with
      | none =>
        obtain ⟨ρ', e3, h3⟩ := h2
        have : ∃ ρ2, cond ρ1 = .ok false ρ2 ∧ ρ2 = ρ' := by
          unfold eltS at e3
          cases q : cond ρ1 with
          | ok b ρ2 =>
            rw [q] at e3
            have e3 : bsel b (bndS (elt ρ2) retK) (.next ρ2) = .next ρ' := e3
            cases b with
            | true =>
              have e3 : bndS (elt ρ2) retK = .next ρ' := e3
              cases q2 : elt ρ2 <;> rw [q2] at e3 <;> cases e3
            | false =>
              have e3 : Sr.next ρ2 = .next ρ' := e3
              injection e3 with e3
              exact ⟨ρ2, rfl, e3⟩
          | exc _ _ _ => rw [q] at e3; cases e3
          | bad => rw [q] at e3; cases e3
        obtain ⟨ρ2, q1, rfl⟩ := this
        rw [q1]
        exact compS_go ht hw he xs acc s1 _ (by rw [← hw x s1]; exact wipeG.env h3 own)
      | some y =>
        obtain ⟨ρ', e3, h3⟩ := h2
        have : ∃ ρ2, cond ρ1 = .ok true ρ2 ∧ elt ρ2 = .ok ⟨.shr, e y⟩ ρ' := by
          unfold eltS at e3
          cases q : cond ρ1 with
          | ok b ρ2 =>
            rw [q] at e3
            have e3 : bsel b (bndS (elt ρ2) retK) (.next ρ2) = .ret ⟨.shr, e y⟩ ρ' := e3
            cases b with
            | true =>
              have e3 : bndS (elt ρ2) retK = .ret ⟨.shr, e y⟩ ρ' := e3
              cases q2 : elt ρ2 with
              | ok s ρ3 =>
                rw [q2] at e3
                have e3 : Sr.ret s ρ3 = .ret ⟨.shr, e y⟩ ρ' := e3
                injection e3 with e4 e5
                exact ⟨ρ2, rfl, by rw [q2, e4, e5]⟩
              | exc _ _ _ => rw [q2] at e3; cases e3
              | bad => rw [q2] at e3; cases e3
            | false => have e3 : Sr.next ρ2 = .ret ⟨.shr, e y⟩ ρ' := e3; cases e3
          | exc _ _ _ => rw [q] at e3; cases e3
          | bad => rw [q] at e3; cases e3
        obtain ⟨ρ2, q1, q2⟩ := this
        by_cases c : acc.length < sizeLine
        · rw [q1]
          show match (if acc.length < sizeLine then compS te xs s1 (acc ++ [y]) else .bad : Oc l w r (List β × σ)) with
            | .next p => ∃ ρ', bndN (elt ρ2) (fun s ρ3 => grd (isShr s.m && decide ((acc.map e).length < sizeLine)) (compL own tgt cond elt (xs.map v) (wipeE ρ3 own) (acc.map e ++ [s.d]))) = .ok (p.1.map e) ρ' ∧ EnvR (D p.2) ρ'
            | .bad => True
            | _ => False
          rw [if_pos c, q2]
          have := compS_go ht hw he xs (acc ++ [y]) s1 (wipeE ρ' own) (by rw [← hw x s1]; exact wipeG.env h3 own)
          rw [List.map_append] at this
          rw [List.length_map, decide_eq_true c]
          exact this
        · show match (if acc.length < sizeLine then compS te xs s1 (acc ++ [y]) else .bad : Oc l w r (List β × σ)) with
            | .next p => _
            | .bad => True
            | _ => False
          rw [if_neg c]; exact trivial
    | brk s => exact s.elim
    | cont s => exact s.elim
    | ret x o => rw [hx] at h2; obtain ⟨_, _, _, z⟩ := h2; exact z.elim
    | exc c fs o => exact trivial
    | bad => exact trivial
theorem c_compS {bb q : Bool} {v : α → Sv} {xs : List α} {s0 : σ} {D : σ → List Sl} {TG : α → σ → List Sl} {te : α → σ → Oc Empty Unit Unit (Option β × σ)} {u : List β × σ → Oc l w r ν} (hq : (bb || q) = true) (e : β → Vl) (hd : wipeG Γ own = D s0) (ht : ∀ x s ρ, EnvR (D s) ρ → ∃ ρ1, tgt (v x) ρ = some ρ1 ∧ EnvR (TG x s) ρ1) (hw : ∀ x s, wipeG (TG x s) own = D s) (he : ∀ x s, RS (TG x s) (eltS cond elt) (te x s) surE (PES e (TG x)))
    (h : ∀ p : List β × σ, RS (D p.2) (k ⟨.own, eL e p.1⟩) (u p) C P) : RS Γ (lcF own tgt cond elt q k (bb, xs.map v)) ((compS te xs s0 []).bind u) C P := by
  refine RS.congr (g := lcK own tgt cond elt (xs.map v) k) (fun ρ _ => by show grdS (bb || q) _ = _; rw [hq]; rfl) ?_
  refine RS.mk fun ρ hρ => ?_
  have hD : EnvR (D s0) (wipeE ρ own) := by rw [← hd]; exact wipeG.env hρ own
  have g := compS_go (l := l) (w := w) (r := r) ht hw he xs [] s0 _ hD
  cases q : (compS te xs s0 [] : Oc l w r (List β × σ)) with
  | next p =>
    rw [q] at g
    obtain ⟨ρ', e1, h1⟩ := g
    have e1 : compL own tgt cond elt (xs.map v) (wipeE ρ own) [] = .ok (p.1.map e) ρ' := e1
    have := h p ρ' h1
    rw [show k ⟨.own, eL e p.1⟩ ρ' = lcK own tgt cond elt (xs.map v) k ρ by unfold lcK; rw [e1]; rfl] at this
    exact this
  | brk _ => rw [q] at g; exact g.elim
  | cont _ => rw [q] at g; exact g.elim
  | ret _ _ => rw [q] at g; exact g.elim
  | exc _ _ _ => rw [q] at g; exact g.elim
  | bad => exact trivial
end
end MV
namespace MV
open PySem PySem.Spec PyProof.Rows L2 He
def t_l_whole (value1 : Int) : TF Unit Bool := Oc.run (ν := Empty) (fun e : Empty => nomatch e) (
  .ret (decide ((true = true) ∧ (¬ (false = true)))) ())
def t_l_is_list (actual1 : (List Int)) (due1 : (List Int)) : TF Unit Bool := Oc.run (ν := Empty) (fun e : Empty => nomatch e) (
  if ((¬ (true = true)) ∨ ((actual1.length : Int) ≠ (due1.length : Int))) then .ret false () else
  (rngO 0 (due1.length : Int)).bind fun r1 =>
  (forO (fun (place1 : Int) (s1 : Unit) =>
  (liftO ((ixO actual1 place1).bind fun v1 =>
  (callO () (t_l_whole v1)).bind fun v2 =>
  if (¬ (v2 = true)) then .next true else (ixO actual1 place1).bind fun v3 =>
  (ixO due1 place1).bind fun v4 =>
  .next (decide (v3 ≠ v4)))).bind fun t1 =>
  if (t1 = true) then .ret false () else
  .next ()) r1 ()).bind fun s2 =>
  .ret true ())
def t_check_stretch (begin1 : Int) (end1 : Int) : TF Unit Unit := Oc.run (ν := Unit) (fun a => .ret () a) (
  if (end1 < begin1) then .exc "BadStretch" [("end", eI end1), ("begin", eI begin1)] () else
  .next ())
def t_landing (heights1 : (List Int)) (place1 : Int) : TF Unit Int := Oc.run (ν := Empty) (fun e : Empty => nomatch e) (
  (modO place1 (heights1.length : Int)).bind fun v1 =>
  (ixO heights1 v1).bind fun v2 =>
  .ret (place1 + v2) ())
def t_count_between (heights1 : (List Int)) (begin1 : Int) (end1 : Int) : TF Unit Int := Oc.run (ν := Empty) (fun e : Empty => nomatch e) (
  (callO () (t_check_stretch begin1 end1)).bind fun v1 =>
  (lmO heights1 (fun height1 => height1)).bind fun l1 =>
  (maxO l1).bind fun v2 =>
  (rngO (max begin1 (end1 - v2)) end1).bind fun r1 =>
  (forO (fun (place1 : Int) (s1 : Int) =>
  (callO () (t_landing heights1 place1)).bind fun v3 =>
  if (end1 ≤ v3) then
  letO (s1 + (1 : Int)) fun found1 =>
  .next found1 else
  .next s1) r1 (0 : Int)).bind fun s2 =>
  .ret s2 ())
abbrev C_Cast : Type := (List Int)
def e_Cast (x : C_Cast) : Vl := .ins "Cast" [("_heights", (eT eI) x)]
def t_Cast_heights (self1 : C_Cast) : TF Unit (List Int) := Oc.run (ν := Empty) (fun e : Empty => nomatch e) (
  .ret self1 ())
def t_Cast_count (self1 : C_Cast) (begin1 : Int) (end1 : Int) : TF Unit Int := Oc.run (ν := Empty) (fun e : Empty => nomatch e) (
  (propO (t_Cast_heights self1)).bind fun v1 =>
  (callO () (t_count_between v1 begin1 end1)).bind fun v2 =>
  .ret v2 ())
def t_Cast_places (self1 : C_Cast) : TF Unit Int := Oc.run (ν := Empty) (fun e : Empty => nomatch e) (
  .ret (self1.length : Int) ())
def t_came_list (heights1 : (List Int)) : TF Unit (List Int) := Oc.run (ν := Empty) (fun e : Empty => nomatch e) (
  (lmO heights1 (fun u1 => (0 : Int))).bind fun l1 =>
  (rngO 0 (heights1.length : Int)).bind fun r1 =>
  (forO (fun (place1 : Int) (s1 : (List Int)) =>
  (ixO heights1 place1).bind fun v1 =>
  (modO (place1 + v1) (heights1.length : Int)).bind fun v2 =>
  (ixO heights1 place1).bind fun v3 =>
  (setO s1 v2 (v2 - v3)).bind fun came1 =>
  .next came1) r1 l1).bind fun s2 =>
  .ret s2 ())
def t_at_place (values1 : (List Int)) (place1 : Int) : TF Unit Int := Oc.run (ν := Empty) (fun e : Empty => nomatch e) (
  (modO place1 (values1.length : Int)).bind fun v1 =>
  (ixO values1 v1).bind fun v2 =>
  .ret ((v2 + place1) - v1) ())
def t_Cast___init__ (heights1 : (List Int)) : TF Unit C_Cast := Oc.run (ν := C_Cast) (fun a => .ret a ()) (
  if (¬ (((1 : Int) ≤ (heights1.length : Int)) ∧ ((heights1.length : Int) ≤ (6 : Int)))) then .exc "BadSize" [("size", eI (heights1.length : Int))] () else
  (rngO 0 (heights1.length : Int)).bind fun r1 =>
  (forO (fun (place1 : Int) (s1 : Unit) =>
  (liftO ((ixO heights1 place1).bind fun v1 =>
  if ((0 : Int) ≤ v1) then .next (decide (v1 ≤ (96 : Int))) else .next false)).bind fun j1 =>
  if (¬ (j1 = true)) then .exc "BadHeight" [("place", eI place1)] () else
  .next ()) r1 ()).bind fun s2 =>
  (rngO 0 (heights1.length : Int)).bind fun r2 =>
  (forO (fun (second1 : Int) (s3 : Unit) =>
  (rngO 0 second1).bind fun r3 =>
  (forO (fun (first1 : Int) (s4 : Unit) =>
  (ixO heights1 second1).bind fun v2 =>
  (ixO heights1 first1).bind fun v3 =>
  (modO (((second1 + v2) - first1) - v3) (heights1.length : Int)).bind fun v4 =>
  if (v4 = (0 : Int)) then .exc "Collision" [("second", eI second1), ("first", eI first1)] () else
  .next ()) r3 ()).bind fun s5 =>
  .next ()) r2 ()).bind fun s6 =>
  (divO heights1.sum (heights1.length : Int)).bind fun v5 =>
  if ((16 : Int) < v5) then .exc "TooManyBalls" [("amount", eI v5)] () else
  .next heights1)
def t_Cast_balls (self1 : C_Cast) : TF Unit Int := Oc.run (ν := Empty) (fun e : Empty => nomatch e) (
  (divO self1.sum (self1.length : Int)).bind fun v1 =>
  .ret v1 ())
def t_l_row (word1 : (List Char)) (fields1 : (List Int)) (other1 : Bool) : TF Unit (List Vl) := Oc.run (ν := Empty) (fun e : Empty => nomatch e) (
  (liftO (if (other1 = true) then .next true else (compO (fun field1 => (callO () (t_l_whole field1)).bind fun v1 =>
  if (¬ (v1 = true)) then .next (some field1) else .next none) fields1 []).bind fun l1 =>
  .next (decide (l1 ≠ ([] : List Int))))).bind fun t1 =>
  if (t1 = true) then .ret [(eS ['o', 'd', 'd'])] () else
  (catO ([word1].map eS) (fields1.map eI)).bind fun v2 =>
  .ret v2 ())
def t_airborne (heights1 : (List Int)) (gap1 : Int) : TF Unit (List Int) := Oc.run (ν := Empty) (fun e : Empty => nomatch e) (
  (callO () (t_came_list heights1)).bind fun v1 =>
  (lmO heights1 (fun height1 => height1)).bind fun l1 =>
  (maxO l1).bind fun v2 =>
  (rngO gap1 (gap1 + v2)).bind fun r1 =>
  (compO (fun place1 => (callO () (t_at_place v1 place1)).bind fun v3 =>
  if (v3 < gap1) then .next (some place1) else .next none) r1 []).bind fun l2 =>
  .ret l2 ())
def t_check_one_more (heights1 : (List Int)) : TF Unit Unit := Oc.run (ν := Unit) (fun a => .ret () a) (
  if (((16 : Int) * (heights1.length : Int)) ≤ heights1.sum) then .exc "TooManyBalls" [("amount", eI ((16 : Int) + (1 : Int)))] () else
  .next ())
def t_Cast_used (self1 : C_Cast) : TF Unit (List Int) := Oc.run (ν := Empty) (fun e : Empty => nomatch e) (
  (rngO 0 (self1.length : Int)).bind fun r1 =>
  (compO (fun place1 => (ixO self1 place1).bind fun v1 =>
  if (v1 ≠ (0 : Int)) then .next (some place1) else .next none) r1 []).bind fun l1 =>
  .ret l1 ())
end MV
namespace MV
open PySem PySem.Spec PyProof.Rows L2 He
section
variable {l w r α β : Type}
theorem compO_f {te : α → Oc Empty Unit Unit (Option β)} {g : α → Option β} : ∀ (xs : List α) (acc : List β), (∀ x ∈ xs, te x = .next (g x)) → acc.length + xs.length ≤ 16777216 → (compO te xs acc : Oc l w r (List β)) = .next (acc ++ xs.filterMap g)
  | [], acc, _, _ => by show Oc.next acc = _; simp
  | x :: xs, acc, h, hl => by
    have hl : acc.length + (xs.length + 1) ≤ 16777216 := hl
    have e : (compO te (x :: xs) acc : Oc l w r (List β)) = match te x with
      | .next none => compO te xs acc
      | .next (some y) => if acc.length < sizeLine then compO te xs (acc ++ [y]) else .bad
      | _ => .bad := rfl
    rw [e, h x List.mem_cons_self]
    cases hg : g x with
    | none =>
      show compO te xs acc = _
      rw [compO_f xs acc (fun y hy => h y (List.mem_cons_of_mem _ hy)) (by omega), List.filterMap_cons_none hg]
    | some y =>
      show (if acc.length < sizeLine then compO te xs (acc ++ [y]) else .bad) = _
      rw [size_eq, if_pos (by omega), compO_f xs _ (fun y hy => h y (List.mem_cons_of_mem _ hy)) (by rw [List.length_append, List.length_singleton]; omega), List.filterMap_cons_some hg, List.append_assoc]; rfl
theorem compO_filt {te : α → Oc Empty Unit Unit (Option α)} {p : α → Bool} {xs : List α} (h : ∀ x ∈ xs, te x = .next (if p x then some x else none)) (hl : xs.length ≤ 16777216) : (compO te xs [] : Oc l w r (List α)) = .next (xs.filter p) := by
  rw [compO_f xs [] (g := fun x => if p x then some x else none) h (by simpa using hl), List.nil_append]
  congr 1
  induction xs with
  | nil => rfl
  | cons x xs ih =>
    have ih := ih (fun y hy => h y (List.mem_cons_of_mem _ hy)) (by rw [List.length_cons] at hl; omega)
    cases hp : p x with
    | true => rw [List.filterMap_cons_some (b := x) (by rw [hp]; rfl), List.filter_cons_of_pos hp, ih]
    | false => rw [List.filterMap_cons_none (by rw [hp]; rfl), List.filter_cons_of_neg (by rw [hp]; decide), ih]
end
theorem stretch_ok {a t : Int} (h : a ≤ t) : t_check_stretch a t = .ret () () := by
  unfold t_check_stretch
  rw [if_neg (by omega)]; rfl
theorem landing_ok {hs : List Int} (h : 1 ≤ hs.length) (p : Int) : t_landing hs p = .ret (land hs p) () := by
  unfold t_landing
  have m := modlt h p
  rw [modO_ok (by omega), Oc.bind_next, ixO_d 0 (by omega) (by omega)]; rfl
theorem at_place_ok {cl : List Int} (h : 1 ≤ cl.length) (p : Int) : t_at_place cl p = .ret (cm cl p) () := by
  unfold t_at_place
  have m := modlt h p
  rw [modO_ok (by omega), Oc.bind_next, ixO_d 0 (by omega) (by omega)]; rfl
section
variable {n : Nat} {c : Int → Int} {hs cl : List Int}
def cmL (hs : List Int) (k : Nat) : List Int := (List.range k).foldl (fun s (i : Nat) => s.set (((i : Int) + hs.getD i 0) % (hs.length : Int)).toNat (((i : Int) + hs.getD i 0) % (hs.length : Int) - hs.getD i 0)) (List.replicate hs.length 0)
theorem cmL_succ {k : Nat} : cmL hs (k + 1) = (cmL hs k).set (((k : Int) + hs.getD k 0) % (hs.length : Int)).toNat (((k : Int) + hs.getD k 0) % (hs.length : Int) - hs.getD k 0) := by
  unfold cmL
  rw [List.range_succ, List.foldl_append]; rfl
theorem cmL_len : ∀ k : Nat, (cmL hs k).length = hs.length
  | 0 => List.length_replicate
  | k + 1 => by rw [cmL_succ, List.length_set, cmL_len k]
theorem came_list_ok (h1 : 1 ≤ hs.length) (h6 : hs.length ≤ 1000) : t_came_list hs = .ret (cmL hs hs.length) () := by
  unfold t_came_list
  rw [lmO_ok (by omega), Oc.bind_next, rngO_n (by omega), Oc.bind_next, forO_iv0 (cmL hs) (by rw [List.map_const']; rfl) fun j hj => ?_]
  · rfl
  · left
    have m := modlt h1 ((j : Int) + hs.getD j 0)
    try dsimp only
    rw [ixO_n 0 hj, Oc.bind_next, modO_ok (by omega), Oc.bind_next, Oc.bind_next, setO_d (by omega) (by rw [cmL_len]; omega), cmL_succ]; rfl
theorem cmL_get (nd : (tgs hs).Nodup) (h1 : 1 ≤ hs.length) : ∀ k : Nat, k ≤ hs.length → ∀ i : Nat, i < k → (cmL hs k).getD (((i : Int) + hs.getD i 0) % (hs.length : Int)).toNat 0 = ((i : Int) + hs.getD i 0) % (hs.length : Int) - hs.getD i 0
  | 0, _, i, h => by omega
  | k + 1, hk, i, h => by
    have m := modlt h1 ((k : Int) + hs.getD k 0)
    rw [cmL_succ, getD_set (by rw [cmL_len]; omega)]
    by_cases e : i = k
    · subst e; rw [if_pos rfl]
    · rw [if_neg, cmL_get nd h1 k (by omega) i (by omega)]
      intro z
      have mi := modlt h1 ((i : Int) + hs.getD i 0)
      have z2 : ((k : Int) + hs.getD k 0) % (hs.length : Int) = ((i : Int) + hs.getD i 0) % (hs.length : Int) := by omega
      have hlen : (tgs hs).length = hs.length := by unfold tgs; simp
      have := List.pairwise_iff_getElem.mp nd i k (by omega) (by omega) (by omega)
      refine this ?_
      unfold tgs
      rw [List.getElem_map, List.getElem_map, List.getElem_range, List.getElem_range]; exact z2.symm
theorem cmL_cm (g : Gd hs) : Cm hs (cmL hs hs.length) := ⟨cmL_len _, fun i hi => cmL_get (g.pm.nodup_iff.mpr nodup_iv) g.l1 hs.length (Nat.le_refl _) i hi⟩
variable {S : List Int}
theorem ivmap_d {g : Int → Int} {j : Nat} (hj : j < n) : ((iv 0 n).map g).getD j 0 = g j := by
  rw [List.getD_eq_getElem?_getD, List.getElem?_map, iv_get hj]
  show g (0 + (j : Int)) = _
  rw [Int.zero_add]
end
end MV
namespace MV
open PySem PySem.Spec PyProof.Rows L2 He
section
variable {n : Nat} {c : Int → Int} {hs cl : List Int}
theorem CL.eq (h : CL n c cl) : cl = (iv 0 n).map c := by
  apply List.ext_getElem
  · rw [h.len, List.length_map, iv_len]
  · intro i h1 h2
    have a := h.at_ i (by rw [h.len] at h1; exact h1)
    rw [List.getD_eq_getElem?_getD, List.getElem?_eq_getElem h1] at a
    have a : cl[i] = c i := a
    rw [a, List.getElem_map, iv_at, Int.zero_add]
theorem Cs.cml {b : Nat} (C : Cs n c b hs) : CL n c (cmL hs hs.length) := by
  have cm1 := cmL_cm C.gd
  refine ⟨by rw [cm1.len, C.hc.len], fun i hi => ?_⟩
  have e := congrFun (C.hc.cm C.cf C.n1 C.gd cm1) (i : Int)
  rw [← e]
  unfold cm
  rw [hAt_nat (by rw [cm1.len, C.hc.len]; exact hi), cm1.len, C.hc.len, Int.emod_eq_of_lt (by omega) (by omega)]; omega
theorem Cs.came {b : Nat} (C : Cs n c b hs) : t_came_list hs = .ret ((iv 0 n).map c) () := by
  have n1 := C.n1
  have n6 := C.n6
  rw [came_list_ok (by rw [C.hc.len]; exact n1) (by rw [C.hc.len]; omega), C.cml.eq]
end
theorem init_ok {hs : List Int} (g : Gd hs) (b : hs.sum / (hs.length : Int) ≤ 16) : t_Cast___init__ hs = .ret hs () := by
  have l1 := g.l1
  have l2 := g.l2
  unfold t_Cast___init__
  rw [if_neg (by omega), rngO_n (by omega), Oc.bind_next, forO_iv0 (fun _ => ()) rfl ?h1, Oc.bind_next, Oc.bind_next, forO_iv0 (fun _ => ()) rfl ?h2, Oc.bind_next, divO_ok (by omega) (by omega), Oc.bind_next, if_neg (by omega)]; rfl
  case h1 =>
    intro j hj
    left
    have h0 := g.lo _ (getD_mem hj)
    have h9 := g.hi _ (getD_mem hj)
    try dsimp only
    rw [ixO_n 0 hj, Oc.bind_next, if_pos h0, liftO_next, Oc.bind_next, decide_eq_true h9, if_neg (by decide)]
  case h2 =>
    intro j hj
    left
    try dsimp only
    rw [rngO_n (by omega), Oc.bind_next, forO_iv0 (fun _ => ()) rfl ?h3]; rfl
    intro i hi
    left
    have nc := g.nocol hi hj
    try dsimp only
    rw [ixO_n 0 hj, Oc.bind_next, ixO_n 0 (by omega), Oc.bind_next, modO_ok (by omega), Oc.bind_next, if_neg nc]
theorem castH_ok {hs : List Int} : t_Cast_heights hs = .ret hs () := rfl
theorem castP_ok {hs : List Int} : t_Cast_places hs = .ret (hs.length : Int) () := rfl
theorem castB_ok {hs : List Int} (h1 : 1 ≤ hs.length) (h6 : hs.length ≤ 1000) : t_Cast_balls hs = .ret (hs.sum / (hs.length : Int)) () := by
  unfold t_Cast_balls
  rw [divO_ok (by omega) (by omega)]; rfl
section
variable {n b b1 b2 : Nat} {c c1 c2 : Int → Int} {hs h1 h2 : List Int}
theorem Cs.init (C : Cs n c b hs) : t_Cast___init__ hs = .ret hs () := init_ok C.gd (by rw [C.balls]; have := C.b16; omega)
theorem count_ok (g : Gd hs) {a t : Int} (at_ : a ≤ t) (a1 : -1000000000 ≤ a) (t2 : t ≤ 1000000000) : t_count_between hs a t = .ret ((cnt hs a t).length : Int) () := by
  have l1 := g.l1
  have l2 := g.l2
  have ne : hs ≠ [] := fun z => by rw [z] at l1; exact absurd l1 (by decide)
  have mx := maxL_mem ne
  have m0 := g.lo _ mx.1
  have m9 := g.hi _ mx.1
  unfold t_count_between
  rw [stretch_ok at_, callO_ret, Oc.bind_next, lmO_ok (by omega), Oc.bind_next, List.map_id', maxO_ok ne, Oc.bind_next, rngO_ok (by omega), Oc.bind_next, forO_iv (fun k => ((((iv (max a (t - maxL hs)) k).filter fun p => decide (t ≤ land hs p)).length : Nat) : Int)) (by rfl) fun j hj => ?_, Oc.bind_next, cnt_clip g mx.2 (by omega) at_ m0]; rfl
  left
  try dsimp only
  rw [landing_ok l1, callO_ret, Oc.bind_next, iv_succ, List.filter_append, List.length_append]
  by_cases q : t ≤ land hs (max a (t - maxL hs) + (j : Int))
  · rw [if_pos q, letO_eq, List.filter_cons_of_pos (by exact decide_eq_true q)]; rfl
  · rw [if_neg q, List.filter_cons_of_neg (by rw [decide_eq_false q]; decide)]; rfl
theorem Cs.count (C : Cs n c b hs) {a t : Int} (at_ : a ≤ t) (a1 : -1000000000 ≤ a) (t2 : t ≤ 1000000000) : t_Cast_count hs a t = .ret (dc c a (t - a).toNat) () := by
  have e := C.hc.cnt C.cf C.n1 C.gd a (t - a).toNat
  rw [show a + ((t - a).toNat : Int) = t by omega] at e
  unfold t_Cast_count
  rw [castH_ok, propO_ret, Oc.bind_next, count_ok C.gd at_ a1 t2, callO_ret, Oc.bind_next, e]; rfl
end
end MV
namespace MV
open PySem PySem.Spec PyProof.Rows L2 He
abbrev okP (n : Nat) (P : List (List Int)) : Prop := ∀ S ∈ P, okS n S
theorem dO (d : Drw) {lim : Int} (h1 : 0 < lim) (h2 : lim < 1073741824) : ∃ x : Int × Drw, t_l_draw d lim = .ret x.1 x.2 ∧ 0 ≤ x.1 ∧ x.1 < lim := by
  obtain ⟨r, d', e, q⟩ := draw_ok d h1 h2
  exact ⟨(r, d'), e, q⟩
theorem whole_ok {x : Int} : t_l_whole x = .ret true () := rfl
theorem is_list_ok {xs : List Int} (h : xs.length ≤ 10000) : t_l_is_list xs xs = .ret true () := by
  unfold t_l_is_list
  rw [if_neg (by simp), rngO_n (by omega), Oc.bind_next, forO_iv0 (fun _ => ()) rfl fun j hj => ?_, Oc.bind_next]; rfl
  left
  try dsimp only
  rw [ixO_n 0 hj, Oc.bind_next, whole_ok, callO_ret, Oc.bind_next, if_neg (by simp), Oc.bind_next, Oc.bind_next, liftO_next, Oc.bind_next, if_neg (by simp)]
end MV
namespace MV
def ent0 (n : Nat) (S : List Int) (k : Nat) : List Int := (List.range k).foldl (fun hs i => hs.set (S.getD i 0).toNat (S.getD (i + 1) 0 - S.getD i 0)) (List.replicate n 0)
def ent (n : Nat) (S : List Int) : List Int := (ent0 n S (S.length - 1)).set (S.getD (S.length - 1) 0).toNat (S.getD 0 0 + (n : Int) - S.getD (S.length - 1) 0)
def hgt (n : Nat) (S : List Int) (p : Int) : Nat → Int → Int
  | 0, h => h
  | f + 1, h => if h < (n : Int) ∧ ¬ (p + h) % (n : Int) ∈ S then hgt n S p f (h + 1) else h
def oc (n : Nat) (S T : List Int) : List Int := T.foldl (fun hs p => hs.set p.toNat (hgt n S p 7 1)) (List.replicate n 0)
def subs (n : Nat) : List (List Int) := (List.range (2 ^ n - 1)).map fun c => bits n (c + 1)
def hold (n : Nat) (S : List Int) (a t : Int) : Int := if (iv a (t - a).toNat).any (fun p => decide (p % (n : Int) ∈ S)) then 1 else 0
structure Ent (n : Nat) (S : List Int) : Prop where
  oc : oc n S S = ent n S
  len : (ent n S).length = n
  gd : Gd (ent n S)
  sum : (ent n S).sum = (n : Int)
  used : ((iv 0 n).filter fun p => !decide ((ent n S).getD p.toNat 0 = 0)) = S
  cyc : ∀ a l : Nat, a < n → l < n + 2 → ((cnt (ent n S) (a : Int) ((a : Int) + (l : Int))).length : Int) = hold n S (a : Int) ((a : Int) + (l : Int))
def bad (n : Int) (xs : List Int) (i : Nat) : Prop := ¬ (0 ≤ xs.getD i 0 ∧ xs.getD i 0 < n) ∨ (0 < i ∧ xs.getD i 0 ≤ xs.getD (i - 1) 0)
theorem least {P : Nat → Prop} : ∀ m : Nat, (∃ i, i < m ∧ P i ∧ ∀ j, j < i → ¬ P j) ∨ ∀ i, i < m → ¬ P i
  | 0 => .inr fun i h => by omega
  | m + 1 => by
    rcases least (P := P) m with ⟨i, h1, h2⟩ | h
    · exact .inl ⟨i, by omega, h2⟩
    · by_cases c : P m
      · exact .inl ⟨m, by omega, c, fun j hj => h j hj⟩
      · refine .inr fun i hi => ?_
        rcases Nat.lt_or_ge i m with q | q
        · exact h i q
        · rw [show i = m by omega]; exact c
end MV
namespace MV
open PySem PySem.Spec PyProof.Rows L2 He
def t_Cast___eq__ (self1 : C_Cast) (other1 : C_Cast) : TF Unit Bool := Oc.run (ν := Empty) (fun e : Empty => nomatch e) (
  .ret (decide ((true = true) ∧ (self1 = other1))) ())
end MV
namespace MV
open PySem PySem.Spec PyProof.Rows L2 He
section
variable {n b1 b2 : Nat} {c c1 c2 : Int → Int} {hs h1 h2 : List Int}
def cl (A : List Int) (x : Int) : Nat := (A.filter fun a => decide (a < x)).length
def air (c : Int → Int) (g : Int) (H : Nat) : List Int := (iv g H).filter fun q => decide (c q < g)
theorem Cs.airborne (C : Cs n c b1 hs) (g : Int) (g1 : -1000000000 ≤ g) (g2 : g ≤ 1000000000) : ∃ H : Nat, t_airborne hs g = .ret (air c g H) () ∧ H ≤ 96 ∧ ∀ q, q - c q ≤ (H : Int) := by
  have G := C.gd
  have n1 := C.n1
  have l1 := G.l1
  have l2 := G.l2
  have ne : hs ≠ [] := fun z => by rw [z] at l1; exact absurd l1 (by decide)
  have mx := maxL_mem ne
  have m0 := G.lo _ mx.1
  have m9 := G.hi _ mx.1
  obtain ⟨H, hH⟩ : ∃ H : Nat, maxL hs = (H : Int) := ⟨(maxL hs).toNat, by omega⟩
  refine ⟨H, ?_, by omega, fun q => ?_⟩
  · unfold t_airborne
    rw [C.came, callO_ret, Oc.bind_next, lmO_ok (by omega), Oc.bind_next, List.map_id', maxO_ok ne, Oc.bind_next, rngO_ok (by omega), Oc.bind_next, show ((g + maxL hs) - g).toNat = H by omega, compO_filt (p := fun q => decide (c q < g)) ?hfil (by rw [iv_len]; omega), Oc.bind_next]; rfl
    case hfil =>
      intro x hx
      rw [at_place_ok (by rw [List.length_map, iv_len]; exact n1), callO_ret, Oc.bind_next, CL.cm ⟨by rw [List.length_map, iv_len], fun i hi => ivmap_d hi⟩ C.cf n1]
      by_cases z : c x < g
      · rw [if_pos z, if_pos (by exact decide_eq_true z)]
      · rw [if_neg z, if_neg (by simpa using z)]
  · have e := C.hc.back C.cf C.n1 q
    have := mx.2 _ (hAt_mem l1 (c q))
    unfold MV.land at e
    omega
structure SE (c1 c2 : Int → Int) (g : Int) (o : Option Int) : Prop where
  no : o = none → ∀ k, dc c1 g k ≤ dc c2 g k
  yes : ∀ e, o = some e → g < e ∧ dc c2 g (e - g).toNat < dc c1 g (e - g).toNat ∧ ∀ k : Nat, g + (k : Int) < e → dc c1 g k ≤ dc c2 g k
theorem len2 (C1 : Cs n c1 b1 h1) (C2 : Cs n c2 b2 h2) : h1.length = h2.length := by rw [C1.hc.len, C2.hc.len]
end
abbrev inP (n : Nat) (P : List (List Int)) : Prop := ∀ S ∈ P, S ∈ subs n
theorem subs_okS {n : Nat} {S : List Int} (n1 : 1 ≤ n) (n6 : n ≤ 6) (h : S ∈ subs n) : okS n S := by
  obtain ⟨c, hc, rfl⟩ := List.mem_map.mp h
  exact bits_ok n1 n6 (List.mem_range.mp hc)
theorem inP.ok {n : Nat} {P : List (List Int)} (n1 : 1 ≤ n) (n6 : n ≤ 6) (h : inP n P) : okP n P := fun S hS => subs_okS n1 n6 (h S hS)
end MV
namespace MV
open PySem PySem.Spec PyProof.Rows L2 He
section
variable {l' w r α β : Type}
def Po (t : TF w r) (Q : r → w → Prop) : Prop := ∃ x o, t = .ret x o ∧ Q x o
theorem po_iv {body : Int → l' → Oc l' w r l'} {a : Int} {n : Nat} {s : l'} {k : l' → Oc Empty w r Empty} {g : Empty → TF w r} {Q : r → w → Prop} (I : Nat → l' → Prop) (h0 : I 0 s)
    (hs : ∀ j, j < n → ∀ s, I j s → ∃ s', (body (a + (j : Int)) s = .next s' ∨ body (a + (j : Int)) s = .cont s') ∧ I (j + 1) s') (hk : ∀ s', I n s' → Po (Oc.run g (k s')) Q) : Po (Oc.run g ((forO body (iv a n) s).bind k)) Q := by
  obtain ⟨s', e, i⟩ := forO_inv_iv (l := Empty) (w := w) (r := r) I h0 hs
  rw [e, Oc.bind_next]
  exact hk s' i
theorem popAtO_ok {l : Type} {xs : List α} {k : Int} {a : α} (h0 : 0 ≤ k) (h1 : k < 1000000) (h : xs[k.toNat]? = some a) : (popAtO xs k : Oc l w r (α × List α)) = .next (a, xs.eraseIdx k.toNat) := by
  have hl : k.toNat < xs.length := by
    obtain ⟨z, _⟩ := List.getElem?_eq_some_iff.mp h; exact z
  have e : seqIndex? k xs.length = some k.toNat := by
    show (if (decide (0 ≤ (if k < 0 then k + (xs.length : Int) else k)) && decide ((if k < 0 then k + (xs.length : Int) else k) < (xs.length : Int))) = true then some (if k < 0 then k + (xs.length : Int) else k).toNat else none) = _
    rw [if_neg (show ¬ k < 0 by omega), if_pos (by rw [decide_eq_true h0, decide_eq_true (show k < (xs.length : Int) by omega)]; rfl)]
  unfold popAtO
  rw [if_pos (by constructor <;> omega), e]
  show (match (xs[k.toNat]?.map fun d => (d, xs.eraseIdx k.toNat)) with | some p => Oc.next p | none => .bad) = _
  rw [h]; rfl
end
end MV
namespace MV
open PySem PySem.Spec PyProof.Rows L2 He
section
variable {n b : Nat} {c : Int → Int} {hs S : List Int}
def lst (c : Int → Int) (g : Int) : Nat → Int
  | 0 => g
  | j + 1 => min (lst c g j) (c (g - 1 - (j : Int)))
end
end MV
namespace MV
open PySem PySem.Spec PyProof.Rows L2 He
section
variable {n b : Nat} {c : Int → Int} {hs S : List Int}
theorem Cs.more (C : Cs n c b hs) (l : b < 16) : t_check_one_more hs = .ret () () := by
  unfold t_check_one_more
  rw [C.hc.len, C.sum, if_neg]; rfl
  intro z
  have := C.n1
  have : (n : Int) * (b : Int) < 16 * (n : Int) := by rw [Int.mul_comm 16]; exact Int.mul_lt_mul_of_pos_left (by omega) (by omega)
  omega
end
end MV
namespace MV
open PySem PySem.Spec PyProof.Rows L2 He
def Tl (d : Vl) : Prop := (∃ i, d = eI i) ∨ ∃ cs, d = eS cs
theorem Tl.int {i : Int} : Tl (eI i) := .inl ⟨i, rfl⟩
theorem Tl.str {cs : List Char} : Tl (eS cs) := .inr ⟨cs, rfl⟩
theorem tl_all {xs : List Vl} (h : ∀ x ∈ xs, Tl x) : PyData.canLayAll0 (toDs xs) = true ∧ PyData.depthAll (toDs xs) = 0 ∧ PyData.eqvAll (toDs xs) (toDs xs) = true := by
  induction xs with
  | nil => exact ⟨rfl, by simp [toDs, PyData.depthAll], by simp [toDs, PyData.eqvAll]⟩
  | cons x xs ih =>
    obtain ⟨h1, h2, h3⟩ := ih fun y hy => h y (List.mem_cons_of_mem _ hy)
    have hx : (toD x).canLay0 = true ∧ (toD x).depth = 0 ∧ PyData.eqv (toD x) (toD x) = true := by
      rcases h x List.mem_cons_self with ⟨i, rfl⟩ | ⟨cs, rfl⟩
      · exact ⟨eqt_I.lay i, Nat.le_zero.mp (eqt_I.dep i), by rw [eqt_I.eqv]; simp⟩
      · exact ⟨eqt_S.lay cs, Nat.le_zero.mp (eqt_S.dep cs), by rw [eqt_S.eqv]; simp⟩
    refine ⟨?_, ?_, ?_⟩
    · show (PyData.canLay0 (toD x) && PyData.canLayAll0 (toDs xs)) = true
      rw [hx.1, h1]; rfl
    · show PyData.depthAll (toD x :: toDs xs) = 0
      simp only [PyData.depthAll, hx.2.1, h2]; rfl
    · show PyData.eqvAll (toD x :: toDs xs) (toD x :: toDs xs) = true
      simp only [PyData.eqvAll, hx.2.2, h3]; rfl
theorem eqO_tl {l w r : Type} {xs : List Vl} (h : ∀ x ∈ xs, Tl x) : (eqO (eL eV xs) (eL eV xs) : Oc l w r Bool) = .next true := by
  obtain ⟨h1, h2, h3⟩ := tl_all h
  have e : toD (eL eV xs) = .list (toDs xs) := by
    show PyData.list (toDs (xs.map id)) = _
    rw [List.map_id]
  have hs : SeqAt.shaped (toD (eL eV xs)) = true := by
    rw [e]
    show (PyData.canLayAll0 (toDs xs) && decide (PyData.depth (.list (toDs xs)) ≤ 64)) = true
    rw [h1, decide_eq_true (by simp only [PyData.depth]; omega)]; rfl
  unfold eqO cEq veq
  rw [hs, e]
  show (if (true && true) = true then Oc.next (PyData.eqvAll (toDs xs) (toDs xs)) else .bad) = _
  rw [h3]; rfl
theorem row_ok {cs : List Char} {fs : List Int} (h : fs.length ≤ 1000) : t_l_row cs fs false = .ret (eS cs :: fs.map eI) () := by
  unfold t_l_row
  rw [if_neg (by decide), compO_f fs [] (g := fun _ => none) (fun x _ => by rw [whole_ok, callO_ret, Oc.bind_next, if_neg (by simp)]) (by simp; omega), Oc.bind_next]
  have e : ([] ++ fs.filterMap (fun _ => (none : Option Int))) = [] := by
    induction fs with
    | nil => rfl
    | cons x fs ih => exact ih (by rw [List.length_cons] at h; omega)
  rw [e, liftO_next, Oc.bind_next, if_neg (by decide), catO_ok (by simp; omega)]; rfl
theorem neO_tl {l w r : Type} {xs : List Vl} (h : ∀ x ∈ xs, Tl x) : (neO (eL eV xs) (eL eV xs) : Oc l w r Bool) = .next false := by
  have := eqO_tl (l := l) (w := w) (r := r) h
  unfold eqO at this
  unfold neO
  split at this
  · rename_i q
    injection this with this
    rw [this, if_pos q]; rfl
  · cases this
theorem eqO_nil {l w r : Type} {x : Vl} {xs : List Vl} (h : ∀ y ∈ x :: xs, Tl y) : (eqO (eL eV (x :: xs)) (eL eV []) : Oc l w r Bool) = .next false := by
  obtain ⟨h1, h2, h3⟩ := tl_all h
  have e : toD (eL eV (x :: xs)) = .list (toDs (x :: xs)) := by
    show PyData.list (toDs ((x :: xs).map id)) = _
    rw [List.map_id]
  have hs : SeqAt.shaped (toD (eL eV (x :: xs))) = true := by
    rw [e]
    show (PyData.canLayAll0 (toDs (x :: xs)) && decide (PyData.depth (.list (toDs (x :: xs))) ≤ 64)) = true
    rw [h1, decide_eq_true (by simp only [PyData.depth]; omega)]; rfl
  have h0 : SeqAt.shaped (toD (eL eV [])) = true := by decide
  unfold eqO cEq veq
  rw [hs, h0, e]
  rfl
end MV
namespace MV
open PySem PySem.Spec PyProof.Rows L2 He
section
variable {n b : Nat} {c : Int → Int} {hs : List Int}
theorem compS_ok {l w r α β σ : Type} {f : α → σ → Oc Empty Unit Unit (Option β × σ)} {Q : β → Prop} (h : ∀ x s, ∃ y s', f x s = .next (some y, s') ∧ Q y) : ∀ (xs : List α) (s : σ) (acc : List β), acc.length + xs.length ≤ 16777216 → (∀ y ∈ acc, Q y) → ∃ ys s', (compS f xs s acc : Oc l w r (List β × σ)) = .next (ys, s') ∧ ys.length = acc.length + xs.length ∧ ∀ y ∈ ys, Q y
  | [], s, acc, _, hq => ⟨acc, s, rfl, by simp, hq⟩
  | x :: xs, s, acc, hl, hq => by
    obtain ⟨y, s', e, q⟩ := h x s
    rw [List.length_cons] at hl
    obtain ⟨ys, s2, e2, l2, q2⟩ := compS_ok (l := l) (w := w) (r := r) h xs s' (acc ++ [y]) (by rw [List.length_append, List.length_singleton]; omega) (fun z hz => (List.mem_append.mp hz).elim (hq z) fun m => by rw [List.mem_singleton.mp m]; exact q)
    refine ⟨ys, s2, ?_, ?_, q2⟩
    · show (match f x s with
        | .next (none, s1) => compS f xs s1 acc
        | .next (some y, s1) => if acc.length < sizeLine then compS f xs s1 (acc ++ [y]) else .bad
        | _ => .bad) = _
      rw [e]
      show (if acc.length < sizeLine then compS f xs s' (acc ++ [y]) else .bad) = _
      rw [size_eq, if_pos (by omega), e2]
    · rw [l2, List.length_append, List.length_singleton, List.length_cons]; omega
end
end MV
namespace L2
open PySem PySem.Spec PyProof.Rows
structure ItLC (K : PySem.W.Frag) (C fi fl : Addr) : Prop where
  it : PySem.W.findIn K (.ref C) "__iter__" = some (some (.ref fi))
  itF : PySem.W.isFn K (.ref fi) = true
  ln : PySem.W.findIn K (.ref C) "__len__" = some (some (.ref fl))
  lnF : PySem.W.isFn K (.ref fl) = true
end L2
namespace MV
open PySem PySem.Spec PyProof.Rows L2 He
theorem cx_false {P : Program} {w : World} (o : List Env) (H : Hp) (s : Shared) (e : Value) (s' : Shared) : ¬ L2N.CX P w o H s (fun _ _ _ => False) e s' := fun ⟨_, _, _, _, _, _, _, _, _, _, _, _, h⟩ => h
end MV
namespace L2
open PySem PySem.Spec PyProof.Rows
abbrev titObj (l : Addr) (i : Nat) : Obj := { cls := .type "tuple_iterator", data := .fields #[.ref l, .int i 0] }
def ItT (l it : Addr) (i : Nat) : HO := .ext fun h => h.get? it = some (titObj l i)
theorem itT_ok {P : Program} {w : World} {H : Hp} {h : Heap} {l it : Addr} {i : Nat} (e : h.get? it = some (titObj l i)) : ObjOk P w H h it (ItT l it i) := ⟨e, ⟨_, e⟩, fun h1 h2 q k => k _ q⟩
theorem itT_get {X : Cx} {pins : List (Addr × Obj)} {σ : St} {H : Hp} {s : Shared} {l it : Addr} {i : Nat} (I : Inv X pins σ H s) (e : H it = some (ItT l it i)) : s.heap.get? it = some (titObj l i) := (I.hok it _ e).1
theorem call_iter_tup {prog : Program} {w : World} {A : Around} {E : Value → Shared → Prop} {s : Shared} {l : Addr} {items : Array Value} {Q : Value → Shared → Prop} (hl : s.heap.IsTuple l items) (h : Q (.ref s.heap.objs.size) { s with heap := s.heap.push (titObj l 0) }) : wpAny (model prog w) A (call (.builtin "iter") [.ref l]) Q E s := by
  refine Calls.call_function_entry (by decide +kernel) (by decide +kernel) PySem.W.kdk_entry_iter (PySem.W.kdk_args_iter _) ?_
  unfold Builtin.«iter»
  refine wpAny_bind (m := someArgs "iter" 1 2 _) (wpAny_of_eq (a := [Value.ref l]) (by first | rfl | kernel_rfl!) ?_)
  show wpAny _ _ (pyIter (.ref l) >>= _) _ _ _
  refine wpAny_bind (wpAny_pyIter_tuple hl ?_)
  exact wpAny_pure ⟨_, rfl, h⟩
def rIterNT (K : PySem.W.Frag) (n : Nat) : List V → Hp → VK → Prop := fun xs H Q => ∃ (l : Addr) (zs : List V), xs = [.ref l] ∧ SqT K H l zs ∧ ∀ it, H it = none → n ≤ it → Q (.ref it) (upd H it (ItT l it 0))
theorem call_iterNT {X : Cx} : CallR X (.builtin "iter") (rIterNT X.K X.s_0.heap.objs.size) := by
  intro pins s σ H xs us Q I r h
  obtain ⟨l, zs, rfl, hq, q⟩ := h
  obtain rfl := Vals.ref1 r
  obtain ⟨its, rv, pl, hz⟩ := I.tuple hq
  refine call_iter_tup (show s.heap.IsTuple l its.toArray from pl) ?_
  exact ⟨.ref s.heap.objs.size, _, I.laid (t' := s.toks) (fun b u e => Heap.get?_push_of_some _ e) (Nat.le_refl _) (itT_ok (Heap.get?_push_size _ rfl)), rfl, q _ (I.hok.fresh (Nat.le_refl _)) I.sz⟩
structure FnS (P : Program) (w : World) (K : PySem.W.Frag) (mg : Str → Option Value) (base : Heap) (k : Nat) (g : Addr) (fd : FuncData) (names : List Str) (sp : Nat → Sp) : Prop where
  len : ∀ z vs H Q E, sp z vs H Q E → vs.length = names.length
  run : ∀ (A : Around) (outer : List Env) (t : Shared) (H : Hp) (args : Args) (us : List Value) (vs : List V) (Q : VK) (E : XK), Room k A → Env0 P w K mg base A outer t H → BindsTo t fd args (names.zip us) → Vals vs us → sp t.heap.objs.size vs H Q E →
    codeAny (model P w) A (.call (.ref g) args) (CR (L2N.CX P w) outer P w H t Q E) t
theorem fn_ofS {P : Program} {w : World} {K : PySem.W.Frag} {mg : Str → Option Value} {base : Heap} {k : Nat} {g : Addr} {x qual : Str} {params : Arguments} {body : List Stmt} {scope : Scope} {dvs : List V} {kws : List (Str × V)} {fd : FuncData} {M names : List Str} {sp : Nat → Sp}
    (F : FunD K x qual params body scope dvs kws g fd) (S : FnScope M names scope) (len : ∀ z vs H Q E, sp z vs H Q E → vs.length = names.length)
    (hb : ∀ (cv : Value) (A : Around) (outer : List Env) (t : Shared) (H : Hp) (vs : List V) (Q : VK) (E : XK), Room k (A.deeper (envOfC qual scope t.heap.objs.size g cv)) → sp t.heap.objs.size vs H Q E →
      ∃ ts, PSs (cxOf (L2N.CX P w) P w K mg base M qual scope g cv A outer t H E) body ts ∧ ts { nx := fun _ H1 => Q .non H1, rt := Q } (start M vs) H) : FnS P w K mg base (k + 1) g fd names sp := by
  refine ⟨len, fun A outer t H args us vs Q E room env0 bnd rel hsp => ?_⟩
  -- at this one state it is a plain promise about this state alone
  obtain ⟨oc, od, dV, kV, doc, pm, an, cv, ct, osl, rfl, look, hcd, _, _⟩ := F.ex
  have hlen := len _ _ _ _ _ hsp
  have kin : K.In t.heap := env0.mod.kin.keeps fun b u e => (env0.bs b u e).1
  have nolim : t.heap.NoLimit := env0.mod.nolimit.keeps fun b u e => (env0.bs b u e).1
  have kinds : ∀ y ∈ names.zip us, scope.names.lookup y.1 = some .local ∨ (scope.names.lookup y.1 = some .cell ∧ ((cellsFrom (t.heap.objs.size + 1) scope.names []).lookup y.1).isSome = true) := by
    rintro ⟨m, v⟩ hy
    exact (S.par m (List.of_mem_zip hy).1).imp id fun q => ⟨q, PySem.W.cellsFrom_some _ _ _ (.inl q)⟩
  refine codeAny_call_function room.depth (kin _ _ look) rfl S.co S.gen rfl (PySem.W.codeRec_of kin hcd) (bnd _ _ _ _ ?_)
  refine wpAny_newFunctionEnv_cells S.kind kinds fun env he t1 inn => ?_
  subst he
  refine ⟨nolim.keeps inn.toInCall.keep, codeAny_func ?_⟩
  obtain ⟨ts, hts, hq⟩ := hb cv A outer t H vs Q E (room.deeper _) hsp
  have I : Inv (cxOf (L2N.CX P w) P w K mg base M qual scope g cv A outer t H E) [] (start M vs) H t1 := inv_start S room.hd env0 hlen rel inn
  refine wpAny_mono (hts.run [] t1 (start M vs) H _ I hq) (fun fl t2 z => ?_) fun _ _ z => z
  cases fl with
  | ret u => obtain ⟨v, σ1, H1, J, rv, q⟩ := z; exact ⟨v, H1, J.os, J.bare, J.base, J.hok, rv, q⟩
  | next => obtain ⟨σ1, H1, J, q⟩ := z; exact ⟨V.non, H1, J.os, J.bare, J.base, J.hok, rfl, q⟩
  | brk => obtain ⟨_, _, _, q⟩ := z; exact q.elim
  | cont => obtain ⟨_, _, _, q⟩ := z; exact q.elim
def spItT (K : PySem.W.Frag) (C : Addr) (fld : Str) (z : Nat) : Sp := fun vs H Q _ => ∃ a dx fs l zs, vs = [.ref a] ∧ H a = some (.ins C dx fs) ∧ fs.lookup fld = some (.ref l) ∧ H l = some (.tup zs) ∧ ∀ it, H it = none → z ≤ it → Q (.ref it) (upd H it (ItT l it 0))
def spLnT (K : PySem.W.Frag) (C : Addr) (fld : Str) : Sp := fun vs H Q _ => ∃ a dx fs l zs, vs = [.ref a] ∧ H a = some (.ins C dx fs) ∧ fs.lookup fld = some (.ref l) ∧ H l = some (.tup zs) ∧ Q (.int (zs.length : Int)) H
section
variable {X : Cx} {C fi fl : Addr} {fdI : FuncData} {psI : List Str} {n : Nat} {fld : Str}
theorem fp_young {pins : List (Addr × Obj)} {σ : St} {H : Hp} {s : Shared} {it : Addr} {φ : Heap → Prop} (I : Inv X pins σ (upd H it (.ext φ)) s) (hn : H it = none) (hz : X.s_0.heap.objs.size ≤ it) : FpOk X pins H it ∧ Inv X pins σ H s := by
  have dr := ItX.dropH_upd (o := .ext φ) hn
  have f := ItX.inv_fp I upd_same hz
  have J := ItX.inv_drop I upd_same
  rw [dr] at f J
  exact ⟨f, J⟩
def iOwnT (K : PySem.W.Frag) (C : Addr) (fld : Str) (te : TE) : TI := fun σ H R => te σ H fun v H1 => ∃ a dx fs l zs, v = .ref a ∧ H1 a = some (.ins C dx fs) ∧ fs.lookup fld = some (.ref l) ∧ H1 l = some (.tup zs) ∧ R (Itt K l) H1
theorem cxf {P : Program} {w : World} (o : List Env) (H : Hp) (s : Shared) (e : Value) (s' : Shared) : ¬ L2N.CX P w o H s (fun _ _ _ => False) e s' := fun ⟨_, _, _, _, _, _, _, _, _, _, _, _, h⟩ => h
theorem pi_ownT {tg e : Expr} {te : TE} (hs : PySem.W.findIn X.K (.ref C) "__iter__" = some (some (.ref fi))) (hsF : PySem.W.isFn X.K (.ref fi) = true)
    (FI : FnS X.prog X.w X.K X.mg X.base n fi fdI psI (spItT X.K C fld)) (bI : Binds X.K fdI psI []) (hr : Room n X.A) (he : PE X e te) : PI X tg e (iOwnT X.K C fld te) := by
  refine ⟨fun pins s0 σ H0 R I0 h => ?_⟩
  refine thn (he.run pins s0 σ H0 _ I0 h) fun v s ⟨x, H, I, r1, q1⟩ => ?_
  obtain ⟨a, dx, fs, l, zs, rfl, ha, hfl, hl, hR⟩ := q1
  cases r1
  obtain ⟨mA, J, _⟩ := ins_get I.hok ha
  obtain ⟨od, J, _⟩ := J.look
  obtain ⟨m0, hF⟩ := I.fr
  refine PySem.W.owit_iter hF I.ok.mod.kin J hs hsF ?_
  have hspI : spItT X.K C fld s.heap.objs.size [.ref a] H (fun v H' => ∃ it, v = .ref it ∧ H it = none ∧ s.heap.objs.size ≤ it ∧ H' = upd H it (ItT l it 0)) (fun _ _ _ => False) := ⟨a, dx, fs, l, zs, rfl, ha, hfl, hl, fun it hn hb => ⟨it, rfl, hn, hb, rfl⟩⟩
  have hlen := FI.len _ _ _ _ _ hspI
  have r2 : Vals [V.ref a] [Value.ref a] := .cons rfl .nil
  refine wpAny_call (codeAny_mono (FI.run X.A X.stack s _ ⟨[.ref a], []⟩ [.ref a] [.ref a] _ _ hr I.env0 (by
    have := bI s [.ref a] I.kIn (by simpa using hlen)
    simpa using this) r2 hspI) fun r s' hq' => ?_)
  cases r with
  | error e => exact absurd hq' (cxf _ _ _ _ _)
  | ok fl' =>
    cases fl' with
    | next => exact False.elim hq'
    | brk => exact False.elim hq'
    | cont => exact False.elim hq'
    | ret u =>
      obtain ⟨v, H', I', rv, it, ev, hn, hb, eH⟩ := I.after hq'
      subst ev
      rw [eH] at I'
      cases rv
      have eo := itT_get I' upd_same
      have st : s'.heap.IsTupleIter it l 0 := ⟨_, eo, rfl, rfl⟩
      unfold PySem.W.OwitIt
      have hT : s'.TypeIs (.ref it) "tuple_iterator" := ⟨_, eo, rfl⟩
      refine wpAny_specialOf (name := Str.ofString "__next__") hT F.slot_tuple_iterator_next.lookup ?_
      obtain ⟨fp, I2⟩ := fp_young I' hn (Nat.le_trans I.sz hb)
      exact ⟨it, [it], _, _, H, rfl, I2, turn_tuple l it, st, fun b z => by rw [List.mem_singleton.mp z]; exact fp, hR⟩
def rLenOT (C : Addr) (fld : Str) : List V → Hp → VK → Prop := fun xs H Q => ∃ a dx fs l zs, xs = [.ref a] ∧ H a = some (.ins C dx fs) ∧ fs.lookup fld = some (.ref l) ∧ H l = some (.tup zs) ∧ Q (.int (zs.length : Int)) H
theorem call_lenOT {fdL : FuncData} {psL : List Str} {CL : CXT} (hs : PySem.W.findIn X.K (.ref C) "__len__" = some (some (.ref fl))) (hsF : PySem.W.isFn X.K (.ref fl) = true)
    (FL : FnOk X.prog X.w X.K X.mg X.base CL n fl fdL psL (spLnT X.K C fld)) (bL : Binds X.K fdL psL []) (xL : ∀ o H s e s', ¬ CL o H s (fun _ _ _ => False) e s') (hr : Room (n + 1) X.A) : CallR X (.builtin "len") (rLenOT C fld) := by
  intro pins s σ H xs us Q I rv h
  obtain ⟨a, dx, fs, l, zs, rfl, ha, hfl, hl, hq⟩ := h
  obtain ⟨u, rfl, ru⟩ := rv.one
  cases ru
  have sb : Sub X (n + 1) X.A := ⟨hr, rfl⟩
  obtain ⟨mA, J, _⟩ := ins_get I.hok ha
  obtain ⟨od, J, _⟩ := J.look
  obtain ⟨m, hF⟩ := I.fr
  obtain ⟨its, rv2, pl, hz⟩ := I.tuple (SqT.of hl)
  have e0 : Env0 X.prog X.w X.K X.mg X.base X.A.in1 X.stack s H := by
    have e := I.env0
    exact ⟨by rw [sb.in1.fr]; exact e.frames, e.mod, e.bs, e.bsz, e.funs, e.frf, e.hok, e.bare⟩
  have hsp : spLnT X.K C fld [.ref a] H (fun v H' => v = .int (zs.length : Int) ∧ H' = H) (fun _ _ _ => False) := ⟨a, dx, fs, l, zs, rfl, ha, hfl, hl, rfl, rfl⟩
  have hlen := FL.len _ _ _ _ hsp
  have r2 : Vals [V.ref a] [Value.ref a] := .cons rfl .nil
  refine PySem.W.len_K hF I.ok.mod.kin J hs hsF (wpAny_call (codeAny_mono (FL.run X.A.in1 X.stack s H ⟨[.ref a], []⟩ [.ref a] [.ref a] _ _ sb.in1.room e0 (by
    have := bL s [.ref a] I.kIn (by simpa using hlen)
    simpa using this) r2 hsp) fun r s' hq' => ?_))
  cases r with
  | error e => exact absurd hq' (xL _ _ _ _ _)
  | ok fl' =>
    cases fl' with
    | next => exact False.elim hq'
    | brk => exact False.elim hq'
    | cont => exact False.elim hq'
    | ret u =>
      obtain ⟨v, H', I', rv', ev, eH⟩ := I.after hq'
      subst ev
      rw [eH] at I'
      obtain ⟨t, rfl⟩ := rv'
      exact ⟨⟨by omega, by rw [sizeLine_eq] at hz; omega⟩, .int _, H, I'.tok _, ⟨_, rfl⟩, hq⟩
end
end L2
namespace MV
open PySem PySem.Spec PyProof.Rows L2 He
structure FnCS (P : Program) (w : World) (K : PySem.W.Frag) (mg : Str → Option Value) (base : Heap) (k : Nat) (f : Addr) (sp : Nat → Sp) : Prop where
  ex : ∃ fd ps, FnS P w K mg base k f fd ps sp ∧ Binds K fd ps []
  kp : PySem.W.keepIn K (.ref f) = true
section
variable {P : Program} {w : World} {K : PySem.W.Frag} {mg : Str → Option Value} {base : Heap} {qual : Str} {params : Arguments} {scope : Scope} {dvs : List V} {kws : List (Str × V)} {f : Addr} {fd : FuncData} {k : Nat} {name c fld : Str} {p1 p2 p3 p4 p5 : Pos}
theorem fn_iterT (F : FunD K name qual params [.Return (some (.Call (.Name "iter" p1) [.Attribute (.Name "self" p2) fld p3] [] p4)) p5] scope dvs kws f fd) (S : FnScope ["self"] ["self"] scope) (v1 : Vis scope "self") (hf : FldOk K [c] fld) (hm : mg "iter" = none)
    (hg : ∀ (cdv : Value) (A : Around) (outer : List Env) (s : Shared) (H : Hp) (E : XK), Gl (cxOf (L2N.CX P w) P w K mg base ["self"] qual scope f cdv A outer s H E) "iter" := by intros; rfl) : FnS P w K mg base (k + 1) f fd ["self"] (spItT K (ga K c) fld) := by
  obtain ⟨hC, hN⟩ := hf.ok c (by simp)
  refine fn_ofS F S (fun z vs H Q E h => ?_) fun cdv A outer s H vs Q E hr h => ?_
  · obtain ⟨a, dx, fs, l, zs, e, _⟩ := h
    rw [e]; rfl
  · obtain ⟨a, dx, fs, l, zs, rfl, ha, hfl, hl, q⟩ := h
    refine ⟨_, pss_cons (ps_ret (pe_callB call_iterNT (hg cdv A outer s H E) hm (by decide +kernel) (pa_cons (pe_fld (pe_var (i := 0) rfl v1 (by decide) (by decide)) rfl) pa_nil rfl) (by decide) (by decide) rfl rfl)) pss_nil, ?_⟩
    exact ⟨V.ref a, rfl, a, ga K c, dx, fs, .ref l, rfl, ha, hC, hN, hfl, l, zs, rfl, SqT.of hl, q⟩
theorem fn_lenT (F : FunD K name qual params [.Return (some (.Call (.Name "len" p1) [.Attribute (.Name "self" p2) fld p3] [] p4)) p5] scope dvs kws f fd) (S : FnScope ["self"] ["self"] scope) (v1 : Vis scope "self") (hf : FldOk K [c] fld) (hm : mg "len" = none)
    (hg : ∀ (cdv : Value) (A : Around) (outer : List Env) (s : Shared) (H : Hp) (E : XK), Gl (cxOf (L2N.CX P w) P w K mg base ["self"] qual scope f cdv A outer s H E) "len" := by intros; rfl) : FnOk P w K mg base (L2N.CX P w) (k + 1) f fd ["self"] (spLnT K (ga K c) fld) := by
  obtain ⟨hC, hN⟩ := hf.ok c (by simp)
  refine F.ok S (fun vs H Q E h => ?_) fun cdv A outer s H vs Q E hr h => ?_
  · obtain ⟨a, dx, fs, l, zs, e, _⟩ := h
    rw [e]; rfl
  · obtain ⟨a, dx, fs, l, zs, rfl, ha, hfl, hl, q⟩ := h
    refine ⟨_, pss_cons (ps_ret (pe_callB call_len (hg cdv A outer s H E) hm (by decide +kernel) (pa_cons (pe_fld (pe_var (i := 0) rfl v1 (by decide) (by decide)) rfl) pa_nil rfl) (by decide) (by decide) rfl rfl)) pss_nil, ?_⟩
    exact ⟨V.ref a, rfl, a, ga K c, dx, fs, .ref l, rfl, ha, hC, hN, hfl, .ref l, zs.length, rfl, .inr ⟨zs, SqT.of hl, rfl⟩, q⟩
end
def kItO (c fld : Str) : Sv → En → Rs (Bool × List Sv) := fun s ρ => bnd (kFld fld [c] s ρ) fun t ρ => match t.d with
  | .tup xs => .ok (true, xs.map (mk t.m.kid)) ρ
  | _ => .bad
def kLnT : K1 := fun t ρ => match t.d with
  | .tup xs => .ok ⟨.shr, .int (xs.length : Int)⟩ ρ
  | _ => .bad
def kLenOT (c fld : Str) : K1 := fun s ρ => bnd (kFld fld [c] s ρ) kLnT
section
variable {X : Cx} {J : Jx} {W : WX} {a : Expr} {qa : Bool} {fa : Sem1} {p pos : Pos}
theorem xi_ownT {tg : Expr} {c fld : Str} {fi : Addr} {j k : Nat} (FI : FnCS X.prog X.w X.K X.mg X.base j fi (spItT X.K (ga X.K c) fld)) (S : PySem.W.findIn X.K (.ref (ga X.K c)) "__iter__" = some (some (.ref fi)) ∧ PySem.W.isFn X.K (.ref fi) = true ∧ PySem.W.selfFirst X.K (ga X.K c) = true) (hr : Room k X.A) (hK : J.K = X.K)
    (ha : XE X J W a qa fa) (hj : j ≤ k := by decide) : XI X J W tg a qa (iSrc fa (kItO c fld)) := by
  obtain ⟨⟨fdI, psI, FI, bI⟩, _⟩ := FI
  refine ⟨(pi_ownT S.1 S.2.1 FI bI (hr.mono hj) ha.pe).imp fun σ H R h => ?_⟩
  obtain ⟨ρ, τ, I, cc, m⟩ := h
  refine ⟨ρ, τ, I, cc, outI_bnd (α := Unit) m fun s ρ1 m1 v H1 ⟨F, B, O, I1⟩ => ?_⟩
  obtain ⟨md, d⟩ := s
  cases d with
  | ins c' fs =>
    unfold kItO kFld at m1
    dsimp only at m1
    by_cases hcc : c' ∈ [c]
    · rw [decide_eq_true hcc] at m1
      have hcc : c' = c := List.mem_singleton.mp hcc
      subst hcc
      obtain ⟨q, dx, ws, e, g, r⟩ := I1.top.ins I1.base
      cases z : fs.lookup fld with
      | none => rw [z] at m1; exact m1.elim
      | some d =>
        rw [z] at m1
        obtain ⟨u, w1, w2⟩ := r.look z
        obtain ⟨F2, B2, O2, I2⟩ := I1.drop1.push ((reg_kid w2 H1).mk I1.drop1.base)
        cases d with
        | tup xs =>
          have m1 : OutI J W τ σ (.ok (true, xs.map (mk md.kid.kid)) ρ1) R := m1
          have I2 : IvW J F2 B2 O2 ρ1 ((⟨md.kid, .tup xs⟩, u) :: τ) σ H1 := I2
          obtain ⟨l, vs, e2, g2, r2⟩ := I2.top.tup I2.base
          subst e2
          rw [hK] at g
          refine ⟨q, dx, ws, l, vs, by rw [e], g, w1, g2, m1 [(⟨md.kid, .tup xs⟩, .ref l)] _ _ ⟨F2, B2, O2, I2⟩ ⟨fun pre k ρ σ H hk I => ?_, fun pre k ρ σ H hk I => ?_, fun pre k s ρ σ H x H' hs I hy => ?_⟩ ?_⟩
          · obtain ⟨F, B, O, I⟩ := I
            obtain ⟨p', vs, ev, g, r⟩ := SR.tup I.base (show SR J F B H O _ ⟨md.kid, .tup xs⟩ (.ref l) from (TOk.below (l := pre) I.temp).1)
            cases ev
            rw [List.length_map] at hk
            exact ⟨vs, vs[k]'(by rw [r.len]; exact hk), SqT.of g, by simp⟩
          · obtain ⟨F, B, O, I⟩ := I
            obtain ⟨p', vs, ev, g, r⟩ := SR.tup I.base (show SR J F B H O _ ⟨md.kid, .tup xs⟩ (.ref l) from (TOk.below (l := pre) I.temp).1)
            cases ev
            rw [List.length_map] at hk
            exact ⟨vs, SqT.of g, by rw [r.len]; exact hk⟩
          · obtain ⟨F, B, O, I⟩ := I
            obtain ⟨p', vs, ev, g, r⟩ := SR.tup I.base (show SR J F B H O _ ⟨md.kid, .tup xs⟩ (.ref l) from (TOk.below (l := pre) I.temp).1)
            cases ev
            obtain ⟨e1, y⟩ := hy
            subst e1
            rw [List.getElem?_map] at hs
            obtain ⟨d, hd, es⟩ := Option.map_eq_some_iff.mp hs
            subst es
            obtain ⟨w, hw, rw'⟩ := r.get hd
            have hx := y vs (SqT.of g)
            rw [hw] at hx
            cases hx
            exact I.push ((reg_kid rw' H').mk I.base)
          · intro _ x hx
            rw [List.mem_singleton.mp hx]
            intro y
            have y : md.kid = .tmp := y
            cases md <;> cases y
        | _ => exact m1.elim
    · rw [decide_eq_false hcc] at m1
      exact m1.elim
  | _ => exact m1.elim
theorem ok_lenOT {c fld : Str} (hK : J.K = X.K) : Ok1 J W (fun v => rLenOT (ga X.K c) fld [v]) (kLenOT c fld) := by
  rintro ρ τ σ H ⟨md, d⟩ v Q ⟨F, B, O, I⟩ m
  cases d with
  | ins c' fs =>
    unfold kLenOT kFld at m
    dsimp only at m
    by_cases hcc : c' ∈ [c]
    · rw [decide_eq_true hcc] at m
      have hcc : c' = c := List.mem_singleton.mp hcc
      subst hcc
      obtain ⟨q, dx, ws, e, g, r⟩ := I.top.ins I.base
      cases z : fs.lookup fld with
      | none => rw [z] at m; exact m.elim
      | some d =>
        rw [z] at m
        obtain ⟨w, w1, w2⟩ := r.look z
        obtain ⟨F2, B2, O2, I2⟩ := I.drop1.push ((reg_kid w2 H).mk I.drop1.base)
        have m : Out J W τ σ (kLnT (mk md.kid d) ρ) Q := m
        cases d with
        | tup xs =>
          have m : Out J W τ σ (.ok ⟨.shr, .int (xs.length : Int)⟩ ρ) Q := m
          obtain ⟨l, vs, e2, g2, r2⟩ := I2.top.tup I2.base
          rw [hK] at g
          exact ⟨q, dx, ws, l, vs, by rw [e], g, by rw [w1, e2], g2, by rw [r2.len]; exact out_sc m ⟨F2, B2, O2, I2.drop1⟩ rfl rfl⟩
        | _ => exact m.elim
    · rw [decide_eq_false hcc] at m
      exact m.elim
  | _ => exact m.elim
theorem w_lenOT {c fld : Str} {fl : Addr} {j k : Nat} (FL : FnC X.prog X.w X.K X.mg X.base j fl (spLnT X.K (ga X.K c) fld)) (SL : PySem.W.findIn X.K (.ref (ga X.K c)) "__len__" = some (some (.ref fl)) ∧ PySem.W.isFn X.K (.ref fl) = true ∧ PySem.W.selfFirst X.K (ga X.K c) = true) (hm : X.mg "len" = none) (hr : Room k X.A) (hK : J.K = X.K)
    (ha : XE X J W a qa fa) (hj : j + 1 ≤ k := by decide) (hg : Gl X "len" := by rfl) (he : starEach [a] X.env = (false, eval a X.env) :: starEach [] X.env := by rfl) (hpl : (backTo pos (starEach [] X.env)).any (·.1) = false := by rfl) :
    XE X J W (.Call (.Name "len" p) [a] [] pos) qa (fOne fa (kLenOT c fld)) := by
  obtain ⟨⟨fdL, psL, FL, bL⟩, _⟩ := FL
  have hk : (k - 1) + 1 = k := by omega
  exact xe_bi1 (call_lenOT (n := k - 1) SL.1 SL.2.1 (FL.mono (by omega)) bL cx_false (by rw [hk]; exact hr)) (ok_lenOT hK) hg hm boot_len ha (by decide) (by decide) he hpl
end
end MV
namespace MV
open PySem PySem.Spec PyProof.Rows L2 He
section
variable {X : Cx} {J : Jx} {W : WX} {pm : List PM} {rm : Bool} {fn : Fn} {q qo qb : Bool} {σ : St} {H : Hp} {Q : VK} {τ τ1 τ2 : List (Sv × V)} {ρ : En} {F B : Hp} {O : Addr → Option Ow}
def lstA (ρ : En) (a : Ar) : Bool := match arV ρ a with
  | some ⟨_, .lst _⟩ => true
  | _ => false
theorem lstA_at {a : Ar} {v : V} {τ' : List (Sv × V)} (h : lstA ρ a = true) (k : Stk σ [a] [v] τ τ') (I : Iv J ρ τ' σ H) : ∃ y vs, v = .ref y ∧ H y = some (.lst vs) := by
  obtain ⟨F, B, O, I⟩ := I
  have key : ∀ {s : Sv} {ow : Ow}, SR J F B H O ow s v → arV ρ a = some s → ∃ y vs, v = .ref y ∧ H y = some (.lst vs) := fun {s ow} r e => by
    unfold lstA at h
    rw [e] at h
    obtain ⟨md, d⟩ := s
    cases d with
    | lst xs =>
      obtain ⟨p, vs, e1, g, _⟩ := r.list I.base
      exact ⟨p, vs, e1, g⟩
    | _ => cases h
  cases a with
  | ex s =>
    rw [show τ' = (s, v) :: τ from k] at I
    exact key I.top rfl
  | sl i =>
    obtain ⟨k1, k2⟩ := (show σ[i]? = some (some v) ∧ τ' = τ from k)
    subst k2
    cases e : ρ[i]? with
    | none => unfold lstA at h; rw [arV_sl, e] at h; cases h
    | some so =>
      cases so with
      | none => unfold lstA at h; rw [arV_sl, e] at h; cases h
      | some s =>
        obtain ⟨_, v', e1, r⟩ := I.slot i s e
        rw [k1] at e1
        cases e1
        exact key r (by rw [arV_sl, e])
def fOp2L (c m : Str) (pm : List PM) (rm : Bool) (fn : Fn) (fo fb : SemR) : Sem1 := fun ρ => bnd (fo ρ) fun a ρ1 => grd (ntA a) (bnd (fb ρ1) fun b ρ2 => grd (clsOk c m ρ2 a && lstA ρ2 b) (kCall pm rm fn [a, b] ρ2))
theorem tOp2L {c m : Str} {fo fb : SemR} {to tb : TE} (h : ∃ ρ τ, Iv J ρ τ σ H ∧ (false = true ∨ NoTmp τ) ∧ Out J W τ σ (fOp2L c m pm rm fn fo fb ρ) Q) (hto : ∀ σ H Q, (∃ ρ τ, Iv J ρ τ σ H ∧ (qo = true ∨ NoTmp τ) ∧ OutR J W τ σ (fo ρ) Q) → to σ H Q) (htb : ∀ σ H Q, (∃ ρ τ, Iv J ρ τ σ H ∧ (qb = true ∨ NoTmp τ) ∧ OutR J W τ σ (fb ρ) Q) → tb σ H Q) :
    to σ H fun x H1 => tb σ H1 fun y H2 => ∃ a dx ws b us, x = .ref a ∧ y = .ref b ∧ H2 a = some (.ins (He.ga J.K c) dx ws) ∧ H2 b = some (.lst us) ∧ spF J.K pm rm fn [x, y] H2 Q (WE W σ) := by
  obtain ⟨ρ, τ, I, c0, m0⟩ := h
  have nt : NoTmp τ := c0.elim (fun z => nomatch z) id
  refine hto _ _ _ ⟨ρ, τ, I, .inr nt, ?_⟩
  unfold fOp2L at m0
  cases e : fo ρ with
  | ok a ρ1 =>
    rw [e] at m0
    intro v τ1 H1 k1 I1
    obtain ⟨ha, m1⟩ := out_grd (b := ntA a) m0
    refine htb _ _ _ ⟨ρ1, τ1, I1, .inr (ntA_ok ha k1 nt), ?_⟩
    cases e2 : fb ρ1 with
    | ok b ρ2 =>
      rw [e2] at m1
      intro u τ2 H2 k2 I2
      obtain ⟨hc, m2⟩ := out_grd (b := clsOk c m ρ2 a && lstA ρ2 b) m1
      obtain ⟨hc1, hc2⟩ := Bool.and_eq_true_iff.mp hc
      obtain ⟨x, dx, ws, z1, z2⟩ := clsOk_below hc1 k1 k2 I2
      obtain ⟨y, us, z3, z4⟩ := lstA_at hc2 k2 I2
      exact ⟨x, dx, ws, y, us, z1, z3, z2, z4, call_sp nt (stk_cons k1 k2) I2 m2⟩
    | exc cc fs ρ2 => rw [e2] at m1; exact m1
    | bad => rw [e2] at m1; exact m1
  | exc cc fs ρ1 => rw [e] at m0; exact m0
  | bad => rw [e] at m0; exact m0
theorem w_ownCL {c dn : Str} {op : CmpOp} {a b : Expr} {fo fb : SemR} {pos : Pos} {f : Addr} {j k : Nat} (Fc : FnC X.prog X.w X.K X.mg X.base j f (spF X.K pm rm fn)) (S : PySem.W.findIn X.K (.ref (ga X.K c)) dn = some (some (.ref f)) ∧ PySem.W.isFn X.K (.ref f) = true ∧ PySem.W.selfFirst X.K (ga X.K c) = true) (hr : Room k X.A) (tk : Takes X W) (hK : J.K = X.K)
    (ho : XR X J W a qo fo) (hb : XR X J W b qb fb) (hj : j ≤ k := by decide) (hd : (cmpInfo op).2.1 = dn := by rfl) (hplain : op ≠ .Is ∧ op ≠ .IsNot ∧ op ≠ .In ∧ op ≠ .NotIn := by decide) (hm : behindInMarks op b = false := by rfl) : XE X J W (.Compare a [op] [b] pos) false (fOp2L c dn pm rm fn fo fb) := by
  have hu : X.A.units < cLine := by have := hr.un; omega
  have hc := Fc.at hr hj tk
  refine ⟨⟨fun pins s σ H Q I h => ?_⟩⟩
  refine wpAny_Compare1 (binT ho.pe hb.pe I (tOp2L h (fun _ _ _ z => z) fun _ _ _ z => z) fun v u s2 x y H2 I2 rx ry qq => ?_) hm
  obtain ⟨a', dx, ws, b', us, rfl, rfl, ha, hb', q⟩ := qq
  cases rx
  cases ry
  rw [hK] at ha q
  subst hd
  obtain ⟨mA, Ja, _⟩ := ins_get I2.hok ha
  obtain ⟨od, Ja, _⟩ := Ja.look
  obtain ⟨its, rv, pl, hz⟩ := I2.list (SqL.of hb')
  obtain ⟨m, hF⟩ := I2.fr
  obtain ⟨ob, hob, hcl, _⟩ := pl.isList
  have tb : PySem.W.Looks (model X.prog X.w) s2.heap (typeOf (.ref b')) (.type "list") := hcl ▸ (PySem.W.Looks.ld hob).andThen .now
  have sub : PySem.W.subIn X.K (.type "list") (.ref (ga X.K c)) = some false := by first | rfl | kernel_rfl
  rw [cmp_plain hplain]
  exact PySem.W.cmp_K hu hF I2.ok.mod.kin Ja tb (by simp [PySem.W.notFirst, sub]) S.1 S.2.1 (wpAny_mono (hc _ _ _ _ _ [.ref a', .ref b'] [.ref a', .ref b'] I2 (.cons rfl (.cons rfl .nil)) q) (fun _ _ z => back_ok z) fun _ _ z => z)
end
end MV
namespace MV
open PySem PySem.Spec PyProof.Rows L2 He
section
variable {l l' w r ν α β γ δ ε ζ : Type} {Γ Δ : List Sl} {C : Sur l w r} {P : ν → Sr → Prop} {t : Oc l w r ν} {g : SemS} {m m' : Md} {k : Sv → En → Sr}
theorem k_itOT {c fld : Str} {fs : List (Str × Vl)} {x : Vl} {e : α → Vl} {xs : List α} (hx : x = .ins c fs) (hf : fs.lookup fld = some (eT e xs)) : ∀ ρ, kItO c fld ⟨m, x⟩ ρ = .ok (true, xs.map fun x => mk m.kid (e x)) ρ := fun ρ => by
  subst hx
  show bnd (grd (decide (c ∈ [c])) (match fs.lookup fld with
    | some d => .ok (mk m.kid d) ρ
    | none => .bad)) _ = _
  rw [decide_eq_true (List.mem_singleton.mpr rfl), hf]
  show Rs.ok (true, (xs.map e).map (mk m.kid.kid)) ρ = _
  rw [List.map_map]
  cases m <;> rfl
theorem k_lenOT {c fld : Str} {fs : List (Str × Vl)} {x : Vl} {e : α → Vl} {xs : List α} (hx : x = .ins c fs) (hf : fs.lookup fld = some (eT e xs)) : ∀ ρ, kLenOT c fld ⟨m, x⟩ ρ = .ok ⟨.shr, .int (xs.length : Int)⟩ ρ := fun ρ => by
  subst hx
  show bnd (grd (decide (c ∈ [c])) (match fs.lookup fld with
    | some d => .ok (mk m.kid d) ρ
    | none => .bad)) kLnT = _
  rw [decide_eq_true (List.mem_singleton.mpr rfl), hf]
  show Rs.ok (Sv.mk .shr (.int ((xs.map e).length : Int))) ρ = _
  rw [List.length_map]
def grdLs (a : Ar) (f : SemS) : SemS := fun ρ => grdS (lstA ρ a) (f ρ)
theorem c_op2L {c m : Str} {pm : List PM} {rm : Bool} {fn : Fn} {fo fb : SemR} {k : Sv → En → Sr} (h : RS Γ (fun ρ => bndS (fo ρ) fun a ρ1 => grdS (ntA a) (bndS (fb ρ1) fun b => grdC c m a (grdLs b fun ρ2 => bndS (kCall pm rm fn [a, b] ρ2) k))) t C P) : RS Γ (fun ρ => bndS (fOp2L c m pm rm fn fo fb ρ) k) t C P :=
  h.congr fun ρ _ => by
    show bndS (bnd (fo ρ) fun a ρ1 => grd (ntA a) (bnd (fb ρ1) fun b ρ2 => grd (clsOk c m ρ2 a && lstA ρ2 b) (kCall pm rm fn [a, b] ρ2))) k = _
    rw [bndS_bnd]
    congr 1; funext a ρ1
    rw [bndS_grd, bndS_bnd]
    congr 2; funext b ρ2
    rw [bndS_grd]
    show _ = grdS (clsOk c m ρ2 a) (grdS (lstA ρ2 b) _)
    cases clsOk c m ρ2 a <;> cases lstA ρ2 b <;> rfl
theorem c_lst2 {a : Ar} {s : Sv} {xs : List Vl} {f : SemS} (ha : arG Γ a = some s) (hd : s.d = .lst xs) (h : RS Γ f t C P) : RS Γ (grdLs a f) t C P :=
  h.congr fun ρ hρ => by
    have : lstA ρ a = true := by
      unfold lstA
      rw [arG.env ha hρ]
      obtain ⟨md, d⟩ := s
      have hd : d = .lst xs := hd
      subst hd; rfl
    show grdS (lstA ρ a) (f ρ) = f ρ
    rw [this]; rfl
theorem v_andVF {fa fb : Sem1} (h : Ev Γ fa (isb false)) : Ev Γ (fAndV fa fb) (isb false) := fun ρ hρ => by
  unfold fAndV; rw [h ρ hρ]; rfl
end
end MV
namespace MV
open PySem PySem.Spec PyProof.Rows L2 He
def t_l_any_item (state1 : Drw) : TF Drw Int := Oc.run (ν := Empty) (fun e : Empty => nomatch e) (
  (callI (fun o => o) (t_l_draw state1 (8 : Int))).bind fun v1 =>
  if (v1.1 ≠ (7 : Int)) then (callI (fun o => o) (t_l_draw v1.2 (10 : Int))).bind fun v2 =>
  .ret v2.1 v2.2 else
  (callI (fun o => o) (t_l_draw v1.2 (9 : Int))).bind fun v3 =>
  if (v3.1 = (8 : Int)) then (callI (fun o => o) (t_l_draw v3.2 (2001 : Int))).bind fun v4 =>
  .ret (v4.1 - (1000 : Int)) v4.2 else
  (ixO [(-(1 : Int)), (97 : Int), (96 : Int), (-(3 : Int)), (33 : Int), (99 : Int), (-(1000 : Int)), (1000 : Int)] v3.1).bind fun v5 =>
  .ret v5 v3.2)
def t_l_throws_v3 (state1 : Drw) (places1 : Int) (great1 : Bool) : TF Drw (List Int) := Oc.run (ν := Empty) (fun e : Empty => nomatch e) (
  (rngO 0 places1).bind fun r1 =>
  (lmO r1 (fun place1 => place1)).bind fun l1 =>
  letO ([] : List Int) fun heights1 =>
  (rngO 0 places1).bind fun r2 =>
  (forO (fun (place2 : Int) (s1 : (Drw × (List Int) × (List Int))) =>
  (callI (fun o => o) (t_l_draw s1.1 (s1.2.1.length : Int))).bind fun v1 =>
  (popAtO s1.2.1 (((s1.2.1.length : Int) - (1 : Int)) - v1.1)).bind fun v2 =>
  (modO (v2.1 - place2) places1).bind fun v3 =>
  (pushO s1.2.2 v3).bind fun heights2 =>
  .next (v1.2, v2.2, heights2)) r2 (state1, l1, heights1)).bind fun s2 =>
  (divO s2.2.2.sum places1).bind fun v4 =>
  (rngO 0 places1).bind fun r3 =>
  (forO (fun (place3 : Int) (s3 : (Drw × (List Int) × Int)) =>
  letO ((16 : Int) - s3.2.2) fun room1 =>
  (if (great1 = true) then (ixO s3.2.1 place3).bind fun v5 =>
  (divO ((96 : Int) - v5) places1).bind fun v6 =>
  .next v6 else .next room1 : Oc _ _ _ Int).bind fun q1 =>
  (callI (fun o => o) (t_l_draw s3.1 ((1 : Int) + q1))).bind fun v7 =>
  (ixO s3.2.1 place3).bind fun v8 =>
  (mulO places1 v7.1).bind fun v9 =>
  (setO s3.2.1 place3 (v8 + v9)).bind fun heights3 =>
  letO (s3.2.2 + v7.1) fun balls1 =>
  .next (v7.2, heights3, balls1)) r3 (s2.1, s2.2.2, v4)).bind fun s4 =>
  .ret s4.2.1 s4.1)
def t_l_spoilt_v4 (state1 : Drw) (heights1 : (List Int)) : TF Drw (List Int) := Oc.run (ν := Empty) (fun e : Empty => nomatch e) (
  (callI (fun o => o) (t_l_draw state1 (14 : Int))).bind fun v1 =>
  (callI (fun o => o) (t_l_draw v1.2 (heights1.length : Int))).bind fun v2 =>
  if (v1.1 = (1 : Int)) then (catO (cutD heights1 none (some v2.1)) (cutD heights1 (some (v2.1 + (1 : Int))) none)).bind fun v3 =>
  .ret v3 v2.2 else
  if (v1.1 = (2 : Int)) then (callI (fun o => o) (t_l_any_item v2.2)).bind fun v4 =>
  (catO (cutD heights1 none (some v2.1)) [v4.1]).bind fun v5 =>
  (catO v5 (cutD heights1 (some v2.1) none)).bind fun v6 =>
  .ret v6 v4.2 else
  (ixO heights1 v2.1).bind fun v7 =>
  (if (v1.1 = (3 : Int)) then (callI (fun o => o) (t_l_any_item v2.2)).bind fun v8 =>
  .next (v8.2, v8.1) else .next (v2.2, v7) : Oc _ _ _ (Drw × Int)).bind fun q1 =>
  (if (((4 : Int) ≤ v1.1) ∧ (v1.1 ≤ (7 : Int))) then (ixO [(1 : Int), (-(1 : Int)), (heights1.length : Int), (-(heights1.length : Int))] (v1.1 - (4 : Int))).bind fun v9 =>
  letO (q1.2 + v9) fun item1 =>
  .next item1 else .next q1.2 : Oc _ _ _ Int).bind fun q2 =>
  (catO (cutD heights1 none (some v2.1)) [q2]).bind fun v10 =>
  (catO v10 (cutD heights1 (some (v2.1 + (1 : Int))) none)).bind fun v11 =>
  .ret v11 q1.1)
def t_l_draw_list (state1 : Drw) : TF Drw (List Int) := Oc.run (ν := Empty) (fun e : Empty => nomatch e) (
  (callI (fun o => o) (t_l_draw state1 (5 : Int))).bind fun v1 =>
  if (v1.1 = (4 : Int)) then (callI (fun o => o) (t_l_draw v1.2 (10 : Int))).bind fun v2 =>
  (ixO [(3 : Int), (2 : Int), (4 : Int), (1 : Int), (0 : Int), (7 : Int), (5 : Int), (6 : Int), (8 : Int), (40 : Int)] v2.1).bind fun v3 =>
  (rngO 0 v3).bind fun r1 =>
  (compS (fun (place2 : Int) (s1 : Drw) => (callI (fun o => ()) (t_l_any_item s1)).bind fun v5 =>
  .next (some v5.1, v5.2)) r1 v2.2 []).bind fun l2 =>
  .ret l2.1 l2.2 else
  (callI (fun o => o) (t_l_draw v1.2 (6 : Int))).bind fun v6 =>
  (ixO [(3 : Int), (2 : Int), (4 : Int), (1 : Int), (5 : Int), (6 : Int)] v6.1).bind fun v7 =>
  (callI (fun o => o) (t_l_throws_v3 v6.2 v7 (decide (v1.1 = (3 : Int))))).bind fun v8 =>
  (if (v1.1 = (2 : Int)) then (callI (fun o => o) (t_l_draw v8.2 v7)).bind fun v9 =>
  (divO v8.1.sum v7).bind fun v10 =>
  letO ((16 : Int) - v10) fun missing1 =>
  (ixO v8.1 v9.1).bind fun v11 =>
  (callI (fun o => o) (t_l_draw v9.2 (2 : Int))).bind fun v12 =>
  (mulO v7 (missing1 + v12.1)).bind fun v13 =>
  (setO v8.1 v9.1 (v11 + v13)).bind fun heights1 =>
  .next (v12.2, heights1) else .next (v8.2, v8.1) : Oc _ _ _ (Drw × (List Int))).bind fun q1 =>
  (callI (fun o => o) (t_l_spoilt_v4 q1.1 q1.2)).bind fun v14 =>
  .ret v14.1 v14.2)
def t_l_reason_v3 (heights1 : (List Int)) : TF Unit (List Vl) := Oc.run (ν := Empty) (fun e : Empty => nomatch e) (
  if (((heights1.length : Int) < (1 : Int)) ∨ ((6 : Int) < (heights1.length : Int))) then .ret [(eS ['s', 'i', 'z', 'e']), (eI (heights1.length : Int))] () else
  (rngO 0 (heights1.length : Int)).bind fun r1 =>
  (forO (fun (place1 : Int) (s1 : Unit) =>
  (liftO ((ixO heights1 place1).bind fun v1 =>
  if (v1 < (0 : Int)) then .next true else (ixO heights1 place1).bind fun v2 =>
  .next (decide ((96 : Int) < v2)))).bind fun t1 =>
  if (t1 = true) then .ret [(eS ['h', 'e', 'i', 'g', 'h', 't']), (eI place1)] () else
  .next ()) r1 ()).bind fun s2 =>
  (rngO 0 (heights1.length : Int)).bind fun r2 =>
  (forO (fun (second1 : Int) (s3 : Unit) =>
  (rngO 0 second1).bind fun r3 =>
  (forO (fun (first1 : Int) (s4 : Unit) =>
  (ixO heights1 second1).bind fun v3 =>
  (ixO heights1 first1).bind fun v4 =>
  letO (((v3 + second1) - v4) - first1) fun apart1 =>
  (modO apart1 (heights1.length : Int)).bind fun v5 =>
  if (v5 = (0 : Int)) then .ret [(eS ['c', 'o', 'l', 'l', 'i', 's', 'i', 'o', 'n']), (eI first1), (eI second1)] () else
  .next ()) r3 ()).bind fun s5 =>
  .next ()) r2 ()).bind fun s6 =>
  (divO heights1.sum (heights1.length : Int)).bind fun v6 =>
  if ((16 : Int) < v6) then .ret [(eS ['b', 'a', 'l', 'l', 's']), (eI v6)] () else
  .ret ([] : List Vl) ())
def t_l_outcome_v7 (heights1 : (List Int)) : TF Unit (List Vl) := Oc.run (ν := Empty) (fun e : Empty => nomatch e) (
  (tryO (fun o => ()) ((callO () (t_Cast___init__ heights1)).bind fun v1 =>
  .next ()) (fun c1 fs1 o1 => if (["BadSize"] : List Str).contains c1 then letO (List.contains ([] : List Str) c1) fun other1 =>
  (xfI fs1 "size").bind fun v2 =>
  (propO (t_l_row ['s', 'i', 'z', 'e'] [v2] other1)).bind fun v3 =>
  .ret v3 () else if (["BadHeight", "Collision", "TooManyBalls"] : List Str).contains c1 then if (["BadHeight"] : List Str).contains c1 then letO (List.contains ([] : List Str) c1) fun other2 =>
  (xfI fs1 "place").bind fun v4 =>
  (propO (t_l_row ['h', 'e', 'i', 'g', 'h', 't'] [v4] other2)).bind fun v5 =>
  .ret v5 () else if (["BadSize", "Collision", "TooManyBalls"] : List Str).contains c1 then if (["Collision"] : List Str).contains c1 then letO (List.contains ([] : List Str) c1) fun other3 =>
  (xfI fs1 "first").bind fun v6 =>
  (xfI fs1 "second").bind fun v7 =>
  (propO (t_l_row ['c', 'o', 'l', 'l', 'i', 's', 'i', 'o', 'n'] [v6, v7] other3)).bind fun v8 =>
  .ret v8 () else if (["BadSize", "BadHeight", "TooManyBalls"] : List Str).contains c1 then if (["TooManyBalls"] : List Str).contains c1 then letO (List.contains ([] : List Str) c1) fun other4 =>
  (xfI fs1 "amount").bind fun v9 =>
  (propO (t_l_row ['b', 'a', 'l', 'l', 's'] [v9] other4)).bind fun v10 =>
  .ret v10 () else if (["BadSize", "BadHeight", "Collision"] : List Str).contains c1 then .exc c1 fs1 () else .bad else .bad else .bad else .bad) : Oc _ _ _ Unit).bind fun q1 =>
  .ret ([] : List Vl) ())
def t_l_faces (cast1 : C_Cast) (heights1 : (List Int)) : TF Unit Bool := Oc.run (ν := Empty) (fun e : Empty => nomatch e) (
  (rngO 0 (heights1.length : Int)).bind fun r1 =>
  (compO (fun place1 => (ixO heights1 place1).bind fun v10 =>
  if (v10 ≠ (0 : Int)) then .next (some place1) else .next none) r1 []).bind fun l1 =>
  (lmO cast1 (fun height1 => height1)).bind fun l2 =>
  (liftO ((callO () (t_l_is_list l2 heights1)).bind fun v1 =>
  if (¬ (v1 = true)) then .next true else (propO (t_Cast_heights cast1)).bind fun v2 =>
  (callO () (t_l_is_list v2 heights1)).bind fun v3 =>
  .next (!v3))).bind fun t1 =>
  if (t1 = true) then .ret false () else
  (liftO ((propO (t_Cast_used cast1)).bind fun v4 =>
  (callO () (t_l_is_list v4 l1)).bind fun v5 =>
  if (¬ (v5 = true)) then .next true else .next (decide ((cast1.length : Int) ≠ (heights1.length : Int))))).bind fun t2 =>
  if (t2 = true) then .ret false () else
  (propO (t_Cast_places cast1)).bind fun v6 =>
  (propO (t_Cast_balls cast1)).bind fun v7 =>
  (divO heights1.sum (heights1.length : Int)).bind fun v8 =>
  (callO () (t_l_is_list [v6, v7] [(heights1.length : Int), v8])).bind fun v9 =>
  .ret v9 ())
def t_Cast___eq___v2 (self1 : C_Cast) (other1 : (List Int)) : TF Unit Bool := Oc.run (ν := Empty) (fun e : Empty => nomatch e) (
  .ret false ())
def t_l_good_v3 (heights1 : (List Int)) : TF Unit Bool := Oc.run (ν := Empty) (fun e : Empty => nomatch e) (
  (rep1O (1 : Int) (heights1.length : Int)).bind fun v1 =>
  (callO () (t_Cast___init__ heights1)).bind fun v2 =>
  (callO () (t_Cast___init__ v1)).bind fun v3 =>
  (ixO heights1 (0 : Int)).bind fun v4 =>
  (setO heights1 (0 : Int) (v4 + (1 : Int))).bind fun given1 =>
  (pushO given1 (3 : Int)).bind fun given2 =>
  (liftO ((callO () (t_l_faces v2 heights1)).bind fun v5 =>
  if (¬ (v5 = true)) then .next true else (callO () (t_l_faces v3 v1)).bind fun v6 =>
  .next (!v6))).bind fun t1 =>
  if (t1 = true) then .ret false () else
  (propO (t_Cast_heights v2)).bind fun v7 =>
  (ixO v7 (0 : Int)).bind fun v8 =>
  (setO v7 (0 : Int) (v8 + (1 : Int))).bind fun first1 =>
  (pushO first1 (3 : Int)).bind fun first2 =>
  (propO (t_Cast_used v2)).bind fun v9 =>
  (pushO v9 (heights1.length : Int)).bind fun second1 =>
  (propO (t_Cast_heights v3)).bind fun v10 =>
  (liftO ((callO () (t_l_faces v2 heights1)).bind fun v11 =>
  if (¬ (v11 = true)) then .next true else (callO () (t_l_faces v3 v1)).bind fun v12 =>
  .next (!v12))).bind fun t2 =>
  if (t2 = true) then .ret false () else
  (callO () (t_Cast___eq__ v2 v3)).bind fun v13 =>
  if ((¬ (true = true)) ∨ (v13 ≠ (decide (heights1 = v1)))) then .ret false () else
  (liftO ((callO () (t_Cast___init__ heights1)).bind fun v14 =>
  (callO () (t_Cast___eq__ v2 v14)).bind fun v15 =>
  if (v15 = true) then (callO () (t_Cast___eq___v2 v2 heights1)).bind fun v16 =>
  .next (decide (v16 = false)) else .next false)).bind fun j1 =>
  .ret j1 ())
def t_l_base_v9 (heights1 : (List Int)) : TF Unit Bool := Oc.run (ν := Empty) (fun e : Empty => nomatch e) (
  (tryO (fun o => ()) ((callO () (t_Cast___init__ heights1)).bind fun v1 =>
  .next ()) (fun c1 fs1 o1 => if (["BadSize", "BadHeight", "Collision", "TooManyBalls"] : List Str).contains c1 then .ret (List.contains (["BadSize", "BadHeight", "Collision", "TooManyBalls"] : List Str) c1) () else if ([] : List Str).contains c1 then .exc c1 fs1 () else .bad) : Oc _ _ _ Unit).bind fun q1 =>
  .ret false ())
def t_law_v26 (script1 : (List Int)) : TF Unit Bool := Oc.run (ν := Empty) (fun e : Empty => nomatch e) (
  (callO () (t_l_begin script1)).bind fun v1 =>
  (callI (fun o => ()) (t_l_draw_list v1)).bind fun v2 =>
  (callO () (t_l_reason_v3 v2.1)).bind fun v3 =>
  (callO () (t_l_outcome_v7 v2.1)).bind fun v4 =>
  (liftO ((neO ((eL eV) v4) ((eL eV) v3)).bind fun b1 =>
  if (b1 = true) then .next true else .next (decide (v2.1 ≠ v2.1)))).bind fun t1 =>
  if (t1 = true) then .ret false () else
  (liftO ((callO () (t_l_whole (6 : Int))).bind fun v5 =>
  if (¬ (v5 = true)) then .next true else (callO () (t_l_whole (16 : Int))).bind fun v6 =>
  .next (!v6))).bind fun t2 =>
  if (t2 = true) then .ret false () else
  if (((6 : Int) ≠ (6 : Int)) ∨ ((16 : Int) ≠ (16 : Int))) then .ret false () else
  (eqO ((eL eV) v3) ((eL eV) ([] : List Vl))).bind fun b2 =>
  if (b2 = true) then (callO () (t_l_good_v3 v2.1)).bind fun v7 =>
  .ret v7 () else
  (liftO ((callO () (t_l_base_v9 v2.1)).bind fun v8 =>
  if (v8 = true) then (callO () (t_l_good_v3 [(2 : Int), (0 : Int), (1 : Int)])).bind fun v9 =>
  .next v9 else .next false)).bind fun j1 =>
  .ret j1 ())
end MV
namespace MV
open PySem PySem.Spec PyProof.Rows L2 He
section
variable {n : Nat} {hs : List Int}
theorem throws00 (d : Drw) (n1 : 1 ≤ n) (n6 : n ≤ 6) (g : Bool) : ∃ hs d', t_l_throws_v3 d n g = .ret hs d' ∧ hs.length = n := by
  show Po (t_l_throws_v3 d n g) fun hs _ => hs.length = n
  unfold t_l_throws_v3
  rw [rngO_n (by omega), Oc.bind_next, lmO_ok (by rw [iv_len]; omega), Oc.bind_next, List.map_id', letO_eq, Oc.bind_next]
  refine po_iv (fun j (s : Drw × List Int × List Int) => L1 n j s.2.1 s.2.2) (L1.start n) ?hb1 ?he1
  case hb1 =>
    rintro j hj ⟨d1, left, hs⟩ h
    have h : L1 n j left hs := h
    have ll := h.left
    obtain ⟨⟨r1, d2⟩, e1, a1, b1⟩ := dO d1 (lim := (left.length : Int)) (by omega) (by omega)
    dsimp only at e1 a1 b1
    have hk : ((left.length : Int) - 1 - r1).toNat < left.length := by omega
    obtain ⟨t, ht⟩ : ∃ t, left[((left.length : Int) - 1 - r1).toNat]? = some t := ⟨_, List.getElem?_eq_getElem hk⟩
    refine ⟨(d2, left.eraseIdx ((left.length : Int) - 1 - r1).toNat, hs ++ [(t - (j : Int)) % (n : Int)]), .inl ?_, h.step hk t ht⟩
    dsimp only
    rw [e1, callI_ret, Oc.bind_next]
    dsimp only
    rw [popAtO_ok (by omega) (by omega) ht, Oc.bind_next, modO_ok (by omega), Oc.bind_next, pushO_ok (by rw [h.len]; omega), Oc.bind_next, show (0 : Int) + (j : Int) = (j : Int) by omega]
  case he1 =>
    rintro ⟨d1, left, hs⟩ h
    have h : L1 n n left hs := h
    have L := h.done n1 n6 (most := 16) (by omega)
    dsimp only
    rw [divO_ok (by omega) (by omega), Oc.bind_next, Oc.bind_next]
    refine po_iv (fun j (s : Drw × List Int × Int) => s.2.1.length = n ∧ (g = true ∨ s.2.2 ≤ 16) ∧ 0 ≤ s.2.2 ∧ ∀ i, j ≤ i → i < n → 0 ≤ s.2.1.getD i 0 ∧ s.2.1.getD i 0 < n) ⟨h.len, .inr L.bm, L.b0, fun i _ hi => h.lo _ (getD_mem (by rw [h.len]; exact hi))⟩ ?hb2 ?he2
    case hb2 =>
      rintro j hj ⟨d2, hs, b⟩ ⟨l, bb, b0, lo⟩
      have l : hs.length = n := l
      have bb : g = true ∨ b ≤ 16 := bb
      have b0 : 0 ≤ b := b0
      have lj : 0 ≤ hs.getD j 0 ∧ hs.getD j 0 < n := lo j (Nat.le_refl _) hj
      obtain ⟨m, em, m0, m1, mb⟩ : ∃ m : Int, (∀ {l : Type}, (if (g = true) then (ixO hs (0 + (j : Int))).bind fun v5 => (divO ((96 : Int) - v5) n).bind fun v6 => .next v6 else .next ((16 : Int) - b) : Oc l Drw (List Int) Int) = .next m) ∧ 0 ≤ m ∧ m < 1000 ∧ (g = true ∨ b + m ≤ 16) := by
        by_cases z : g = true
        · refine ⟨(96 - hs.getD j 0) / n, ?_, Int.ediv_nonneg (by omega) (by omega), ?_, .inl z⟩
          · intros
            rw [if_pos z, show (0 : Int) + (j : Int) = (j : Int) by omega, ixO_n 0 (by omega), Oc.bind_next, divO_ok (by omega) (by omega), Oc.bind_next]
          · have : (96 - hs.getD j 0) / (n : Int) ≤ 96 - hs.getD j 0 := Int.ediv_le_self _ (by omega)
            omega
        · have := bb.resolve_left z
          exact ⟨16 - b, by intros; rw [if_neg z], by omega, by omega, .inr (by omega)⟩
      obtain ⟨⟨r1, d3⟩, e1, a1, b1⟩ := dO d2 (lim := 1 + m) (by omega) (by omega)
      dsimp only at e1 a1 b1
      refine ⟨(d3, hs.set j (hs.getD j 0 + (n : Int) * r1), b + r1), .inl ?_, by show (hs.set j _).length = n; rw [List.length_set, l], mb.imp id fun q => by show b + r1 ≤ 16; omega, by show 0 ≤ b + r1; omega, fun i hi hn => ?_⟩
      · dsimp only
        rw [letO_eq, em, Oc.bind_next, e1, callI_ret, Oc.bind_next]
        dsimp only
        rw [show (0 : Int) + (j : Int) = (j : Int) by omega, ixO_n 0 (by omega), Oc.bind_next, mulO_ok (by left; omega), Oc.bind_next, setO_d (by omega) (by omega), Oc.bind_next, letO_eq]; rfl
      · show 0 ≤ (hs.set j _).getD i 0 ∧ (hs.set j _).getD i 0 < n
        rw [getD_set (by omega), if_neg (by omega)]
        exact lo i (by omega) hn
    case he2 =>
      rintro ⟨d2, hs, b⟩ ⟨l, _⟩
      exact ⟨hs, d2, rfl, l⟩
theorem any00 (d : Drw) : ∃ x d', t_l_any_item d = .ret x d' := by
  obtain ⟨⟨r1, d1⟩, e1, a1, b1⟩ := dO d (lim := 8) (by omega) (by omega)
  dsimp only at e1 a1 b1
  unfold t_l_any_item
  rw [e1, callI_ret, Oc.bind_next]
  dsimp only
  by_cases z : r1 ≠ 7
  · obtain ⟨⟨r2, d2⟩, e2, a2, b2⟩ := dO d1 (lim := 10) (by omega) (by omega)
    dsimp only at e2 a2 b2
    rw [if_pos z, e2, callI_ret, Oc.bind_next]
    exact ⟨_, _, rfl⟩
  · obtain ⟨⟨r2, d2⟩, e2, a2, b2⟩ := dO d1 (lim := 9) (by omega) (by omega)
    dsimp only at e2 a2 b2
    rw [if_neg z, e2, callI_ret, Oc.bind_next]
    dsimp only
    by_cases y : r2 = 8
    · obtain ⟨⟨r3, d3⟩, e3, a3, b3⟩ := dO d2 (lim := 2001) (by omega) (by omega)
      dsimp only at e3 a3 b3
      rw [if_pos y, e3, callI_ret, Oc.bind_next]
      exact ⟨_, _, rfl⟩
    · rw [if_neg y, ixO_d 0 a2 (by simp only [List.length_cons, List.length_nil]; omega), Oc.bind_next]
      exact ⟨_, _, rfl⟩
theorem cutL {α : Type} {cs : List α} {x y : Option Int} : (cutD cs x y).length ≤ cs.length := by
  unfold cutD
  rw [List.length_take, List.length_drop]; omega
theorem spoilt00 (d : Drw) {hs : List Int} (l1 : 1 ≤ hs.length) (l6 : hs.length ≤ 6) : ∃ ys d', t_l_spoilt_v4 d hs = .ret ys d' ∧ ys.length ≤ 20 := by
  obtain ⟨⟨r1, d1⟩, e1, a1, b1⟩ := dO d (lim := 14) (by omega) (by omega)
  dsimp only at e1 a1 b1
  obtain ⟨⟨r2, d2⟩, e2, a2, b2⟩ := dO d1 (lim := (hs.length : Int)) (by omega) (by omega)
  dsimp only at e2 a2 b2
  have cl : ∀ x y, (cutD hs x y).length ≤ 6 := fun x y => Nat.le_trans cutL l6
  have c1 := cl none (some r2)
  have c2 := cl (some (r2 + 1)) none
  have c3 := cl (some r2) none
  unfold t_l_spoilt_v4
  rw [e1, callI_ret, Oc.bind_next]
  dsimp only
  rw [e2, callI_ret, Oc.bind_next]
  dsimp only
  by_cases z1 : r1 = 1
  · rw [if_pos z1, catO_ok (by omega), Oc.bind_next]
    exact ⟨_, _, rfl, by rw [List.length_append]; omega⟩
  rw [if_neg z1]
  by_cases z2 : r1 = 2
  · obtain ⟨x, d3, e3⟩ := any00 d2
    rw [if_pos z2, e3, callI_ret, Oc.bind_next]
    dsimp only
    rw [catO_ok (by rw [List.length_singleton]; omega), Oc.bind_next, catO_ok (by rw [List.length_append, List.length_singleton]; omega), Oc.bind_next]
    exact ⟨_, _, rfl, by rw [List.length_append, List.length_append, List.length_singleton]; omega⟩
  rw [if_neg z2, ixO_d 0 a2 b2, Oc.bind_next]
  obtain ⟨d3, x, e3⟩ : ∃ d3 x, ∀ {l : Type}, (if (r1 = (3 : Int)) then (callI (fun o => o) (t_l_any_item d2)).bind fun v8 => .next (v8.2, v8.1) else .next (d2, hs.getD r2.toNat 0) : Oc l Drw (List Int) (Drw × Int)) = .next (d3, x) := by
    by_cases z3 : r1 = 3
    · obtain ⟨x, d3, e3⟩ := any00 d2
      exact ⟨d3, x, fun {_} => by rw [if_pos z3, e3, callI_ret, Oc.bind_next]⟩
    · exact ⟨d2, _, fun {_} => by rw [if_neg z3]⟩
  rw [e3, Oc.bind_next]
  dsimp only
  obtain ⟨y, e4⟩ : ∃ y, ∀ {l : Type}, (if (((4 : Int) ≤ r1) ∧ (r1 ≤ (7 : Int))) then (ixO [(1 : Int), (-(1 : Int)), (hs.length : Int), (-(hs.length : Int))] (r1 - (4 : Int))).bind fun v9 => letO (x + v9) fun item1 => .next item1 else .next x : Oc l Drw (List Int) Int) = .next y := by
    by_cases z4 : 4 ≤ r1 ∧ r1 ≤ 7
    · exact ⟨_, fun {_} => by rw [if_pos z4, ixO_d 0 (by omega) (by simp only [List.length_cons, List.length_nil]; omega), Oc.bind_next, letO_eq]⟩
    · exact ⟨_, fun {_} => by rw [if_neg z4]⟩
  rw [e4, Oc.bind_next, catO_ok (by rw [List.length_singleton]; omega), Oc.bind_next, catO_ok (by rw [List.length_append, List.length_singleton]; omega), Oc.bind_next]
  exact ⟨_, _, rfl, by rw [List.length_append, List.length_append, List.length_singleton]; omega⟩
theorem list00 (d : Drw) : ∃ hs d', t_l_draw_list d = .ret hs d' ∧ hs.length ≤ 40 := by
  obtain ⟨⟨r1, d1⟩, e1, a1, b1⟩ := dO d (lim := 5) (by omega) (by omega)
  dsimp only at e1 a1 b1
  unfold t_l_draw_list
  rw [e1, callI_ret, Oc.bind_next]
  dsimp only
  by_cases z : r1 = 4
  · obtain ⟨⟨r2, d2⟩, e2, a2, b2⟩ := dO d1 (lim := 10) (by omega) (by omega)
    dsimp only at e2 a2 b2
    obtain ⟨m, hm, m40⟩ : ∃ m : Nat, (∀ {l w r' : Type}, (ixO [(3 : Int), (2 : Int), (4 : Int), (1 : Int), (0 : Int), (7 : Int), (5 : Int), (6 : Int), (8 : Int), (40 : Int)] r2 : Oc l w r' Int) = .next (m : Int)) ∧ m ≤ 40 := by
      have : r2 = 0 ∨ r2 = 1 ∨ r2 = 2 ∨ r2 = 3 ∨ r2 = 4 ∨ r2 = 5 ∨ r2 = 6 ∨ r2 = 7 ∨ r2 = 8 ∨ r2 = 9 := by omega
      rcases this with rfl | rfl | rfl | rfl | rfl | rfl | rfl | rfl | rfl | rfl
      · exact ⟨3, rfl, by omega⟩
      · exact ⟨2, rfl, by omega⟩
      · exact ⟨4, rfl, by omega⟩
      · exact ⟨1, rfl, by omega⟩
      · exact ⟨0, rfl, by omega⟩
      · exact ⟨7, rfl, by omega⟩
      · exact ⟨5, rfl, by omega⟩
      · exact ⟨6, rfl, by omega⟩
      · exact ⟨8, rfl, by omega⟩
      · exact ⟨40, rfl, by omega⟩
    obtain ⟨ys, d3, e3, l3, _⟩ := compS_ok (l := Empty) (w := Drw) (r := List Int) (f := fun (place2 : Int) (s1 : Drw) => (callI (fun o => ()) (t_l_any_item s1)).bind fun v5 => .next (some v5.1, v5.2)) (Q := fun _ => True) (fun x s => by
      obtain ⟨y, s', e⟩ := any00 s
      exact ⟨y, s', by rw [e, callI_ret, Oc.bind_next], trivial⟩) (iv 0 m) d2 [] (by rw [iv_len]; simp; omega) (fun _ _ => trivial)
    rw [if_pos z, e2, callI_ret, Oc.bind_next]
    dsimp only
    rw [hm, Oc.bind_next, rngO_n (by omega), Oc.bind_next, e3, Oc.bind_next]
    exact ⟨_, _, rfl, by rw [l3, iv_len]; simp; omega⟩
  · obtain ⟨⟨r2, d2⟩, e2, a2, b2⟩ := dO d1 (lim := 6) (by omega) (by omega)
    dsimp only at e2 a2 b2
    obtain ⟨n, n1, n6, hn⟩ : ∃ n : Nat, 1 ≤ n ∧ n ≤ 6 ∧ ∀ {l w r' : Type}, (ixO [(3 : Int), (2 : Int), (4 : Int), (1 : Int), (5 : Int), (6 : Int)] r2 : Oc l w r' Int) = .next (n : Int) := by
      have : r2 = 0 ∨ r2 = 1 ∨ r2 = 2 ∨ r2 = 3 ∨ r2 = 4 ∨ r2 = 5 := by omega
      rcases this with rfl | rfl | rfl | rfl | rfl | rfl
      · exact ⟨3, by omega, by omega, rfl⟩
      · exact ⟨2, by omega, by omega, rfl⟩
      · exact ⟨4, by omega, by omega, rfl⟩
      · exact ⟨1, by omega, by omega, rfl⟩
      · exact ⟨5, by omega, by omega, rfl⟩
      · exact ⟨6, by omega, by omega, rfl⟩
    obtain ⟨hs, d3, e3, l3⟩ := throws00 d2 n1 n6 (decide (r1 = 3))
    rw [if_neg z, e2, callI_ret, Oc.bind_next]
    dsimp only
    rw [hn, Oc.bind_next, e3, callI_ret, Oc.bind_next]
    dsimp only
    obtain ⟨d4, ys, l4, e4⟩ : ∃ d4 ys, ys.length = n ∧ ∀ {l : Type}, (if (r1 = (2 : Int)) then (callI (fun o => o) (t_l_draw d3 n)).bind fun v9 => (divO hs.sum n).bind fun v10 => letO ((16 : Int) - v10) fun missing1 => (ixO hs v9.1).bind fun v11 => (callI (fun o => o) (t_l_draw v9.2 (2 : Int))).bind fun v12 => (mulO n (missing1 + v12.1)).bind fun v13 => (setO hs v9.1 (v11 + v13)).bind fun heights1 => .next (v12.2, heights1) else .next (d3, hs) : Oc l Drw (List Int) (Drw × (List Int))) = .next (d4, ys) := by
      by_cases y : r1 = 2
      · obtain ⟨⟨r5, d5⟩, e5, a5, b5⟩ := dO d3 (lim := (n : Int)) (by omega) (by omega)
        dsimp only at e5 a5 b5
        obtain ⟨⟨r6, d6⟩, e6, a6, b6⟩ := dO d5 (lim := 2) (by omega) (by omega)
        dsimp only at e6 a6 b6
        refine ⟨d6, hs.set r5.toNat (hs.getD r5.toNat 0 + (n : Int) * (16 - hs.sum / n + r6)), by rw [List.length_set, l3], fun {_} => ?_⟩
        rw [if_pos y, e5, callI_ret, Oc.bind_next]
        dsimp only
        rw [divO_ok (by omega) (by omega), Oc.bind_next, letO_eq, ixO_d 0 a5 (by omega), Oc.bind_next, e6, callI_ret, Oc.bind_next]
        dsimp only
        rw [mulO_ok (by left; omega), Oc.bind_next, setO_d a5 (by omega), Oc.bind_next]
      · exact ⟨d3, hs, l3, fun {_} => by rw [if_neg y]⟩
    rw [e4, Oc.bind_next]
    dsimp only
    obtain ⟨zs, d5, e5, l5⟩ := spoilt00 d4 (hs := ys) (by omega) (by omega)
    rw [e5, callI_ret, Oc.bind_next]
    exact ⟨_, _, rfl, by show zs.length ≤ 40; omega⟩
theorem xs0 {l w r : Type} {x : Int} : (xfI [("size", eI x)] "size" : Oc l w r Int) = .next x := rfl
theorem xs1 {l w r : Type} {x : Int} : (xfI [("place", eI x)] "place" : Oc l w r Int) = .next x := rfl
theorem xs2 {l w r : Type} {x y : Int} : (xfI [("second", eI x), ("first", eI y)] "first" : Oc l w r Int) = .next y := rfl
theorem xs3 {l w r : Type} {x y : Int} : (xfI [("second", eI x), ("first", eI y)] "second" : Oc l w r Int) = .next x := rfl
theorem xs4 {l w r : Type} {x : Int} : (xfI [("amount", eI x)] "amount" : Oc l w r Int) = .next x := rfl
abbrev wSz : List Char := ['s', 'i', 'z', 'e']
abbrev wHt : List Char := ['h', 'e', 'i', 'g', 'h', 't']
abbrev wCo : List Char := ['c', 'o', 'l', 'l', 'i', 's', 'i', 'o', 'n']
abbrev wBl : List Char := ['b', 'a', 'l', 'l', 's']
theorem out0 {k : Int} (e : t_Cast___init__ hs = .exc "BadSize" [("size", eI k)] ()) : t_l_outcome_v7 hs = .ret [eS wSz, eI k] () ∧ t_l_base_v9 hs = .ret true () := by
  constructor
  · unfold t_l_outcome_v7
    rw [e, callO_exc, Oc.bind_exc, tryO_exc, if_pos (by decide), letO_eq, xs0, Oc.bind_next, show List.contains ([] : List Str) (Str.ofString "BadSize") = false from rfl, row_ok (by simp), propO_ret, Oc.bind_next]; rfl
  · unfold t_l_base_v9
    rw [e, callO_exc, Oc.bind_exc, tryO_exc, if_pos (by decide)]; rfl
theorem out1 {k : Int} (e : t_Cast___init__ hs = .exc "BadHeight" [("place", eI k)] ()) : t_l_outcome_v7 hs = .ret [eS wHt, eI k] () ∧ t_l_base_v9 hs = .ret true () := by
  constructor
  · unfold t_l_outcome_v7
    rw [e, callO_exc, Oc.bind_exc, tryO_exc, if_neg (by decide), if_pos (by decide), if_pos (by decide), letO_eq, xs1, Oc.bind_next, show List.contains ([] : List Str) (Str.ofString "BadHeight") = false from rfl, row_ok (by simp), propO_ret, Oc.bind_next]; rfl
  · unfold t_l_base_v9
    rw [e, callO_exc, Oc.bind_exc, tryO_exc, if_pos (by decide)]; rfl
theorem out2 {k j : Int} (e : t_Cast___init__ hs = .exc "Collision" [("second", eI k), ("first", eI j)] ()) : t_l_outcome_v7 hs = .ret [eS wCo, eI j, eI k] () ∧ t_l_base_v9 hs = .ret true () := by
  constructor
  · unfold t_l_outcome_v7
    rw [e, callO_exc, Oc.bind_exc, tryO_exc, if_neg (by decide), if_pos (by decide), if_neg (by decide), if_pos (by decide), if_pos (by decide), letO_eq, xs2, Oc.bind_next, xs3, Oc.bind_next, show List.contains ([] : List Str) (Str.ofString "Collision") = false from rfl, row_ok (by simp), propO_ret, Oc.bind_next]; rfl
  · unfold t_l_base_v9
    rw [e, callO_exc, Oc.bind_exc, tryO_exc, if_pos (by decide)]; rfl
theorem out3 {k : Int} (e : t_Cast___init__ hs = .exc "TooManyBalls" [("amount", eI k)] ()) : t_l_outcome_v7 hs = .ret [eS wBl, eI k] () ∧ t_l_base_v9 hs = .ret true () := by
  constructor
  · unfold t_l_outcome_v7
    rw [e, callO_exc, Oc.bind_exc, tryO_exc, if_neg (by decide), if_pos (by decide), if_neg (by decide), if_pos (by decide), if_neg (by decide), if_pos (by decide), if_pos (by decide), letO_eq, xs4, Oc.bind_next, show List.contains ([] : List Str) (Str.ofString "TooManyBalls") = false from rfl, row_ok (by simp), propO_ret, Oc.bind_next]; rfl
  · unfold t_l_base_v9
    rw [e, callO_exc, Oc.bind_exc, tryO_exc, if_pos (by decide)]; rfl
theorem out4 (e : t_Cast___init__ hs = .ret hs ()) : t_l_outcome_v7 hs = .ret [] () := by
  unfold t_l_outcome_v7
  rw [e, callO_ret, Oc.bind_next, tryO_next, Oc.bind_next]; rfl
def col (hs : List Int) (s f : Nat) : Prop := ((s : Int) + hs.getD s 0 - (f : Int) - hs.getD f 0) % (hs.length : Int) = 0
instance {s f : Nat} : Decidable (col hs s f) := inferInstanceAs (Decidable (_ = _))
theorem cases00 (l40 : hs.length ≤ 40) : (∃ row : List Vl, row ≠ [] ∧ (∀ x ∈ row, Tl x) ∧ t_l_reason_v3 hs = .ret row () ∧ t_l_outcome_v7 hs = .ret row () ∧ t_l_base_v9 hs = .ret true ()) ∨ (t_l_reason_v3 hs = .ret [] () ∧ t_Cast___init__ hs = .ret hs () ∧ 1 ≤ hs.length ∧ hs.length ≤ 6) := by
  have tl2 : ∀ (w : List Char) (k : Int), ∀ x ∈ [eS w, eI k], Tl x := fun w k x hx => by
    rcases List.mem_cons.mp hx with rfl | hx
    · exact Tl.str
    · rw [List.mem_singleton.mp hx]; exact Tl.int
  by_cases sz : ¬ (1 ≤ hs.length ∧ hs.length ≤ 6)
  · left
    have e : t_Cast___init__ hs = .exc "BadSize" [("size", eI (hs.length : Int))] () := by
      unfold t_Cast___init__
      rw [if_pos (by omega)]; rfl
    refine ⟨[eS wSz, eI (hs.length : Int)], by simp, tl2 _ _, ?_, (out0 e).1, (out0 e).2⟩
    unfold t_l_reason_v3
    rw [if_pos (by omega)]; rfl
  obtain ⟨l1, l6⟩ := Classical.not_not.mp sz
  -- one height
  have h1 : ∀ {l : Type} (p : Nat), p < hs.length → ((liftO ((ixO hs (p : Int)).bind fun v1 => if ((0 : Int) ≤ v1) then .next (decide (v1 ≤ (96 : Int))) else .next false) : Oc l Unit C_Cast Bool)) = .next (decide (0 ≤ hs.getD p 0 ∧ hs.getD p 0 ≤ 96)) := fun {l} p hp => by
    rw [ixO_n 0 hp, Oc.bind_next]
    by_cases z : 0 ≤ hs.getD p 0
    · rw [if_pos z, liftO_next]
      congr 1
      exact decide_eq_decide.mpr ⟨fun q => ⟨z, q⟩, fun q => q.2⟩
    · rw [if_neg z, liftO_next, decide_eq_false fun q => z q.1]
  have h1' : ∀ {l : Type} (p : Nat), p < hs.length → ((liftO ((ixO hs (p : Int)).bind fun v1 => if (v1 < (0 : Int)) then .next true else (ixO hs (p : Int)).bind fun v2 => .next (decide ((96 : Int) < v2))) : Oc l Unit (List Vl) Bool)) = .next (decide (¬ (0 ≤ hs.getD p 0 ∧ hs.getD p 0 ≤ 96))) := fun {l} p hp => by
    rw [ixO_n 0 hp, Oc.bind_next]
    by_cases z : hs.getD p 0 < 0
    · rw [if_pos z, liftO_next, decide_eq_true (by omega)]
    · rw [if_neg z, Oc.bind_next, liftO_next]
      congr 1
      exact decide_eq_decide.mpr ⟨fun q => by omega, fun q => by omega⟩
  rcases least (P := fun p => ¬ (0 ≤ hs.getD p 0 ∧ hs.getD p 0 ≤ 96)) hs.length with ⟨p, hp, bad, no⟩ | ok
  · left
    have e : t_Cast___init__ hs = .exc "BadHeight" [("place", eI (p : Int))] () := by
      unfold t_Cast___init__
      rw [if_neg (by omega), rngO_n (by omega), Oc.bind_next, forO_exc (fun _ => ()) (k := p) (c := "BadHeight") (fs := [("place", eI (p : Int))]) (o := ()) (by rw [iv_len]; exact hp) (by rfl) ?hbef ?hat]
      · rfl
      case hbef =>
        intro j hj
        left
        rw [iv_at, Int.zero_add, h1 j (by omega), Oc.bind_next, decide_eq_true (Classical.not_not.mp (no j hj)), if_neg (by decide)]
      case hat => rw [iv_at, Int.zero_add, h1 p hp, Oc.bind_next, decide_eq_false bad, if_pos (by decide)]
    refine ⟨[eS wHt, eI (p : Int)], by simp, tl2 _ _, ?_, (out1 e).1, (out1 e).2⟩
    unfold t_l_reason_v3
    rw [if_neg (by omega), rngO_n (by omega), Oc.bind_next, forO_ret (fun _ => ()) (k := p) (x := [eS wHt, eI (p : Int)]) (o := ()) (by rw [iv_len]; exact hp) (by rfl) ?hbef2 ?hat2]
    · rfl
    case hbef2 =>
      intro j hj
      left
      rw [iv_at, Int.zero_add, h1' j (by omega), Oc.bind_next, decide_eq_false (no j hj), if_neg (by decide)]
    case hat2 => rw [iv_at, Int.zero_add, h1' p hp, Oc.bind_next, decide_eq_true bad, if_pos rfl]
  have ok : ∀ p, p < hs.length → 0 ≤ hs.getD p 0 ∧ hs.getD p 0 ≤ 96 := fun p hp => Classical.not_not.mp (ok p hp)
  have L1 : ∀ {l : Type}, (forO (fun (place1 : Int) (s1 : Unit) => (liftO ((ixO hs place1).bind fun v1 => if ((0 : Int) ≤ v1) then .next (decide (v1 ≤ (96 : Int))) else .next false)).bind fun j1 => if (¬ (j1 = true)) then .exc "BadHeight" [("place", eI place1)] () else .next ()) (iv 0 hs.length) () : Oc l Unit C_Cast Unit) = .next () := fun {l} => by
    refine forO_iv0 (fun _ => ()) (by rfl) fun j hj => ?_
    left
    rw [h1 j hj, Oc.bind_next, decide_eq_true (ok j hj), if_neg (by decide)]
  have L1' : ∀ {l : Type}, (forO (fun (place1 : Int) (s1 : Unit) => (liftO ((ixO hs place1).bind fun v1 => if (v1 < (0 : Int)) then .next true else (ixO hs place1).bind fun v2 => .next (decide ((96 : Int) < v2)))).bind fun t1 => if (t1 = true) then .ret [(eS ['h', 'e', 'i', 'g', 'h', 't']), (eI place1)] () else .next ()) (iv 0 hs.length) () : Oc l Unit (List Vl) Unit) = .next () := fun {l} => by
    refine forO_iv0 (fun _ => ()) (by rfl) fun j hj => ?_
    left
    rw [h1' j hj, Oc.bind_next, decide_eq_false (fun q => q (ok j hj)), if_neg (by decide)]
  -- one pair
  have c1 : ∀ {l : Type} (s f : Nat), s < hs.length → f < s → ((ixO hs (s : Int)).bind fun v2 => (ixO hs (f : Int)).bind fun v3 => (modO ((((s : Int) + v2) - (f : Int)) - v3) (hs.length : Int)).bind fun v4 => if (v4 = (0 : Int)) then .exc "Collision" [("second", eI (s : Int)), ("first", eI (f : Int))] () else .next () : Oc l Unit C_Cast Unit) = if col hs s f then .exc "Collision" [("second", eI (s : Int)), ("first", eI (f : Int))] () else .next () := fun {l} s f hs1 hf => by
    rw [ixO_n 0 hs1, Oc.bind_next, ixO_n 0 (by omega), Oc.bind_next, modO_ok (by omega), Oc.bind_next]; rfl
  have c1' : ∀ {l : Type} (s f : Nat), s < hs.length → f < s → ((ixO hs (s : Int)).bind fun v3 => (ixO hs (f : Int)).bind fun v4 => letO (((v3 + (s : Int)) - v4) - (f : Int)) fun apart1 => (modO apart1 (hs.length : Int)).bind fun v5 => if (v5 = (0 : Int)) then .ret [(eS ['c', 'o', 'l', 'l', 'i', 's', 'i', 'o', 'n']), (eI (f : Int)), (eI (s : Int))] () else .next () : Oc l Unit (List Vl) Unit) = if col hs s f then .ret [(eS ['c', 'o', 'l', 'l', 'i', 's', 'i', 'o', 'n']), (eI (f : Int)), (eI (s : Int))] () else .next () := fun {l} s f hs1 hf => by
    rw [ixO_n 0 hs1, Oc.bind_next, ixO_n 0 (by omega), Oc.bind_next, letO_eq, modO_ok (by omega), Oc.bind_next, show hs.getD s 0 + (s : Int) - hs.getD f 0 - (f : Int) = (s : Int) + hs.getD s 0 - (f : Int) - hs.getD f 0 by omega]; rfl
  have r1 : ∀ {l : Type} (s : Nat), s < hs.length → (∀ f, f < s → ¬ col hs s f) → (forO (fun (first1 : Int) (s4 : Unit) => (ixO hs (s : Int)).bind fun v2 => (ixO hs first1).bind fun v3 => (modO ((((s : Int) + v2) - first1) - v3) (hs.length : Int)).bind fun v4 => if (v4 = (0 : Int)) then .exc "Collision" [("second", eI (s : Int)), ("first", eI first1)] () else .next ()) (iv 0 s) () : Oc l Unit C_Cast Unit) = .next () := fun {l} s hs1 no => by
    refine forO_iv0 (fun _ => ()) (by rfl) fun f hf => ?_
    left
    rw [c1 s f hs1 hf, if_neg (no f hf)]
  have r1' : ∀ {l : Type} (s : Nat), s < hs.length → (∀ f, f < s → ¬ col hs s f) → (forO (fun (first1 : Int) (s4 : Unit) => (ixO hs (s : Int)).bind fun v3 => (ixO hs first1).bind fun v4 => letO (((v3 + (s : Int)) - v4) - first1) fun apart1 => (modO apart1 (hs.length : Int)).bind fun v5 => if (v5 = (0 : Int)) then .ret [(eS ['c', 'o', 'l', 'l', 'i', 's', 'i', 'o', 'n']), (eI first1), (eI (s : Int))] () else .next ()) (iv 0 s) () : Oc l Unit (List Vl) Unit) = .next () := fun {l} s hs1 no => by
    refine forO_iv0 (fun _ => ()) (by rfl) fun f hf => ?_
    left
    rw [c1' s f hs1 hf, if_neg (no f hf)]
  rcases least (P := fun s => ∃ f, f < s ∧ col hs s f) hs.length with ⟨s, hs1, ⟨f0, hf0, cf0⟩, no⟩ | none
  · left
    obtain ⟨f, hf, cf, nf⟩ : ∃ f, f < s ∧ col hs s f ∧ ∀ g, g < f → ¬ col hs s g := by
      rcases least (P := fun f => col hs s f) s with ⟨f, a, b, c⟩ | c
      · exact ⟨f, a, b, c⟩
      · exact absurd cf0 (c f0 hf0)
    have e : t_Cast___init__ hs = .exc "Collision" [("second", eI (s : Int)), ("first", eI (f : Int))] () := by
      unfold t_Cast___init__
      rw [if_neg (by omega), rngO_n (by omega), Oc.bind_next, L1, Oc.bind_next, Oc.bind_next, forO_exc (fun _ => ()) (k := s) (c := "Collision") (fs := [("second", eI (s : Int)), ("first", eI (f : Int))]) (o := ()) (by rw [iv_len]; exact hs1) (by rfl) ?hbef ?hat]
      · rfl
      case hbef =>
        intro j hj
        left
        rw [iv_at, Int.zero_add, rngO_n (by omega), Oc.bind_next, r1 j (by omega) fun f hf z => no j hj ⟨f, hf, z⟩, Oc.bind_next]
      case hat =>
        rw [iv_at, Int.zero_add, rngO_n (by omega), Oc.bind_next, forO_exc (fun _ => ()) (k := f) (c := "Collision") (fs := [("second", eI (s : Int)), ("first", eI (f : Int))]) (o := ()) (by rw [iv_len]; exact hf) (by rfl) ?hbef3 ?hat3]
        · rfl
        case hbef3 =>
          intro j hj
          left
          rw [iv_at, Int.zero_add, c1 s j hs1 (by omega), if_neg (nf j hj)]
        case hat3 => rw [iv_at, Int.zero_add, c1 s f hs1 hf, if_pos cf]
    refine ⟨[eS wCo, eI (f : Int), eI (s : Int)], by simp, fun x hx => ?_, ?_, (out2 e).1, (out2 e).2⟩
    · rcases List.mem_cons.mp hx with rfl | hx
      · exact Tl.str
      · rcases List.mem_cons.mp hx with rfl | hx
        · exact Tl.int
        · rw [List.mem_singleton.mp hx]; exact Tl.int
    · unfold t_l_reason_v3
      rw [if_neg (by omega), rngO_n (by omega), Oc.bind_next, L1', Oc.bind_next, Oc.bind_next, forO_ret (fun _ => ()) (k := s) (x := [eS wCo, eI (f : Int), eI (s : Int)]) (o := ()) (by rw [iv_len]; exact hs1) (by rfl) ?hbef ?hat]
      · rfl
      case hbef =>
        intro j hj
        left
        rw [iv_at, Int.zero_add, rngO_n (by omega), Oc.bind_next, r1' j (by omega) fun f hf z => no j hj ⟨f, hf, z⟩, Oc.bind_next]
      case hat =>
        rw [iv_at, Int.zero_add, rngO_n (by omega), Oc.bind_next, forO_ret (fun _ => ()) (k := f) (x := [eS wCo, eI (f : Int), eI (s : Int)]) (o := ()) (by rw [iv_len]; exact hf) (by rfl) ?hbef3 ?hat3]
        · rfl
        case hbef3 =>
          intro j hj
          left
          rw [iv_at, Int.zero_add, c1' s j hs1 (by omega), if_neg (nf j hj)]
        case hat3 => rw [iv_at, Int.zero_add, c1' s f hs1 hf, if_pos cf]
  have L2 : ∀ {l : Type}, (forO (fun (second1 : Int) (s3 : Unit) => (rngO 0 second1).bind fun r3 => (forO (fun (first1 : Int) (s4 : Unit) => (ixO hs second1).bind fun v2 => (ixO hs first1).bind fun v3 => (modO (((second1 + v2) - first1) - v3) (hs.length : Int)).bind fun v4 => if (v4 = (0 : Int)) then .exc "Collision" [("second", eI second1), ("first", eI first1)] () else .next ()) r3 ()).bind fun s5 => .next ()) (iv 0 hs.length) () : Oc l Unit C_Cast Unit) = .next () := fun {l} => by
    refine forO_iv0 (fun _ => ()) (by rfl) fun j hj => ?_
    left
    rw [rngO_n (by omega), Oc.bind_next, r1 j hj fun f hf z => none j hj ⟨f, hf, z⟩, Oc.bind_next]
  have L2' : ∀ {l : Type}, (forO (fun (second1 : Int) (s3 : Unit) => (rngO 0 second1).bind fun r3 => (forO (fun (first1 : Int) (s4 : Unit) => (ixO hs second1).bind fun v3 => (ixO hs first1).bind fun v4 => letO (((v3 + second1) - v4) - first1) fun apart1 => (modO apart1 (hs.length : Int)).bind fun v5 => if (v5 = (0 : Int)) then .ret [(eS ['c', 'o', 'l', 'l', 'i', 's', 'i', 'o', 'n']), (eI first1), (eI second1)] () else .next ()) r3 ()).bind fun s5 => .next ()) (iv 0 hs.length) () : Oc l Unit (List Vl) Unit) = .next () := fun {l} => by
    refine forO_iv0 (fun _ => ()) (by rfl) fun j hj => ?_
    left
    rw [rngO_n (by omega), Oc.bind_next, r1' j hj fun f hf z => none j hj ⟨f, hf, z⟩, Oc.bind_next]
  by_cases many : 16 < hs.sum / (hs.length : Int)
  · left
    have e : t_Cast___init__ hs = .exc "TooManyBalls" [("amount", eI (hs.sum / (hs.length : Int)))] () := by
      unfold t_Cast___init__
      rw [if_neg (by omega), rngO_n (by omega), Oc.bind_next, L1, Oc.bind_next, Oc.bind_next, L2, Oc.bind_next, divO_ok (by omega) (by omega), Oc.bind_next, if_pos many]; rfl
    refine ⟨[eS wBl, eI (hs.sum / (hs.length : Int))], by simp, tl2 _ _, ?_, (out3 e).1, (out3 e).2⟩
    unfold t_l_reason_v3
    rw [if_neg (by omega), rngO_n (by omega), Oc.bind_next, L1', Oc.bind_next, Oc.bind_next, L2', Oc.bind_next, divO_ok (by omega) (by omega), Oc.bind_next, if_pos many]; rfl
  · right
    refine ⟨?_, ?_, l1, l6⟩
    · unfold t_l_reason_v3
      rw [if_neg (by omega), rngO_n (by omega), Oc.bind_next, L1', Oc.bind_next, Oc.bind_next, L2', Oc.bind_next, divO_ok (by omega) (by omega), Oc.bind_next, if_neg many]; rfl
    · unfold t_Cast___init__
      rw [if_neg (by omega), rngO_n (by omega), Oc.bind_next, L1, Oc.bind_next, Oc.bind_next, L2, Oc.bind_next, divO_ok (by omega) (by omega), Oc.bind_next, if_neg many]; rfl
def used (hs : List Int) : List Int := (iv 0 hs.length).filter fun p => decide (hs.getD p.toNat 0 ≠ 0)
theorem used_c {l w r : Type} (l6 : hs.length ≤ 6) : (compO (fun place1 => (ixO hs place1).bind fun v1 => if (v1 ≠ (0 : Int)) then .next (some place1) else .next none) (iv 0 hs.length) [] : Oc l w r (List Int)) = .next (used hs) := by
  rw [compO_filt (p := fun p => decide (hs.getD p.toNat 0 ≠ 0)) (fun x hx => ?_) (by rw [iv_len]; omega)]
  · rfl
  · have := mem_iv.mp hx
    obtain ⟨y, rfl⟩ : ∃ y : Nat, x = (y : Int) := ⟨x.toNat, by omega⟩
    rw [ixO_n 0 (by omega), Oc.bind_next, Int.toNat_natCast]
    by_cases z : hs.getD y 0 ≠ 0
    · rw [if_pos z, if_pos (decide_eq_true z)]
    · rw [if_neg z, if_neg (by rw [decide_eq_false z]; decide)]
theorem faces00 (l1 : 1 ≤ hs.length) (l6 : hs.length ≤ 6) : t_l_faces hs hs = .ret true () := by
  have u : t_Cast_used hs = .ret (used hs) () := by
    unfold t_Cast_used
    rw [rngO_n (by omega), Oc.bind_next, used_c l6, Oc.bind_next]; rfl
  have lu : (used hs).length ≤ 10000 := Nat.le_trans (List.length_filter_le _ _) (by rw [iv_len]; omega)
  unfold t_l_faces
  rw [rngO_n (by omega), Oc.bind_next, used_c l6, Oc.bind_next, lmO_ok (by omega), Oc.bind_next, List.map_id', is_list_ok (by omega), callO_ret, Oc.bind_next, if_neg (by decide), castH_ok, propO_ret, Oc.bind_next, is_list_ok (by omega), callO_ret, Oc.bind_next, Bool.not_true, liftO_next, Oc.bind_next, if_neg (by decide), u, propO_ret, Oc.bind_next, is_list_ok lu, callO_ret, Oc.bind_next, if_neg (by decide), decide_eq_false (fun q => q rfl), liftO_next, Oc.bind_next, if_neg (by decide), castP_ok, propO_ret, Oc.bind_next, castB_ok l1 (by omega), propO_ret, Oc.bind_next, divO_ok (by omega) (by omega), Oc.bind_next, is_list_ok (by simp), callO_ret, Oc.bind_next]
  rfl
theorem ones00 {m : Nat} (m1 : 1 ≤ m) (m6 : m ≤ 6) : t_Cast___init__ (List.replicate m (1 : Int)) = .ret (List.replicate m 1) () := by
  have : m = 1 ∨ m = 2 ∨ m = 3 ∨ m = 4 ∨ m = 5 ∨ m = 6 := by omega
  rcases this with rfl | rfl | rfl | rfl | rfl | rfl <;> with_unfolding_all rfl
theorem good00 (e : t_Cast___init__ hs = .ret hs ()) (l1 : 1 ≤ hs.length) (l6 : hs.length ≤ 6) : t_l_good_v3 hs = .ret true () := by
  have lr : (List.replicate hs.length (1 : Int)).length = hs.length := List.length_replicate
  have f1 := faces00 l1 l6
  have f2 := faces00 (hs := List.replicate hs.length (1 : Int)) (by omega) (by omega)
  have lu : (used hs).length ≤ 10 := Nat.le_trans (List.length_filter_le _ _) (by rw [iv_len]; omega)
  have u : t_Cast_used hs = .ret (used hs) () := by
    unfold t_Cast_used
    rw [rngO_n (by omega), Oc.bind_next, used_c l6, Oc.bind_next]; rfl
  have eq1 : t_Cast___eq__ hs (List.replicate hs.length 1) = .ret (decide (hs = List.replicate hs.length 1)) () := by
    have d : decide (true = true ∧ hs = List.replicate hs.length 1) = decide (hs = List.replicate hs.length 1) := decide_eq_decide.mpr ⟨fun z => z.2, fun z => ⟨rfl, z⟩⟩
    unfold t_Cast___eq__
    rw [d]; rfl
  have eq2 : t_Cast___eq__ hs hs = .ret true () := by unfold t_Cast___eq__; rw [decide_eq_true ⟨rfl, rfl⟩]; rfl
  have eq3 : t_Cast___eq___v2 hs hs = .ret false () := rfl
  unfold t_l_good_v3
  rw [rep1O_ok (by omega) (by omega), Oc.bind_next, Int.toNat_natCast, e, callO_ret, Oc.bind_next, ones00 l1 l6, callO_ret, Oc.bind_next, show (0 : Int) = ((0 : Nat) : Int) from rfl, ixO_n 0 (by omega), Oc.bind_next, setO_d (by omega) (by omega), Oc.bind_next, pushO_ok (by rw [List.length_set]; omega), Oc.bind_next, f1, callO_ret, Oc.bind_next, if_neg (by decide), f2, callO_ret, Oc.bind_next, Bool.not_true, liftO_next, Oc.bind_next, if_neg (by decide), castH_ok, propO_ret, Oc.bind_next, ixO_n 0 (by omega), Oc.bind_next, setO_d (by omega) (by omega), Oc.bind_next, pushO_ok (by rw [List.length_set]; omega), Oc.bind_next, u, propO_ret, Oc.bind_next, pushO_ok (by omega), Oc.bind_next, castH_ok, propO_ret, Oc.bind_next, Oc.bind_next, if_neg (by decide), eq1, callO_ret, Oc.bind_next, if_neg (by simp), Oc.bind_next, eq2, callO_ret, Oc.bind_next, if_pos rfl, eq3, callO_ret, Oc.bind_next, decide_eq_true rfl, liftO_next, Oc.bind_next]
  rfl
end
theorem good201 : t_l_good_v3 [2, 0, 1] = .ret true () := good00 (by with_unfolding_all rfl) (by decide) (by decide)
theorem law_ok {ns : List Int} (h : ns.length ≤ 63) : t_law_v26 ns = .ret true () := by
  obtain ⟨d0, e0⟩ := begin_ok h
  obtain ⟨hs, d1, e1, l40⟩ := list00 d0
  have neq : ∀ {l : Type} (row : List Vl), (∀ x ∈ row, Tl x) → (liftO ((neO ((eL eV) row) ((eL eV) row)).bind fun b1 => if (b1 = true) then .next true else .next (decide (hs ≠ hs)) : Oc Empty Unit Bool Bool) : Oc l Unit Bool Bool) = .next false := fun {l} row tl => by
    rw [neO_tl tl, Oc.bind_next, if_neg (by decide), decide_eq_false (fun q => q rfl), liftO_next]
  have w : ∀ {l : Type}, (liftO ((callO () (t_l_whole (6 : Int))).bind fun v5 => if (¬ (v5 = true)) then .next true else (callO () (t_l_whole (16 : Int))).bind fun v6 => .next (!v6) : Oc Empty Unit Bool Bool) : Oc l Unit Bool Bool) = .next false := fun {l} => rfl
  unfold t_law_v26
  rcases cases00 l40 with ⟨row, ne, tl, er, eo, eb⟩ | ⟨er, ei, l1, l6⟩
  · obtain ⟨x, xs, rfl⟩ : ∃ x xs, row = x :: xs := by
      cases row with
      | nil => exact absurd rfl ne
      | cons x xs => exact ⟨x, xs, rfl⟩
    rw [e0, callO_ret, Oc.bind_next, e1, callI_ret, Oc.bind_next]
    dsimp only
    rw [er, callO_ret, Oc.bind_next, eo, callO_ret, Oc.bind_next, neq _ tl, Oc.bind_next, if_neg (by decide), w, Oc.bind_next, if_neg (by decide), if_neg (by omega), eqO_nil tl, Oc.bind_next, if_neg (by decide), eb, callO_ret, Oc.bind_next, if_pos rfl, good201, callO_ret, Oc.bind_next, liftO_next, Oc.bind_next]
    rfl
  · have tl0 : ∀ x ∈ ([] : List Vl), Tl x := fun x hx => by cases hx
    rw [e0, callO_ret, Oc.bind_next, e1, callI_ret, Oc.bind_next]
    dsimp only
    rw [er, callO_ret, Oc.bind_next, out4 ei, callO_ret, Oc.bind_next, neq _ tl0, Oc.bind_next, if_neg (by decide), w, Oc.bind_next, if_neg (by decide), if_neg (by omega), eqO_tl tl0, Oc.bind_next, if_pos rfl, good00 ei l1 l6, callO_ret, Oc.bind_next]
    rfl
end MV
namespace MV
open PySem PySem.Spec PyProof.Rows L2 He
def top (i : Nat) : Stmt := PySem.Challenge.pw_datelessrolls_k00_heights_taken.main.body.getD i (.Pass ⟨0, 0, 0, 0⟩)
def d_x_TooManyBalls : DfM := ⟨fun K => (ma K (ga K "TooManyBalls") "__init__"), "__init__", "TooManyBalls.__init__", defArgs (inClass (top 6) 0), defBody (inClass (top 6) 0), defScope (inClass (top 6) 0), []⟩
abbrev ix_x_TooManyBalls : Nat := 0
def d_x_Collision : DfM := ⟨fun K => (ma K (ga K "Collision") "__init__"), "__init__", "Collision.__init__", defArgs (inClass (top 5) 0), defBody (inClass (top 5) 0), defScope (inClass (top 5) 0), []⟩
abbrev ix_x_Collision : Nat := 1
def d_x_BadHeight : DfM := ⟨fun K => (ma K (ga K "BadHeight") "__init__"), "__init__", "BadHeight.__init__", defArgs (inClass (top 4) 0), defBody (inClass (top 4) 0), defScope (inClass (top 4) 0), []⟩
abbrev ix_x_BadHeight : Nat := 2
def d_x_BadSize : DfM := ⟨fun K => (ma K (ga K "BadSize") "__init__"), "__init__", "BadSize.__init__", defArgs (inClass (top 3) 0), defBody (inClass (top 3) 0), defScope (inClass (top 3) 0), []⟩
abbrev ix_x_BadSize : Nat := 3
def d_l_begin : DfM := ⟨fun K => (ga K "_law_begin"), "_law_begin", "_law_begin", defArgs (top 58), defBody (top 58), defScope (top 58), []⟩
abbrev ix_l_begin : Nat := 4
def d_l_draw : DfM := ⟨fun K => (ga K "_law_draw"), "_law_draw", "_law_draw", defArgs (top 59), defBody (top 59), defScope (top 59), []⟩
abbrev ix_l_draw : Nat := 5
def d_l_throws : DfM := ⟨fun K => (ga K "_law_throws"), "_law_throws", "_law_throws", defArgs (top 62), defBody (top 62), defScope (top 62), []⟩
abbrev ix_l_throws : Nat := 6
def d_l_any_item : DfM := ⟨fun K => (ga K "_law_any_item"), "_law_any_item", "_law_any_item", defArgs (top 63), defBody (top 63), defScope (top 63), []⟩
abbrev ix_l_any_item : Nat := 7
def d_l_spoilt : DfM := ⟨fun K => (ga K "_law_spoilt"), "_law_spoilt", "_law_spoilt", defArgs (top 64), defBody (top 64), defScope (top 64), []⟩
abbrev ix_l_spoilt : Nat := 8
def d_l_draw_list : DfM := ⟨fun K => (ga K "_law_draw_list"), "_law_draw_list", "_law_draw_list", defArgs (top 65), defBody (top 65), defScope (top 65), []⟩
abbrev ix_l_draw_list : Nat := 9
def d_l_reason : DfM := ⟨fun K => (ga K "_law_reason"), "_law_reason", "_law_reason", defArgs (top 66), defBody (top 66), defScope (top 66), []⟩
abbrev ix_l_reason : Nat := 10
def d_l_whole : DfM := ⟨fun K => (ga K "_law_whole"), "_law_whole", "_law_whole", defArgs (top 60), defBody (top 60), defScope (top 60), []⟩
abbrev ix_l_whole : Nat := 11
def d_l_row : DfM := ⟨fun K => (ga K "_law_row"), "_law_row", "_law_row", defArgs (top 67), defBody (top 67), defScope (top 67), []⟩
abbrev ix_l_row : Nat := 12
def d_Cast___init__ : DfM := ⟨fun K => (ma K (ga K "Cast") "__init__"), "__init__", "Cast.__init__", defArgs (inClass (top 54) 2), defBody (inClass (top 54) 2), defScope (inClass (top 54) 2), []⟩
abbrev ix_Cast___init__ : Nat := 13
def d_l_outcome : DfM := ⟨fun K => (ga K "_law_outcome"), "_law_outcome", "_law_outcome", defArgs (top 68), defBody (top 68), defScope (top 68), []⟩
abbrev ix_l_outcome : Nat := 14
def d_l_is_list : DfM := ⟨fun K => (ga K "_law_is_list"), "_law_is_list", "_law_is_list", defArgs (top 61), defBody (top 61), defScope (top 61), []⟩
abbrev ix_l_is_list : Nat := 15
def d_rwk_Cast___iter__ : DfM := ⟨fun K => (ma K (ga K "Cast") "__iter__"), "__iter__", "Cast.__iter__", defArgs (inClass (top 54) 27), defBody (inClass (top 54) 27), defScope (inClass (top 54) 27), []⟩
abbrev ix_rwk_Cast___iter__ : Nat := 16
def d_Cast_heights : DfM := ⟨fun K => (recAt "property" K "Cast" "heights"), "heights", "Cast.heights", defArgs (inClass (top 54) 11), defBody (inClass (top 54) 11), defScope (inClass (top 54) 11), []⟩
abbrev ix_Cast_heights : Nat := 17
def d_Cast_used : DfM := ⟨fun K => (recAt "property" K "Cast" "used"), "used", "Cast.used", defArgs (inClass (top 54) 12), defBody (inClass (top 54) 12), defScope (inClass (top 54) 12), []⟩
abbrev ix_Cast_used : Nat := 18
def d_raw_Cast___len__ : DfM := ⟨fun K => (ma K (ga K "Cast") "__len__"), "__len__", "Cast.__len__", defArgs (inClass (top 54) 26), defBody (inClass (top 54) 26), defScope (inClass (top 54) 26), []⟩
abbrev ix_raw_Cast___len__ : Nat := 19
def d_Cast_balls : DfM := ⟨fun K => (recAt "property" K "Cast" "balls"), "balls", "Cast.balls", defArgs (inClass (top 54) 10), defBody (inClass (top 54) 10), defScope (inClass (top 54) 10), []⟩
abbrev ix_Cast_balls : Nat := 20
def d_Cast_places : DfM := ⟨fun K => (recAt "property" K "Cast" "places"), "places", "Cast.places", defArgs (inClass (top 54) 9), defBody (inClass (top 54) 9), defScope (inClass (top 54) 9), []⟩
abbrev ix_Cast_places : Nat := 21
def d_l_faces : DfM := ⟨fun K => (ga K "_law_faces"), "_law_faces", "_law_faces", defArgs (top 70), defBody (top 70), defScope (top 70), []⟩
abbrev ix_l_faces : Nat := 22
def d_Cast___eq__ : DfM := ⟨fun K => (ma K (ga K "Cast") "__eq__"), "__eq__", "Cast.__eq__", defArgs (inClass (top 54) 23), defBody (inClass (top 54) 23), defScope (inClass (top 54) 23), []⟩
abbrev ix_Cast___eq__ : Nat := 23
def d_l_good : DfM := ⟨fun K => (ga K "_law_good"), "_law_good", "_law_good", defArgs (top 71), defBody (top 71), defScope (top 71), []⟩
abbrev ix_l_good : Nat := 24
def d_l_base : DfM := ⟨fun K => (ga K "_law_base"), "_law_base", "_law_base", defArgs (top 69), defBody (top 69), defScope (top 69), []⟩
abbrev ix_l_base : Nat := 25
def d_law : DfM := ⟨fun K => (ga K "law"), "law", "law", defArgs (top 72), defBody (top 72), defScope (top 72), []⟩
abbrev ix_law : Nat := 26
def fn : List DfM := [d_x_TooManyBalls, d_x_Collision, d_x_BadHeight, d_x_BadSize, d_l_begin, d_l_draw, d_l_throws, d_l_any_item, d_l_spoilt, d_l_draw_list, d_l_reason, d_l_whole, d_l_row, d_Cast___init__, d_l_outcome, d_l_is_list, d_rwk_Cast___iter__, d_Cast_heights, d_Cast_used, d_raw_Cast___len__, d_Cast_balls, d_Cast_places, d_l_faces, d_Cast___eq__, d_l_good, d_l_base, d_law]
def fa : List Fm := [.std (.free "int"),
  .std (.free "len"),
  .std (.free "abs"),
  .std (.free "range"),
  .std (.glo "_law_draw"),
  .std (.free "sum"),
  .std (.glo "_law_any_item"),
  .std (.glo "_law_throws"),
  .std (.glo "_law_spoilt"),
  .std (.free "isinstance"),
  .std (.free "bool"),
  .std (.glo "_law_whole"),
  .cval "Cast" "MOST_PLACES" 6,
  .std (.glo "Cast"),
  .xc "BadSize" ["size"],
  .std (.glo "BadSize"),
  .std (.int "MOST_HEIGHT" 96),
  .xc "BadHeight" ["place"],
  .std (.glo "BadHeight"),
  .xc "Collision" ["first", "second"],
  .std (.glo "Collision"),
  .cval "Cast" "MOST_BALLS" 16,
  .xc "TooManyBalls" ["amount"],
  .std (.glo "TooManyBalls"),
  .std (.free "tuple"),
  .std (.cls "Cast"),
  .std (.noat "Cast" "_heights"),
  .std (.mkr "Cast"),
  .std (.exm "BadSize" "BadSize" true),
  .std (.exm "TooManyBalls" "BadSize" false),
  .std (.exm "Collision" "BadSize" false),
  .std (.exm "BadHeight" "BadSize" false),
  .kit "BadSize" "BadHeight" false,
  .std (.glo "BadNumber"),
  .kit "BadSize" "BadNumber" false,
  .kit "BadSize" "Collision" false,
  .std (.glo "Full"),
  .kit "BadSize" "Full" false,
  .std (.glo "TooHeavy"),
  .kit "BadSize" "TooHeavy" false,
  .kit "BadSize" "TooManyBalls" false,
  .xr "BadSize",
  .std (.glo "_law_row"),
  .std (.exm "BadHeight" "BadHeight" true),
  .std (.exm "TooManyBalls" "BadHeight" false),
  .std (.exm "Collision" "BadHeight" false),
  .std (.exm "BadSize" "BadHeight" false),
  .std (.glo "BadCalendar"),
  .kit "BadHeight" "BadCalendar" false,
  .kit "BadHeight" "BadNumber" false,
  .kit "BadHeight" "BadSize" false,
  .kit "BadHeight" "Collision" false,
  .kit "BadHeight" "TooManyBalls" false,
  .xr "BadHeight",
  .std (.exm "Collision" "Collision" true),
  .std (.exm "TooManyBalls" "Collision" false),
  .std (.exm "BadHeight" "Collision" false),
  .std (.exm "BadSize" "Collision" false),
  .kit "Collision" "BadHeight" false,
  .kit "Collision" "BadSize" false,
  .kit "Collision" "TooManyBalls" false,
  .std (.glo "Unlike"),
  .kit "Collision" "Unlike" false,
  .xr "Collision",
  .std (.exm "TooManyBalls" "TooManyBalls" true),
  .std (.exm "Collision" "TooManyBalls" false),
  .std (.exm "BadHeight" "TooManyBalls" false),
  .std (.exm "BadSize" "TooManyBalls" false),
  .kit "TooManyBalls" "BadHeight" false,
  .kit "TooManyBalls" "BadNumber" false,
  .kit "TooManyBalls" "BadSize" false,
  .kit "TooManyBalls" "Collision" false,
  .kit "TooManyBalls" "Full" false,
  .kit "TooManyBalls" "TooHeavy" false,
  .xr "TooManyBalls",
  .std (.free "list"),
  .std (.free "iter"),
  .own "Cast" "__iter__",
  .std (.glo "_law_is_list"),
  .prop "Cast" "heights",
  .prop "Cast" "used",
  .own "Cast" "__len__",
  .prop "Cast" "balls",
  .prop "Cast" "places",
  .std (.glo "_law_faces"),
  .kiA "Cast",
  .insO "Cast",
  .kit "Cast" "Cast" true,
  .own "Cast" "__eq__",
  .std (.glo "RollError"),
  .std (.exm "TooManyBalls" "RollError" true),
  .std (.exm "Collision" "RollError" true),
  .std (.exm "BadHeight" "RollError" true),
  .std (.exm "BadSize" "RollError" true),
  .std (.free "ValueError"),
  .kiT "BadSize" "ValueError" true,
  .kiT "BadHeight" "ValueError" true,
  .kiT "Collision" "ValueError" true,
  .kiT "TooManyBalls" "ValueError" true,
  .std (.glo "_law_begin"),
  .std (.glo "_law_draw_list"),
  .std (.glo "_law_reason"),
  .std (.glo "_law_outcome"),
  .std (.glo "_law_good"),
  .std (.glo "_law_base"),
  .std (.glo "law")]
section
variable {P : Program} {w : World} {K : PySem.W.Frag} {mg : Str → Option Value} {base : Heap}
theorem scx_TooManyBalls : FnScope ["self", "amount"] ["self", "amount"] (defScope (inClass (top 6) 0)) := ⟨rfl, rfl, rfl, by decide +kernel, rfl, by decide +kernel, by decide +kernel⟩
theorem okx_TooManyBalls (Z : Fz fa fn K mg) : FnC P w K mg base 1 (ma K (ga K "TooManyBalls") "__init__") (spX ["amount"] K) := by
  obtain ⟨fd, F⟩ := Z.c.def_ ix_x_TooManyBalls (d := d_x_TooManyBalls) rfl
  exact ⟨⟨fd, ["self", "amount"], fn_ex1 F scx_TooManyBalls (.inl rfl) (.inl rfl), F.bindsN fun _ _ _ _ _ _ us hl => match us, hl with | [_, _], _ => rfl⟩, F.kp⟩
theorem scx_Collision : FnScope ["self", "first", "second"] ["self", "first", "second"] (defScope (inClass (top 5) 0)) := ⟨rfl, rfl, rfl, by decide +kernel, rfl, by decide +kernel, by decide +kernel⟩
theorem okx_Collision (Z : Fz fa fn K mg) : FnC P w K mg base 1 (ma K (ga K "Collision") "__init__") (spX ["first", "second"] K) := by
  obtain ⟨fd, F⟩ := Z.c.def_ ix_x_Collision (d := d_x_Collision) rfl
  exact ⟨⟨fd, ["self", "first", "second"], fn_ex2 F scx_Collision (.inl rfl) (.inl rfl) (.inl rfl), F.bindsN fun _ _ _ _ _ _ us hl => match us, hl with | [_, _, _], _ => rfl⟩, F.kp⟩
theorem scx_BadHeight : FnScope ["self", "place"] ["self", "place"] (defScope (inClass (top 4) 0)) := ⟨rfl, rfl, rfl, by decide +kernel, rfl, by decide +kernel, by decide +kernel⟩
theorem okx_BadHeight (Z : Fz fa fn K mg) : FnC P w K mg base 1 (ma K (ga K "BadHeight") "__init__") (spX ["place"] K) := by
  obtain ⟨fd, F⟩ := Z.c.def_ ix_x_BadHeight (d := d_x_BadHeight) rfl
  exact ⟨⟨fd, ["self", "place"], fn_ex1 F scx_BadHeight (.inl rfl) (.inl rfl), F.bindsN fun _ _ _ _ _ _ us hl => match us, hl with | [_, _], _ => rfl⟩, F.kp⟩
theorem scx_BadSize : FnScope ["self", "size"] ["self", "size"] (defScope (inClass (top 3) 0)) := ⟨rfl, rfl, rfl, by decide +kernel, rfl, by decide +kernel, by decide +kernel⟩
theorem okx_BadSize (Z : Fz fa fn K mg) : FnC P w K mg base 1 (ma K (ga K "BadSize") "__init__") (spX ["size"] K) := by
  obtain ⟨fd, F⟩ := Z.c.def_ ix_x_BadSize (d := d_x_BadSize) rfl
  exact ⟨⟨fd, ["self", "size"], fn_ex1 F scx_BadSize (.inl rfl) (.inl rfl), F.bindsN fun _ _ _ _ _ _ us hl => match us, hl with | [_, _], _ => rfl⟩, F.kp⟩
def s_l_begin : SemS := (sRet (fLst (aEx (fC (.int 0)) (aEx (fC (.int 0)) (aEx (fFrz (fLc true [1] (iSrc (fSl true true (fVar 0) fNoP (fPart (fC (.int 63)))) kItL) (gNm 1) bYes (fFrz (fOne (fVar 1) (kS1 gInt))))) aNil)))))
def fn_l_begin : Fn := runB [.bor] true 2 s_l_begin
theorem sc_l_begin : FnScope ["_law_script", "_law_cell"] ["_law_script"] (defScope (top 58)) := ⟨rfl, rfl, rfl, by decide +kernel, rfl, by decide +kernel, by decide +kernel⟩
theorem okf_l_begin (Z : Fz fa fn K mg) {fd : FuncData} (F : FunD K d_l_begin.name d_l_begin.qual d_l_begin.params d_l_begin.body d_l_begin.scope (d_l_begin.dvs K) [] (d_l_begin.ad K) fd) : FnOk P w K mg base (L2N.CX P w) 1 (ga K "_law_begin") fd ["_law_script"] (spF K [.bor] true fn_l_begin) := by
  have nd := sc_l_begin.nd
  refine fn_mv F sc_l_begin rfl fun cdv A outer s H E J hK hfx hr => ?_
  have tk := @tk_cx P w K mg base ["_law_script", "_law_cell"] "_law_begin" (defScope (top 58)) (ga K "_law_begin") cdv A outer s H E
  have po := @po_cx P w K mg base ["_law_script", "_law_cell"] "_law_begin" (defScope (top 58)) (ga K "_law_begin") cdv A outer s H E
  show XB _ J _ (defBody (top 58)) s_l_begin
  exact (xb_one (xs_ret (xe_lst (xa_ex xe_int (xa_ex xe_int (xa_ex (xe_frz (w_lc nd (own := [("_law_cell", 1)]) (ok := (⟨rfl, by decide +kernel, by decide +kernel, by decide +kernel, by decide +kernel⟩ : BlkOk ["_law_script", "_law_cell"] (defScope (top 58)) _ [("_law_cell", 1)])) (xi_list (xe_sl hK w_v xo_none (xo_some xe_int))) (fun _ _ _ _ _ => w_gn) (fun _ _ _ _ _ => xps_nil) (fun _ _ _ _ _ => (xe_frz (w_int (Z.f "int" (Z.c.fact 0 (f := .std (.free "int")) rfl)) w_v))))) xa_nil))))))
theorem ok_l_begin (Z : Fz fa fn K mg) : FnC P w K mg base 1 (ga K "_law_begin") (spF K [.bor] true fn_l_begin) := by
  obtain ⟨fd, F⟩ := Z.c.def_ ix_l_begin (d := d_l_begin) rfl
  exact ⟨⟨fd, ["_law_script"], okf_l_begin Z F, F.bindsN fun _ _ _ _ _ _ us hl => match us, hl with | [_], _ => rfl⟩, F.kp⟩
def s_l_draw : SemS := (sSeq (sAsg 2 (fTwo true (fVar 0) (fC (.int 2)) kIx))
    (sSeq (sWhile (fAnd (fTst (fTwo true (fTwo true (fVar 0) (fC (.int 0)) kIx) (fC (.int 0)) (kS gEq))) (fTst (fTwo true (fTwo true (fVar 0) (fC (.int 1)) kIx) (fOne (fVar 2) (kS1 gLen)) (kS (gB bLt))))) (sSeq (sSet 0 (fC (.int 0)) (fFrz (fOne (fOne (fTwo true (fVar 2) (fTwo true (fVar 0) (fC (.int 1)) kIx) kIx) (kS1 gInt)) (kS1 gAbs))))
    (sSet 0 (fC (.int 1)) (fFrz (fTwo true (fTwo true (fVar 0) (fC (.int 1)) kIx) (fC (.int 1)) kAdd)))))
    (sSeq (sAsg 3 (fFrz (fTwo true (fOne (fTwo true (fVar 0) (fC (.int 0)) kIx) (kS1 gInt)) (fVar 1) (kS (gIc cMod Int.fmod)))))
    (sSeq (sSet 0 (fC (.int 0)) (fFrz (fTwo true (fOne (fTwo true (fVar 0) (fC (.int 0)) kIx) (kS1 gInt)) (fVar 1) (kS (gIc cDiv Int.fdiv)))))
    (sRet (fVar 3))))))
def fn_l_draw : Fn := runB [.io, .bor] false 4 s_l_draw
theorem sc_l_draw : FnScope ["_law_state", "_law_limit", "_law_cells", "_law_value"] ["_law_state", "_law_limit"] (defScope (top 59)) := ⟨rfl, rfl, rfl, by decide +kernel, rfl, by decide +kernel, by decide +kernel⟩
theorem okf_l_draw (Z : Fz fa fn K mg) {fd : FuncData} (F : FunD K d_l_draw.name d_l_draw.qual d_l_draw.params d_l_draw.body d_l_draw.scope (d_l_draw.dvs K) [] (d_l_draw.ad K) fd) : FnOk P w K mg base (L2N.CX P w) 1 (ga K "_law_draw") fd ["_law_state", "_law_limit"] (spF K [.io, .bor] false fn_l_draw) := by
  have nd := sc_l_draw.nd
  refine fn_mv F sc_l_draw rfl fun cdv A outer s H E J hK hfx hr => ?_
  have tk := @tk_cx P w K mg base ["_law_state", "_law_limit", "_law_cells", "_law_value"] "_law_draw" (defScope (top 59)) (ga K "_law_draw") cdv A outer s H E
  have po := @po_cx P w K mg base ["_law_state", "_law_limit", "_law_cells", "_law_value"] "_law_draw" (defScope (top 59)) (ga K "_law_draw") cdv A outer s H E
  show XB _ J _ (defBody (top 59)) s_l_draw
  exact (xb_cons (w_asg nd (xe_idx w_v xe_int))
    (xb_cons (xs_while po (xw_and (t_eq hK (un64 hr) (xe_idx w_v xe_int) xe_int) (xw_and1 (t_lt (xe_idx w_v xe_int) (w_len (Z.f "len" (Z.c.fact 1 (f := .std (.free "len")) rfl)) w_v)))).xt (xb_cons (w_set xe_int (xe_frz (w_abs (Z.f "abs" (Z.c.fact 2 (f := .std (.free "abs")) rfl)) (w_int (Z.f "int" (Z.c.fact 0 (f := .std (.free "int")) rfl)) (xe_idx w_v (xe_idx w_v xe_int))))))
    (xb_one (w_set xe_int (xe_frz (xe_add (xe_idx w_v xe_int) xe_int))))))
    (xb_cons (w_asg nd (xe_frz (xe_mod (w_int (Z.f "int" (Z.c.fact 0 (f := .std (.free "int")) rfl)) (xe_idx w_v xe_int)) w_v)))
    (xb_cons (w_set xe_int (xe_frz (xe_fdiv (w_int (Z.f "int" (Z.c.fact 0 (f := .std (.free "int")) rfl)) (xe_idx w_v xe_int)) w_v)))
    (xb_one (xs_ret w_v))))))
theorem ok_l_draw (Z : Fz fa fn K mg) : FnC P w K mg base 1 (ga K "_law_draw") (spF K [.io, .bor] false fn_l_draw) := by
  obtain ⟨fd, F⟩ := Z.c.def_ ix_l_draw (d := d_l_draw) rfl
  exact ⟨⟨fd, ["_law_state", "_law_limit"], okf_l_draw Z F, F.bindsN fun _ _ _ _ _ _ us hl => match us, hl with | [_, _], _ => rfl⟩, F.kp⟩
def s_l_throws : SemS := (sSeq (sAsg 3 (fLc true [4] (iR1 (fVar 1)) (gNm 4) bYes (fVar 4)))
    (sSeq (sAsg 5 (fLst aNil))
    (sSeq (sFor (iR1 (fVar 1)) (gNm 4) (sSeq (sAsg 6 (fFrz (fPopAt 3 (fTwo false (fTwo true (fOne (fVar 3) (kS1 gLen)) (fC (.int 1)) (kS (gI fun i j => i - j))) (fCall [.io, .bor] false fn_l_draw (aSl 0 (aEx (fOne (fVar 3) (kS1 gLen)) aNil))) (kS (gI fun i j => i - j))))))
    (sExpr (fApp 5 (fFrz (fTwo true (fOne (fTwo true (fVar 6) (fVar 4) (kS (gI fun i j => i - j))) (kS1 gInt)) (fVar 1) (kS (gIc cMod Int.fmod))))))))
    (sSeq (sAsg 7 (fFrz (fTwo true (fOne (fVar 5) (kS1 gSum)) (fVar 1) (kS (gIc cDiv Int.fdiv)))))
    (sSeq (sFor (iR1 (fVar 1)) (gNm 4) (sSeq (sAsg 8 (fFrz (fTwo true (fC (.int 16)) (fVar 7) (kS (gI fun i j => i - j)))))
    (sSeq (sIf (fTru (fVar 2)) (sAsg 8 (fFrz (fTwo true (fTwo true (fC (.int 96)) (fTwo true (fVar 5) (fVar 4) kIx) (kS (gI fun i j => i - j))) (fVar 1) (kS (gIc cDiv Int.fdiv))))) sNil)
    (sSeq (sAsg 9 (fFrz (fCall [.io, .bor] false fn_l_draw (aSl 0 (aEx (fTwo true (fC (.int 1)) (fVar 8) kAdd) aNil)))))
    (sSeq (sSet 5 (fVar 4) (fFrz (fTwo true (fTwo true (fVar 5) (fVar 4) kIx) (fTwo true (fVar 1) (fVar 9) kMul) kAdd)))
    (sAsg 7 (fFrz (fTwo true (fVar 7) (fVar 9) kAdd))))))))
    (sRet (fMv 5)))))))
def fn_l_throws : Fn := runB [.io, .bor, .bor] true 10 s_l_throws
theorem sc_l_throws : FnScope ["_law_state", "_law_places", "_law_great", "_law_left", "_law_place", "_law_heights", "_law_target", "_law_balls", "_law_room", "_law_more"] ["_law_state", "_law_places", "_law_great"] (defScope (top 62)) := ⟨rfl, rfl, rfl, by decide +kernel, rfl, by decide +kernel, by decide +kernel⟩
theorem okf_l_throws (Z : Fz fa fn K mg) {fd : FuncData} (F : FunD K d_l_throws.name d_l_throws.qual d_l_throws.params d_l_throws.body d_l_throws.scope (d_l_throws.dvs K) [] (d_l_throws.ad K) fd) : FnOk P w K mg base (L2N.CX P w) 2 (ga K "_law_throws") fd ["_law_state", "_law_places", "_law_great"] (spF K [.io, .bor, .bor] true fn_l_throws) := by
  have nd := sc_l_throws.nd
  refine fn_mv F sc_l_throws rfl fun cdv A outer s H E J hK hfx hr => ?_
  have tk := @tk_cx P w K mg base ["_law_state", "_law_places", "_law_great", "_law_left", "_law_place", "_law_heights", "_law_target", "_law_balls", "_law_room", "_law_more"] "_law_throws" (defScope (top 62)) (ga K "_law_throws") cdv A outer s H E
  have po := @po_cx P w K mg base ["_law_state", "_law_places", "_law_great", "_law_left", "_law_place", "_law_heights", "_law_target", "_law_balls", "_law_room", "_law_more"] "_law_throws" (defScope (top 62)) (ga K "_law_throws") cdv A outer s H E
  show XB _ J _ (defBody (top 62)) s_l_throws
  exact (xb_cons (w_asgLc nd (own := [("_law_place", 4)]) (ok := (⟨rfl, by decide +kernel, by decide +kernel, by decide +kernel, by decide +kernel⟩ : BlkOk ["_law_state", "_law_places", "_law_great", "_law_left", "_law_place", "_law_heights", "_law_target", "_law_balls", "_law_room", "_law_more"] (defScope (top 62)) _ [("_law_place", 4)])) (w_r1 (Z.f "range" (Z.c.fact 3 (f := .std (.free "range")) rfl)) w_v) (fun _ _ _ _ _ => w_gn) (fun _ _ _ _ _ => xps_nil) (fun _ _ _ _ _ => w_v))
    (xb_cons (w_asg nd (xe_lst xa_nil))
    (xb_cons (w_for po (w_r1 (Z.f "range" (Z.c.fact 3 (f := .std (.free "range")) rfl)) w_v) w_gn (xb_cons (w_asg nd (xe_frz (w_popAt (xe_sub (xe_sub (w_len (Z.f "len" (Z.c.fact 1 (f := .std (.free "len")) rfl)) w_v) xe_int) (w_call (ok_l_draw Z) (Z.g "_law_draw" (Z.c.fact 4 (f := .std (.glo "_law_draw")) rfl)) hr tk hK (w_sl (xa_ex (w_len (Z.f "len" (Z.c.fact 1 (f := .std (.free "len")) rfl)) w_v) xa_nil)))))))
    (xb_one (xs_expr (w_app (xe_frz (xe_mod (w_int (Z.f "int" (Z.c.fact 0 (f := .std (.free "int")) rfl)) (xe_sub w_v w_v)) w_v)))))))
    (xb_cons (w_asg nd (xe_frz (xe_fdiv (w_sum (Z.f "sum" (Z.c.fact 5 (f := .std (.free "sum")) rfl)) w_v) w_v)))
    (xb_cons (w_for po (w_r1 (Z.f "range" (Z.c.fact 3 (f := .std (.free "range")) rfl)) w_v) w_gn (xb_cons (w_asg nd (xe_frz (xe_sub xe_int w_v)))
    (xb_cons (xs_if (xt_tru hK w_v) (xb_one (w_asg nd (xe_frz (xe_fdiv (xe_sub xe_int (xe_idx w_v w_v)) w_v)))) xb_nil)
    (xb_cons (w_asg nd (xe_frz (w_call (ok_l_draw Z) (Z.g "_law_draw" (Z.c.fact 4 (f := .std (.glo "_law_draw")) rfl)) hr tk hK (w_sl (xa_ex (xe_add xe_int w_v) xa_nil)))))
    (xb_cons (w_set w_v (xe_frz (xe_add (xe_idx w_v w_v) (xe_mul w_v w_v))))
    (xb_one (w_asg nd (xe_frz (xe_add w_v w_v)))))))))
    (xb_one (xs_ret w_mv)))))))
theorem ok_l_throws (Z : Fz fa fn K mg) : FnC P w K mg base 2 (ga K "_law_throws") (spF K [.io, .bor, .bor] true fn_l_throws) := by
  obtain ⟨fd, F⟩ := Z.c.def_ ix_l_throws (d := d_l_throws) rfl
  exact ⟨⟨fd, ["_law_state", "_law_places", "_law_great"], okf_l_throws Z F, F.bindsN fun _ _ _ _ _ _ us hl => match us, hl with | [_, _, _], _ => rfl⟩, F.kp⟩
def s_l_any_item : SemS := (sSeq (sIf (fTst (fTwo true (fCall [.io, .bor] false fn_l_draw (aSl 0 (aEx (fC (.int 8)) aNil))) (fC (.int 7)) (kS gNe))) (sRet (fFrz (fCall [.io, .bor] false fn_l_draw (aSl 0 (aEx (fC (.int 10)) aNil))))) sNil)
    (sSeq (sAsg 1 (fFrz (fCall [.io, .bor] false fn_l_draw (aSl 0 (aEx (fC (.int 9)) aNil)))))
    (sSeq (sIf (fTst (fTwo true (fVar 1) (fC (.int 8)) (kS gEq))) (sRet (fFrz (fTwo true (fCall [.io, .bor] false fn_l_draw (aSl 0 (aEx (fC (.int 2001)) aNil))) (fC (.int 1000)) (kS (gI fun i j => i - j))))) sNil)
    (sRet (fTwo true (fLst (aEx (fOne (fC (.int 1)) (kS1 gNeg)) (aEx (fC (.int 97)) (aEx (fC (.int 96)) (aEx (fOne (fC (.int 3)) (kS1 gNeg)) (aEx (fC (.int 33)) (aEx (fC (.int 99)) (aEx (fOne (fC (.int 1000)) (kS1 gNeg)) (aEx (fC (.int 1000)) aNil))))))))) (fVar 1) kIx)))))
def fn_l_any_item : Fn := runB [.io] false 2 s_l_any_item
theorem sc_l_any_item : FnScope ["_law_state", "_law_pick"] ["_law_state"] (defScope (top 63)) := ⟨rfl, rfl, rfl, by decide +kernel, rfl, by decide +kernel, by decide +kernel⟩
theorem okf_l_any_item (Z : Fz fa fn K mg) {fd : FuncData} (F : FunD K d_l_any_item.name d_l_any_item.qual d_l_any_item.params d_l_any_item.body d_l_any_item.scope (d_l_any_item.dvs K) [] (d_l_any_item.ad K) fd) : FnOk P w K mg base (L2N.CX P w) 2 (ga K "_law_any_item") fd ["_law_state"] (spF K [.io] false fn_l_any_item) := by
  have nd := sc_l_any_item.nd
  refine fn_mv F sc_l_any_item rfl fun cdv A outer s H E J hK hfx hr => ?_
  have tk := @tk_cx P w K mg base ["_law_state", "_law_pick"] "_law_any_item" (defScope (top 63)) (ga K "_law_any_item") cdv A outer s H E
  have po := @po_cx P w K mg base ["_law_state", "_law_pick"] "_law_any_item" (defScope (top 63)) (ga K "_law_any_item") cdv A outer s H E
  show XB _ J _ (defBody (top 63)) s_l_any_item
  exact (xb_cons (xs_if (t_ne hK (un64 hr) (w_call (ok_l_draw Z) (Z.g "_law_draw" (Z.c.fact 4 (f := .std (.glo "_law_draw")) rfl)) hr tk hK (w_sl (xa_ex xe_int xa_nil))) xe_int) (xb_one (xs_ret (xe_frz (w_call (ok_l_draw Z) (Z.g "_law_draw" (Z.c.fact 4 (f := .std (.glo "_law_draw")) rfl)) hr tk hK (w_sl (xa_ex xe_int xa_nil)))))) xb_nil)
    (xb_cons (w_asg nd (xe_frz (w_call (ok_l_draw Z) (Z.g "_law_draw" (Z.c.fact 4 (f := .std (.glo "_law_draw")) rfl)) hr tk hK (w_sl (xa_ex xe_int xa_nil)))))
    (xb_cons (xs_if (t_eq hK (un64 hr) w_v xe_int) (xb_one (xs_ret (xe_frz (xe_sub (w_call (ok_l_draw Z) (Z.g "_law_draw" (Z.c.fact 4 (f := .std (.glo "_law_draw")) rfl)) hr tk hK (w_sl (xa_ex xe_int xa_nil))) xe_int)))) xb_nil)
    (xb_one (xs_ret (xe_idx (xe_lst (xa_ex (w_neg xe_int) (xa_ex xe_int (xa_ex xe_int (xa_ex (w_neg xe_int) (xa_ex xe_int (xa_ex xe_int (xa_ex (w_neg xe_int) (xa_ex xe_int xa_nil))))))))) w_v))))))
theorem ok_l_any_item (Z : Fz fa fn K mg) : FnC P w K mg base 2 (ga K "_law_any_item") (spF K [.io] false fn_l_any_item) := by
  obtain ⟨fd, F⟩ := Z.c.def_ ix_l_any_item (d := d_l_any_item) rfl
  exact ⟨⟨fd, ["_law_state"], okf_l_any_item Z F, F.bindsN fun _ _ _ _ _ _ us hl => match us, hl with | [_], _ => rfl⟩, F.kp⟩
def s_l_spoilt : SemS := (sSeq (sAsg 2 (fFrz (fCall [.io, .bor] false fn_l_draw (aSl 0 (aEx (fC (.int 14)) aNil)))))
    (sSeq (sAsg 3 (fFrz (fCall [.io, .bor] false fn_l_draw (aSl 0 (aEx (fOne (fVar 1) (kS1 gLen)) aNil)))))
    (sSeq (sIf (fTst (fTwo true (fVar 2) (fC (.int 1)) (kS gEq))) (sRet (fTwo true (fSl true true (fVar 1) fNoP (fPart (fVar 3))) (fSl true true (fVar 1) (fPart (fTwo true (fVar 3) (fC (.int 1)) kAdd)) fNoP) kAdd)) sNil)
    (sSeq (sIf (fTst (fTwo true (fVar 2) (fC (.int 2)) (kS gEq))) (sRet (fTwo true (fTwo false (fSl true true (fVar 1) fNoP (fPart (fVar 3))) (fLst (aEx (fFrz (fCall [.io] false fn_l_any_item (aSl 0 aNil))) aNil)) kAdd) (fSl true true (fVar 1) (fPart (fVar 3)) fNoP) kAdd)) sNil)
    (sSeq (sAsg 4 (fTwo true (fVar 1) (fVar 3) kIx))
    (sSeq (sIf (fTst (fTwo true (fVar 2) (fC (.int 3)) (kS gEq))) (sAsg 4 (fFrz (fCall [.io] false fn_l_any_item (aSl 0 aNil)))) sNil)
    (sSeq (sIf (fTst (fChain bLe bLe (fC (.int 4)) (fVar 2) (fC (.int 7)))) (sAsg 4 (fFrz (fTwo true (fVar 4) (fTwo true (fLst (aEx (fC (.int 1)) (aEx (fOne (fC (.int 1)) (kS1 gNeg)) (aEx (fFrz (fOne (fVar 1) (kS1 gLen))) (aEx (fOne (fOne (fVar 1) (kS1 gLen)) (kS1 gNeg)) aNil))))) (fTwo true (fVar 2) (fC (.int 4)) (kS (gI fun i j => i - j))) kIx) kAdd))) sNil)
    (sRet (fTwo true (fTwo true (fSl true true (fVar 1) fNoP (fPart (fVar 3))) (fLst (aEx (fVar 4) aNil)) kAdd) (fSl true true (fVar 1) (fPart (fTwo true (fVar 3) (fC (.int 1)) kAdd)) fNoP) kAdd)))))))))
def fn_l_spoilt : Fn := runB [.io, .bor] true 5 s_l_spoilt
theorem sc_l_spoilt : FnScope ["_law_state", "_law_heights", "_law_kind", "_law_spot", "_law_item"] ["_law_state", "_law_heights"] (defScope (top 64)) := ⟨rfl, rfl, rfl, by decide +kernel, rfl, by decide +kernel, by decide +kernel⟩
theorem okf_l_spoilt (Z : Fz fa fn K mg) {fd : FuncData} (F : FunD K d_l_spoilt.name d_l_spoilt.qual d_l_spoilt.params d_l_spoilt.body d_l_spoilt.scope (d_l_spoilt.dvs K) [] (d_l_spoilt.ad K) fd) : FnOk P w K mg base (L2N.CX P w) 3 (ga K "_law_spoilt") fd ["_law_state", "_law_heights"] (spF K [.io, .bor] true fn_l_spoilt) := by
  have nd := sc_l_spoilt.nd
  refine fn_mv F sc_l_spoilt rfl fun cdv A outer s H E J hK hfx hr => ?_
  have tk := @tk_cx P w K mg base ["_law_state", "_law_heights", "_law_kind", "_law_spot", "_law_item"] "_law_spoilt" (defScope (top 64)) (ga K "_law_spoilt") cdv A outer s H E
  have po := @po_cx P w K mg base ["_law_state", "_law_heights", "_law_kind", "_law_spot", "_law_item"] "_law_spoilt" (defScope (top 64)) (ga K "_law_spoilt") cdv A outer s H E
  show XB _ J _ (defBody (top 64)) s_l_spoilt
  exact (xb_cons (w_asg nd (xe_frz (w_call (ok_l_draw Z) (Z.g "_law_draw" (Z.c.fact 4 (f := .std (.glo "_law_draw")) rfl)) hr tk hK (w_sl (xa_ex xe_int xa_nil)))))
    (xb_cons (w_asg nd (xe_frz (w_call (ok_l_draw Z) (Z.g "_law_draw" (Z.c.fact 4 (f := .std (.glo "_law_draw")) rfl)) hr tk hK (w_sl (xa_ex (w_len (Z.f "len" (Z.c.fact 1 (f := .std (.free "len")) rfl)) w_v) xa_nil)))))
    (xb_cons (xs_if (t_eq hK (un64 hr) w_v xe_int) (xb_one (xs_ret (xe_add (xe_sl hK w_v xo_none (xo_some w_v)) (xe_sl hK w_v (xo_some (xe_add w_v xe_int)) xo_none)))) xb_nil)
    (xb_cons (xs_if (t_eq hK (un64 hr) w_v xe_int) (xb_one (xs_ret (xe_add (xe_add (xe_sl hK w_v xo_none (xo_some w_v)) (xe_lst (xa_ex (xe_frz (w_call (ok_l_any_item Z) (Z.g "_law_any_item" (Z.c.fact 6 (f := .std (.glo "_law_any_item")) rfl)) hr tk hK (w_sl xa_nil))) xa_nil))) (xe_sl hK w_v (xo_some w_v) xo_none)))) xb_nil)
    (xb_cons (w_asg nd (xe_idx w_v w_v))
    (xb_cons (xs_if (t_eq hK (un64 hr) w_v xe_int) (xb_one (w_asg nd (xe_frz (w_call (ok_l_any_item Z) (Z.g "_law_any_item" (Z.c.fact 6 (f := .std (.glo "_law_any_item")) rfl)) hr tk hK (w_sl xa_nil))))) xb_nil)
    (xb_cons (xs_if (xt_chain op_le op_le xe_int w_v xe_int) (xb_one (w_asg nd (xe_frz (xe_add w_v (xe_idx (xe_lst (xa_ex xe_int (xa_ex (w_neg xe_int) (xa_ex (xe_frz (w_len (Z.f "len" (Z.c.fact 1 (f := .std (.free "len")) rfl)) w_v)) (xa_ex (w_neg (w_len (Z.f "len" (Z.c.fact 1 (f := .std (.free "len")) rfl)) w_v)) xa_nil))))) (xe_sub w_v xe_int)))))) xb_nil)
    (xb_one (xs_ret (xe_add (xe_add (xe_sl hK w_v xo_none (xo_some w_v)) (xe_lst (xa_ex w_v xa_nil))) (xe_sl hK w_v (xo_some (xe_add w_v xe_int)) xo_none)))))))))))
theorem ok_l_spoilt (Z : Fz fa fn K mg) : FnC P w K mg base 3 (ga K "_law_spoilt") (spF K [.io, .bor] true fn_l_spoilt) := by
  obtain ⟨fd, F⟩ := Z.c.def_ ix_l_spoilt (d := d_l_spoilt) rfl
  exact ⟨⟨fd, ["_law_state", "_law_heights"], okf_l_spoilt Z F, F.bindsN fun _ _ _ _ _ _ us hl => match us, hl with | [_, _], _ => rfl⟩, F.kp⟩
def s_l_draw_list : SemS := (sSeq (sAsg 1 (fFrz (fCall [.io, .bor] false fn_l_draw (aSl 0 (aEx (fC (.int 5)) aNil)))))
    (sSeq (sIf (fTst (fTwo true (fVar 1) (fC (.int 4)) (kS gEq))) (sSeq (sAsg 2 (fTwo false (fLst (aEx (fC (.int 3)) (aEx (fC (.int 2)) (aEx (fC (.int 4)) (aEx (fC (.int 1)) (aEx (fC (.int 0)) (aEx (fC (.int 7)) (aEx (fC (.int 5)) (aEx (fC (.int 6)) (aEx (fC (.int 8)) (aEx (fC (.int 40)) aNil))))))))))) (fCall [.io, .bor] false fn_l_draw (aSl 0 (aEx (fC (.int 10)) aNil))) kIx))
    (sRet (fLc false [3] (iR1 (fVar 2)) (gNm 3) bYes (fFrz (fCall [.io] false fn_l_any_item (aSl 0 aNil)))))) sNil)
    (sSeq (sAsg 4 (fTwo false (fLst (aEx (fC (.int 3)) (aEx (fC (.int 2)) (aEx (fC (.int 4)) (aEx (fC (.int 1)) (aEx (fC (.int 5)) (aEx (fC (.int 6)) aNil))))))) (fCall [.io, .bor] false fn_l_draw (aSl 0 (aEx (fC (.int 6)) aNil))) kIx))
    (sSeq (sAsg 5 (fCall [.io, .bor, .bor] true fn_l_throws (aSl 0 (aSl 4 (aEx (fTwo true (fVar 1) (fC (.int 3)) (kS gEq)) aNil)))))
    (sSeq (sIf (fTst (fTwo true (fVar 1) (fC (.int 2)) (kS gEq))) (sSeq (sAsg 6 (fFrz (fCall [.io, .bor] false fn_l_draw (aSl 0 (aSl 4 aNil)))))
    (sSeq (sAsg 7 (fFrz (fTwo true (fC (.int 16)) (fTwo true (fOne (fVar 5) (kS1 gSum)) (fVar 4) (kS (gIc cDiv Int.fdiv))) (kS (gI fun i j => i - j)))))
    (sSet 5 (fVar 6) (fFrz (fTwo false (fTwo true (fVar 5) (fVar 6) kIx) (fTwo false (fVar 4) (fTwo false (fVar 7) (fCall [.io, .bor] false fn_l_draw (aSl 0 (aEx (fC (.int 2)) aNil))) kAdd) kMul) kAdd))))) sNil)
    (sRet (fCall [.io, .bor] true fn_l_spoilt (aSl 0 (aSl 5 aNil)))))))))
def fn_l_draw_list : Fn := runB [.io] true 8 s_l_draw_list
theorem sc_l_draw_list : FnScope ["_law_state", "_law_kind", "_law_size", "_law_place", "_law_places", "_law_heights", "_law_spot", "_law_missing"] ["_law_state"] (defScope (top 65)) := ⟨rfl, rfl, rfl, by decide +kernel, rfl, by decide +kernel, by decide +kernel⟩
theorem okf_l_draw_list (Z : Fz fa fn K mg) {fd : FuncData} (F : FunD K d_l_draw_list.name d_l_draw_list.qual d_l_draw_list.params d_l_draw_list.body d_l_draw_list.scope (d_l_draw_list.dvs K) [] (d_l_draw_list.ad K) fd) : FnOk P w K mg base (L2N.CX P w) 4 (ga K "_law_draw_list") fd ["_law_state"] (spF K [.io] true fn_l_draw_list) := by
  have nd := sc_l_draw_list.nd
  refine fn_mv F sc_l_draw_list rfl fun cdv A outer s H E J hK hfx hr => ?_
  have tk := @tk_cx P w K mg base ["_law_state", "_law_kind", "_law_size", "_law_place", "_law_places", "_law_heights", "_law_spot", "_law_missing"] "_law_draw_list" (defScope (top 65)) (ga K "_law_draw_list") cdv A outer s H E
  have po := @po_cx P w K mg base ["_law_state", "_law_kind", "_law_size", "_law_place", "_law_places", "_law_heights", "_law_spot", "_law_missing"] "_law_draw_list" (defScope (top 65)) (ga K "_law_draw_list") cdv A outer s H E
  show XB _ J _ (defBody (top 65)) s_l_draw_list
  exact (xb_cons (w_asg nd (xe_frz (w_call (ok_l_draw Z) (Z.g "_law_draw" (Z.c.fact 4 (f := .std (.glo "_law_draw")) rfl)) hr tk hK (w_sl (xa_ex xe_int xa_nil)))))
    (xb_cons (xs_if (t_eq hK (un64 hr) w_v xe_int) (xb_cons (w_asg nd (xe_idx (xe_lst (xa_ex xe_int (xa_ex xe_int (xa_ex xe_int (xa_ex xe_int (xa_ex xe_int (xa_ex xe_int (xa_ex xe_int (xa_ex xe_int (xa_ex xe_int (xa_ex xe_int xa_nil))))))))))) (w_call (ok_l_draw Z) (Z.g "_law_draw" (Z.c.fact 4 (f := .std (.glo "_law_draw")) rfl)) hr tk hK (w_sl (xa_ex xe_int xa_nil)))))
    (xb_one (xs_ret (w_lc nd (own := [("_law_place", 3)]) (ok := (⟨rfl, by decide +kernel, by decide +kernel, by decide +kernel, by decide +kernel⟩ : BlkOk ["_law_state", "_law_kind", "_law_size", "_law_place", "_law_places", "_law_heights", "_law_spot", "_law_missing"] (defScope (top 65)) _ [("_law_place", 3)])) (w_r1 (Z.f "range" (Z.c.fact 3 (f := .std (.free "range")) rfl)) w_v) (fun _ _ _ _ _ => w_gn) (fun _ _ _ _ _ => xps_nil) (fun _ _ _ _ _ => (xe_frz (w_call (ok_l_any_item Z) (Z.g "_law_any_item" (Z.c.fact 6 (f := .std (.glo "_law_any_item")) rfl)) hr takes_none5 hK (w_sl xa_nil)))))))) xb_nil)
    (xb_cons (w_asg nd (xe_idx (xe_lst (xa_ex xe_int (xa_ex xe_int (xa_ex xe_int (xa_ex xe_int (xa_ex xe_int (xa_ex xe_int xa_nil))))))) (w_call (ok_l_draw Z) (Z.g "_law_draw" (Z.c.fact 4 (f := .std (.glo "_law_draw")) rfl)) hr tk hK (w_sl (xa_ex xe_int xa_nil)))))
    (xb_cons (w_asg nd (w_call (ok_l_throws Z) (Z.g "_law_throws" (Z.c.fact 7 (f := .std (.glo "_law_throws")) rfl)) hr tk hK (w_sl (w_sl (xa_ex (w_eq hK (un64 hr) w_v xe_int) xa_nil)))))
    (xb_cons (xs_if (t_eq hK (un64 hr) w_v xe_int) (xb_cons (w_asg nd (xe_frz (w_call (ok_l_draw Z) (Z.g "_law_draw" (Z.c.fact 4 (f := .std (.glo "_law_draw")) rfl)) hr tk hK (w_sl (w_sl xa_nil)))))
    (xb_cons (w_asg nd (xe_frz (xe_sub xe_int (xe_fdiv (w_sum (Z.f "sum" (Z.c.fact 5 (f := .std (.free "sum")) rfl)) w_v) w_v))))
    (xb_one (w_set w_v (xe_frz (xe_add (xe_idx w_v w_v) (xe_mul w_v (xe_add w_v (w_call (ok_l_draw Z) (Z.g "_law_draw" (Z.c.fact 4 (f := .std (.glo "_law_draw")) rfl)) hr tk hK (w_sl (xa_ex xe_int xa_nil))))))))))) xb_nil)
    (xb_one (xs_ret (w_call (ok_l_spoilt Z) (Z.g "_law_spoilt" (Z.c.fact 8 (f := .std (.glo "_law_spoilt")) rfl)) hr tk hK (w_sl (w_sl xa_nil))))))))))
theorem ok_l_draw_list (Z : Fz fa fn K mg) : FnC P w K mg base 4 (ga K "_law_draw_list") (spF K [.io] true fn_l_draw_list) := by
  obtain ⟨fd, F⟩ := Z.c.def_ ix_l_draw_list (d := d_l_draw_list) rfl
  exact ⟨⟨fd, ["_law_state"], okf_l_draw_list Z F, F.bindsN fun _ _ _ _ _ _ us hl => match us, hl with | [_], _ => rfl⟩, F.kp⟩
def s_l_reason : SemS := (sSeq (sAsg 1 (fFrz (fOne (fVar 0) (kS1 gLen))))
    (sSeq (sIf (fOr (fTst (fTwo true (fVar 1) (fC (.int 1)) (kS (gB bLt)))) (fTst (fTwo true (fVar 1) (fC (.int 6)) (kS (gB bGt))))) (sRet (fLst (aEx (fC (.str "size")) (aEx (fVar 1) aNil)))) sNil)
    (sSeq (sFor (iR1 (fVar 1)) (gNm 2) (sIf (fOr (fTst (fTwo true (fTwo true (fVar 0) (fVar 2) kIx) (fC (.int 0)) (kS (gB bLt)))) (fTst (fTwo true (fTwo true (fVar 0) (fVar 2) kIx) (fC (.int 96)) (kS (gB bGt))))) (sRet (fLst (aEx (fC (.str "height")) (aEx (fVar 2) aNil)))) sNil))
    (sSeq (sFor (iR1 (fVar 1)) (gNm 3) (sFor (iR1 (fVar 3)) (gNm 4) (sSeq (sAsg 5 (fFrz (fTwo true (fTwo true (fTwo true (fTwo true (fVar 0) (fVar 3) kIx) (fVar 3) kAdd) (fTwo true (fVar 0) (fVar 4) kIx) (kS (gI fun i j => i - j))) (fVar 4) (kS (gI fun i j => i - j)))))
    (sIf (fTst (fTwo true (fTwo true (fOne (fVar 5) (kS1 gInt)) (fVar 1) (kS (gIc cMod Int.fmod))) (fC (.int 0)) (kS gEq))) (sRet (fLst (aEx (fC (.str "collision")) (aEx (fVar 4) (aEx (fVar 3) aNil))))) sNil))))
    (sSeq (sAsg 6 (fFrz (fTwo true (fOne (fVar 0) (kS1 gSum)) (fVar 1) (kS (gIc cDiv Int.fdiv)))))
    (sSeq (sIf (fTst (fTwo true (fVar 6) (fC (.int 16)) (kS (gB bGt)))) (sRet (fLst (aEx (fC (.str "balls")) (aEx (fVar 6) aNil)))) sNil)
    (sRet (fLst aNil))))))))
def fn_l_reason : Fn := runB [.bor] true 7 s_l_reason
theorem sc_l_reason : FnScope ["_law_heights", "_law_size", "_law_place", "_law_second", "_law_first", "_law_apart", "_law_balls"] ["_law_heights"] (defScope (top 66)) := ⟨rfl, rfl, rfl, by decide +kernel, rfl, by decide +kernel, by decide +kernel⟩
theorem okf_l_reason (Z : Fz fa fn K mg) {fd : FuncData} (F : FunD K d_l_reason.name d_l_reason.qual d_l_reason.params d_l_reason.body d_l_reason.scope (d_l_reason.dvs K) [] (d_l_reason.ad K) fd) : FnOk P w K mg base (L2N.CX P w) 1 (ga K "_law_reason") fd ["_law_heights"] (spF K [.bor] true fn_l_reason) := by
  have nd := sc_l_reason.nd
  refine fn_mv F sc_l_reason rfl fun cdv A outer s H E J hK hfx hr => ?_
  have tk := @tk_cx P w K mg base ["_law_heights", "_law_size", "_law_place", "_law_second", "_law_first", "_law_apart", "_law_balls"] "_law_reason" (defScope (top 66)) (ga K "_law_reason") cdv A outer s H E
  have po := @po_cx P w K mg base ["_law_heights", "_law_size", "_law_place", "_law_second", "_law_first", "_law_apart", "_law_balls"] "_law_reason" (defScope (top 66)) (ga K "_law_reason") cdv A outer s H E
  show XB _ J _ (defBody (top 66)) s_l_reason
  exact (xb_cons (w_asg nd (xe_frz (w_len (Z.f "len" (Z.c.fact 1 (f := .std (.free "len")) rfl)) w_v)))
    (xb_cons (xs_if (xw_or (t_lt w_v xe_int) (xw_or1 (t_gt w_v xe_int))).xt (xb_one (xs_ret (xe_lst (xa_ex xe_str (xa_ex w_v xa_nil))))) xb_nil)
    (xb_cons (w_for po (w_r1 (Z.f "range" (Z.c.fact 3 (f := .std (.free "range")) rfl)) w_v) w_gn (xb_one (xs_if (xw_or (t_lt (xe_idx w_v w_v) xe_int) (xw_or1 (t_gt (xe_idx w_v w_v) xe_int))).xt (xb_one (xs_ret (xe_lst (xa_ex xe_str (xa_ex w_v xa_nil))))) xb_nil)))
    (xb_cons (w_for po (w_r1 (Z.f "range" (Z.c.fact 3 (f := .std (.free "range")) rfl)) w_v) w_gn (xb_one (w_for po (w_r1 (Z.f "range" (Z.c.fact 3 (f := .std (.free "range")) rfl)) w_v) w_gn (xb_cons (w_asg nd (xe_frz (xe_sub (xe_sub (xe_add (xe_idx w_v w_v) w_v) (xe_idx w_v w_v)) w_v)))
    (xb_one (xs_if (t_eq hK (un64 hr) (xe_mod (w_int (Z.f "int" (Z.c.fact 0 (f := .std (.free "int")) rfl)) w_v) w_v) xe_int) (xb_one (xs_ret (xe_lst (xa_ex xe_str (xa_ex w_v (xa_ex w_v xa_nil)))))) xb_nil))))))
    (xb_cons (w_asg nd (xe_frz (xe_fdiv (w_sum (Z.f "sum" (Z.c.fact 5 (f := .std (.free "sum")) rfl)) w_v) w_v)))
    (xb_cons (xs_if (t_gt w_v xe_int) (xb_one (xs_ret (xe_lst (xa_ex xe_str (xa_ex w_v xa_nil))))) xb_nil)
    (xb_one (xs_ret (xe_lst xa_nil)))))))))
theorem ok_l_reason (Z : Fz fa fn K mg) : FnC P w K mg base 1 (ga K "_law_reason") (spF K [.bor] true fn_l_reason) := by
  obtain ⟨fd, F⟩ := Z.c.def_ ix_l_reason (d := d_l_reason) rfl
  exact ⟨⟨fd, ["_law_heights"], okf_l_reason Z F, F.bindsN fun _ _ _ _ _ _ us hl => match us, hl with | [_], _ => rfl⟩, F.kp⟩
def s_l_whole : SemS := (sRet (fAndV (fOne (fVar 0) (kIsi isInt)) (fNotV (fOne (fVar 0) (kIsi isBl)))))
def fn_l_whole : Fn := runB [.bor] true 1 s_l_whole
theorem sc_l_whole : FnScope ["_law_value"] ["_law_value"] (defScope (top 60)) := ⟨rfl, rfl, rfl, by decide +kernel, rfl, by decide +kernel, by decide +kernel⟩
theorem okf_l_whole (Z : Fz fa fn K mg) {fd : FuncData} (F : FunD K d_l_whole.name d_l_whole.qual d_l_whole.params d_l_whole.body d_l_whole.scope (d_l_whole.dvs K) [] (d_l_whole.ad K) fd) : FnOk P w K mg base (L2N.CX P w) 1 (ga K "_law_whole") fd ["_law_value"] (spF K [.bor] true fn_l_whole) := by
  have nd := sc_l_whole.nd
  refine fn_mv F sc_l_whole rfl fun cdv A outer s H E J hK hfx hr => ?_
  have tk := @tk_cx P w K mg base ["_law_value"] "_law_whole" (defScope (top 60)) (ga K "_law_whole") cdv A outer s H E
  have po := @po_cx P w K mg base ["_law_value"] "_law_whole" (defScope (top 60)) (ga K "_law_whole") cdv A outer s H E
  show XB _ J _ (defBody (top 60)) s_l_whole
  exact (xb_one (xs_ret (xe_and (w_isi hK isOk_int (Z.f "isinstance" (Z.c.fact 9 (f := .std (.free "isinstance")) rfl)) (w_ty (Z.f "int" (Z.c.fact 0 (f := .std (.free "int")) rfl))) w_v) (xe_one1 (xe_not (w_isi hK isOk_bl (Z.f "isinstance" (Z.c.fact 9 (f := .std (.free "isinstance")) rfl)) (w_ty (Z.f "bool" (Z.c.fact 10 (f := .std (.free "bool")) rfl))) w_v))))))
theorem ok_l_whole (Z : Fz fa fn K mg) : FnC P w K mg base 1 (ga K "_law_whole") (spF K [.bor] true fn_l_whole) := by
  obtain ⟨fd, F⟩ := Z.c.def_ ix_l_whole (d := d_l_whole) rfl
  exact ⟨⟨fd, ["_law_value"], okf_l_whole Z F, F.bindsN fun _ _ _ _ _ _ us hl => match us, hl with | [_], _ => rfl⟩, F.kp⟩
theorem okfh_l_whole (Z : Fz fa fn K mg) {fd : FuncData} (F : FunD K d_l_whole.name d_l_whole.qual d_l_whole.params d_l_whole.body d_l_whole.scope (d_l_whole.dvs K) [] (d_l_whole.ad K) fd) : L2H.FnH P w K mg base (L2N.CX P w) 1 (ga K "_law_whole") fd ["_law_value"] (spF K [.bor] true fn_l_whole) := by
  have nd := sc_l_whole.nd
  refine fn_mvH F sc_l_whole rfl fun cdv A outer s H E p J hK hfx hr hot => ?_
  have tk := @tk_cxH P w K mg base ["_law_value"] "_law_whole" (defScope (top 60)) (ga K "_law_whole") cdv A outer s H E p
  have po := @po_cxH P w K mg base ["_law_value"] "_law_whole" (defScope (top 60)) (ga K "_law_whole") cdv A outer s H E p
  show XB _ J _ (defBody (top 60)) s_l_whole
  exact (xb_one (xs_ret (xe_and (w_isi hK isOk_int (Z.f "isinstance" (Z.c.fact 9 (f := .std (.free "isinstance")) rfl)) (w_ty (Z.f "int" (Z.c.fact 0 (f := .std (.free "int")) rfl))) w_v) (xe_one1 (xe_not (w_isi hK isOk_bl (Z.f "isinstance" (Z.c.fact 9 (f := .std (.free "isinstance")) rfl)) (w_ty (Z.f "bool" (Z.c.fact 10 (f := .std (.free "bool")) rfl))) w_v))))))
theorem okh_l_whole (Z : Fz fa fn K mg) : FnCH P w K mg base 1 (ga K "_law_whole") (spF K [.bor] true fn_l_whole) := by
  obtain ⟨fd, F⟩ := Z.c.def_ ix_l_whole (d := d_l_whole) rfl
  exact ⟨⟨fd, ["_law_value"], okfh_l_whole Z F, F.bindsN fun _ _ _ _ _ _ us hl => match us, hl with | [_], _ => rfl⟩, F.kp⟩
def s_l_row : SemS := (sSeq (sIf (fOr (fTru (fVar 2)) (fTst (fTwo true (fLc false [3] (iSrc (fVar 1) kItL) (gNm 3) (fNot (fTru (fCall [.bor] true fn_l_whole (aSl 3 aNil)))) (fVar 3)) (fLst aNil) (kS gNe)))) (sRet (fLst (aEx (fC (.str "odd")) aNil))) sNil)
    (sRet (fTwo true (fLst (aEx (fVar 0) aNil)) (fVar 1) kAdd)))
def fn_l_row : Fn := runB [.shr, .bor, .bor] true 4 s_l_row
theorem sc_l_row : FnScope ["_law_word", "_law_fields", "_law_other", "_law_field"] ["_law_word", "_law_fields", "_law_other"] (defScope (top 67)) := ⟨rfl, rfl, rfl, by decide +kernel, rfl, by decide +kernel, by decide +kernel⟩
theorem okfh_l_row (Z : Fz fa fn K mg) {fd : FuncData} (F : FunD K d_l_row.name d_l_row.qual d_l_row.params d_l_row.body d_l_row.scope (d_l_row.dvs K) [] (d_l_row.ad K) fd) : L2H.FnH P w K mg base (L2N.CX P w) 2 (ga K "_law_row") fd ["_law_word", "_law_fields", "_law_other"] (spF K [.shr, .bor, .bor] true fn_l_row) := by
  have nd := sc_l_row.nd
  refine fn_mvH F sc_l_row rfl fun cdv A outer s H E p J hK hfx hr hot => ?_
  have tk := @tk_cxH P w K mg base ["_law_word", "_law_fields", "_law_other", "_law_field"] "_law_row" (defScope (top 67)) (ga K "_law_row") cdv A outer s H E p
  have po := @po_cxH P w K mg base ["_law_word", "_law_fields", "_law_other", "_law_field"] "_law_row" (defScope (top 67)) (ga K "_law_row") cdv A outer s H E p
  show XB _ J _ (defBody (top 67)) s_l_row
  exact (xb_cons (xs_if (xw_or (xt_tru (by exact hK) w_v) (xw_or1 (t_ne hK (un64H hr) (h_lc hot nd (own := [("_law_field", 3)]) (ok := (⟨rfl, by decide +kernel, by decide +kernel, by decide +kernel, by decide +kernel⟩ : BlkOk ["_law_word", "_law_fields", "_law_other", "_law_field"] (defScope (top 67)) _ [("_law_field", 3)])) (h_list w_v) (fun _ _ _ _ _ p hp => w_gn) (fun _ _ _ _ _ p hp => (xps_one (xt_not (xt_tru (by exact hK) (h_call (okh_l_whole Z) (Z.g "_law_whole" (Z.c.fact 11 (f := .std (.glo "_law_whole")) rfl)) (blkH_hot hp) hr takes_none5 hK (w_sl xa_nil)))))) (fun _ _ _ _ _ p hp => w_v)) (xe_lst xa_nil)))).xt (xb_one (xs_ret (xe_lst (xa_ex xe_str xa_nil)))) xb_nil)
    (xb_one (xs_ret (xe_add (xe_lst (xa_ex w_v xa_nil)) w_v))))
theorem okh_l_row (Z : Fz fa fn K mg) : FnCH P w K mg base 2 (ga K "_law_row") (spF K [.shr, .bor, .bor] true fn_l_row) := by
  obtain ⟨fd, F⟩ := Z.c.def_ ix_l_row (d := d_l_row) rfl
  exact ⟨⟨fd, ["_law_word", "_law_fields", "_law_other"], okfh_l_row Z F, F.bindsN fun _ _ _ _ _ _ us hl => match us, hl with | [_, _, _], _ => rfl⟩, F.kp⟩
def s_Cast___init__ : SemS := (sSeq (sAsg 2 (fFrz (fOne (fVar 1) (kS1 gLen))))
    (sSeq (sIf (fNot (fTst (fChain bLe bLe (fC (.int 1)) (fVar 2) (fC (.int 6))))) (sRaise "BadSize" ["size"] (aSl 2 aNil)) sNil)
    (sSeq (sFor (iR1 (fVar 2)) (gNm 3) (sIf (fNot (fTst (fChain bLe bLe (fC (.int 0)) (fTwo true (fVar 1) (fVar 3) kIx) (fC (.int 96))))) (sRaise "BadHeight" ["place"] (aSl 3 aNil)) sNil))
    (sSeq (sFor (iR1 (fVar 2)) (gNm 4) (sFor (iR1 (fVar 4)) (gNm 5) (sIf (fTst (fTwo true (fTwo true (fTwo true (fTwo true (fTwo true (fVar 4) (fTwo true (fVar 1) (fVar 4) kIx) kAdd) (fVar 5) (kS (gI fun i j => i - j))) (fTwo true (fVar 1) (fVar 5) kIx) (kS (gI fun i j => i - j))) (fVar 2) (kS (gIc cMod Int.fmod))) (fC (.int 0)) (kS gEq))) (sRaise "Collision" ["first", "second"] (aSl 5 (aSl 4 aNil))) sNil)))
    (sSeq (sAsg 6 (fFrz (fTwo true (fOne (fVar 1) (kS1 gSum)) (fVar 2) (kS (gIc cDiv Int.fdiv)))))
    (sSeq (sIf (fTst (fTwo true (fVar 6) (fC (.int 16)) (kS (gB bGt)))) (sRaise "TooManyBalls" ["amount"] (aSl 6 aNil)) sNil)
    (sFldS 0 "_heights" ["Cast"] (fFrz (fOne (fVar 1) kTupOf)))))))))
def fn_Cast___init__ : Fn := runB [.io, .bor] true 7 s_Cast___init__
theorem sc_Cast___init__ : FnScope ["self", "heights", "places", "place", "second", "first", "balls"] ["self", "heights"] (defScope (inClass (top 54) 2)) := ⟨rfl, rfl, rfl, by decide +kernel, rfl, by decide +kernel, by decide +kernel⟩
theorem okf_Cast___init__ (Z : Fz fa fn K mg) {fd : FuncData} (F : FunD K d_Cast___init__.name d_Cast___init__.qual d_Cast___init__.params d_Cast___init__.body d_Cast___init__.scope (d_Cast___init__.dvs K) [] (d_Cast___init__.ad K) fd) : FnOk P w K mg base (L2N.CX P w) 3 (ma K (ga K "Cast") "__init__") fd ["self", "heights"] (spF K [.io, .bor] true fn_Cast___init__) := by
  have nd := sc_Cast___init__.nd
  refine fn_mv F sc_Cast___init__ rfl fun cdv A outer s H E J hK hfx hr => ?_
  have tk := @tk_cx P w K mg base ["self", "heights", "places", "place", "second", "first", "balls"] "Cast.__init__" (defScope (inClass (top 54) 2)) (ma K (ga K "Cast") "__init__") cdv A outer s H E
  have po := @po_cx P w K mg base ["self", "heights", "places", "place", "second", "first", "balls"] "Cast.__init__" (defScope (inClass (top 54) 2)) (ma K (ga K "Cast") "__init__") cdv A outer s H E
  show XB _ J _ (defBody (inClass (top 54) 2)) s_Cast___init__
  exact (xb_cons (w_asg nd (xe_frz (w_len (Z.f "len" (Z.c.fact 1 (f := .std (.free "len")) rfl)) w_v)))
    (xb_cons (xs_if (xt_not (xt_chain op_le op_le xe_int w_v (w_cval (cval_ok (Z.c.fact 12 (f := .cval "Cast" "MOST_PLACES" 6) rfl)) (Z.g "Cast" (Z.c.fact 13 (f := .std (.glo "Cast")) rfl))))) (xb_one (w_raise (xc_ok (Z.c.fact 14 (f := .xc "BadSize" ["size"]) rfl)) (okx_BadSize Z) (Z.g "BadSize" (Z.c.fact 15 (f := .std (.glo "BadSize")) rfl)) hr tk hK (w_sl xa_nil))) xb_nil)
    (xb_cons (w_for po (w_r1 (Z.f "range" (Z.c.fact 3 (f := .std (.free "range")) rfl)) w_v) w_gn (xb_one (xs_if (xt_not (xt_chain op_le op_le xe_int (xe_idx w_v w_v) (w_gi (Z.i "MOST_HEIGHT" 96 (Z.c.fact 16 (f := .std (.int "MOST_HEIGHT" 96)) rfl))))) (xb_one (w_raise (xc_ok (Z.c.fact 17 (f := .xc "BadHeight" ["place"]) rfl)) (okx_BadHeight Z) (Z.g "BadHeight" (Z.c.fact 18 (f := .std (.glo "BadHeight")) rfl)) hr tk hK (w_sl xa_nil))) xb_nil)))
    (xb_cons (w_for po (w_r1 (Z.f "range" (Z.c.fact 3 (f := .std (.free "range")) rfl)) w_v) w_gn (xb_one (w_for po (w_r1 (Z.f "range" (Z.c.fact 3 (f := .std (.free "range")) rfl)) w_v) w_gn (xb_one (xs_if (t_eq hK (un64 hr) (xe_mod (xe_sub (xe_sub (xe_add w_v (xe_idx w_v w_v)) w_v) (xe_idx w_v w_v)) w_v) xe_int) (xb_one (w_raise (xc_ok (Z.c.fact 19 (f := .xc "Collision" ["first", "second"]) rfl)) (okx_Collision Z) (Z.g "Collision" (Z.c.fact 20 (f := .std (.glo "Collision")) rfl)) hr tk hK (w_sl (w_sl xa_nil)))) xb_nil)))))
    (xb_cons (w_asg nd (xe_frz (xe_fdiv (w_sum (Z.f "sum" (Z.c.fact 5 (f := .std (.free "sum")) rfl)) w_v) w_v)))
    (xb_cons (xs_if (t_gt w_v (w_cval (cval_ok (Z.c.fact 21 (f := .cval "Cast" "MOST_BALLS" 16) rfl)) (Z.g "Cast" (Z.c.fact 13 (f := .std (.glo "Cast")) rfl)))) (xb_one (w_raise (xc_ok (Z.c.fact 22 (f := .xc "TooManyBalls" ["amount"]) rfl)) (okx_TooManyBalls Z) (Z.g "TooManyBalls" (Z.c.fact 23 (f := .std (.glo "TooManyBalls")) rfl)) hr tk hK (w_sl xa_nil))) xb_nil)
    (xb_one (w_sfld hK (fld_cons (z_cls (Z.c.fact 25 (f := .std (.cls "Cast")) rfl)) (z_noat (Z.c.fact 26 (f := .std (.noat "Cast" "_heights")) rfl)) fld_nil) (xe_frz (w_tuple (Z.f "tuple" (Z.c.fact 24 (f := .std (.free "tuple")) rfl)) w_v))))))))))
theorem ok_Cast___init__ (Z : Fz fa fn K mg) : FnC P w K mg base 3 (ma K (ga K "Cast") "__init__") (spF K [.io, .bor] true fn_Cast___init__) := by
  obtain ⟨fd, F⟩ := Z.c.def_ ix_Cast___init__ (d := d_Cast___init__) rfl
  exact ⟨⟨fd, ["self", "heights"], okf_Cast___init__ Z F, F.bindsN fun _ _ _ _ _ _ us hl => match us, hl with | [_, _], _ => rfl⟩, F.kp⟩
def h_l_outcome_0 : HSem := ⟨some 1, tabX ["BadSize"] ["BadHeight", "Collision", "TooManyBalls"], fun k fs => (sSeq (sAsg 2 (fFrz (fIsX (List.contains ([] : List Str) k))))
    (sRet (fCall [.shr, .bor, .bor] true fn_l_row (aEx (fC (.str "size")) (aEx (fLst (aEx (fXf fs "size") aNil)) (aSl 2 aNil))))))⟩
def h_l_outcome_1 : HSem := ⟨some 1, tabX ["BadHeight"] ["BadSize", "Collision", "TooManyBalls"], fun k fs => (sSeq (sAsg 2 (fFrz (fIsX (List.contains ([] : List Str) k))))
    (sRet (fCall [.shr, .bor, .bor] true fn_l_row (aEx (fC (.str "height")) (aEx (fLst (aEx (fXf fs "place") aNil)) (aSl 2 aNil))))))⟩
def h_l_outcome_2 : HSem := ⟨some 1, tabX ["Collision"] ["BadSize", "BadHeight", "TooManyBalls"], fun k fs => (sSeq (sAsg 2 (fFrz (fIsX (List.contains ([] : List Str) k))))
    (sRet (fCall [.shr, .bor, .bor] true fn_l_row (aEx (fC (.str "collision")) (aEx (fLst (aEx (fXf fs "first") (aEx (fXf fs "second") aNil))) (aSl 2 aNil))))))⟩
def h_l_outcome_3 : HSem := ⟨some 1, tabX ["TooManyBalls"] ["BadSize", "BadHeight", "Collision"], fun k fs => (sSeq (sAsg 2 (fFrz (fIsX (List.contains ([] : List Str) k))))
    (sRet (fCall [.shr, .bor, .bor] true fn_l_row (aEx (fC (.str "balls")) (aEx (fLst (aEx (fXf fs "amount") aNil)) (aSl 2 aNil))))))⟩
def s_l_outcome : SemS := (sSeq (sTry (sExpr (fMake "Cast" [.bor] fn_Cast___init__ (aSl 0 aNil))) [h_l_outcome_0, h_l_outcome_1, h_l_outcome_2, h_l_outcome_3])
    (sRet (fLst aNil)))
def fn_l_outcome : Fn := runB [.bor] true 3 s_l_outcome
theorem sc_l_outcome : FnScope ["_law_heights", "e", "_law_other"] ["_law_heights"] (defScope (top 68)) := ⟨rfl, rfl, rfl, by decide +kernel, rfl, by decide +kernel, by decide +kernel⟩
theorem okf_l_outcome (Z : Fz fa fn K mg) {fd : FuncData} (F : FunD K d_l_outcome.name d_l_outcome.qual d_l_outcome.params d_l_outcome.body d_l_outcome.scope (d_l_outcome.dvs K) [] (d_l_outcome.ad K) fd) : FnOk P w K mg base (L2N.CX P w) 5 (ga K "_law_outcome") fd ["_law_heights"] (spF K [.bor] true fn_l_outcome) := by
  have nd := sc_l_outcome.nd
  refine fn_mv0 F sc_l_outcome rfl fun cdv A outer s H E J hK hfx hr => ?_
  have tk := @tk_cx P w K mg base ["_law_heights", "e", "_law_other"] "_law_outcome" (defScope (top 68)) (ga K "_law_outcome") cdv A outer s H E
  have po := @po_cx P w K mg base ["_law_heights", "e", "_law_other"] "_law_outcome" (defScope (top 68)) (ga K "_law_outcome") cdv A outer s H E
  show XB0 _ J _ (defBody (top 68)) s_l_outcome
  exact (xb0_cons (xs0_try (l := [(h_l_outcome_0, .ref (ga K "BadSize")), (h_l_outcome_1, .ref (ga K "BadHeight")), (h_l_outcome_2, .ref (ga K "Collision")), (h_l_outcome_3, .ref (ga K "TooManyBalls"))]) rfl rfl nd tk hfx hK (fun W tp xe tk po => (xb_one (xs_expr (w_make (ok_Cast___init__ Z) (z_mkr (Z.c.fact 27 (f := .std (.mkr "Cast")) rfl)) (Z.g "Cast" (Z.c.fact 13 (f := .std (.glo "Cast")) rfl)) hr tk hK (w_sl xa_nil))))) (.as (h := h_l_outcome_0) (c := .ref (ga K "BadSize")) (names_own (Z.g "BadSize" (Z.c.fact 15 (f := .std (.glo "BadSize")) rfl))) rfl rfl rfl (tabX_ok (all_cons (z_exm (Z.c.fact 28 (f := .std (.exm "BadSize" "BadSize" true)) rfl)) all_nil) (all_cons (z_exm (Z.c.fact 31 (f := .std (.exm "BadHeight" "BadSize" false)) rfl)) (all_cons (z_exm (Z.c.fact 30 (f := .std (.exm "Collision" "BadSize" false)) rfl)) (all_cons (z_exm (Z.c.fact 29 (f := .std (.exm "TooManyBalls" "BadSize" false)) rfl)) all_nil)))) (fun a oe d pn J k fs hK hx er hz hf hm => by
        have hk := tabX_yes hm
        rcases List.mem_cons.mp hk with rfl | hk
        · show XB _ _ _ _ ((sSeq (sAsg 2 (fFrz (fIsX (List.contains ([] : List Str) "BadSize"))))
    (sRet (fCall [.shr, .bor, .bor] true fn_l_row (aEx (fC (.str "size")) (aEx (fLst (aEx (fXf fs "size") aNil)) (aSl 2 aNil)))))))
          exact (xb_cons (w_asg nd (xe_frz (xe_isxT (b := false) (vs := [V.ref (ga K "BadHeight"), V.ref (ga K "BadNumber"), V.ref (ga K "Collision"), V.ref (ga K "Full"), V.ref (ga K "TooHeavy"), V.ref (ga K "TooManyBalls")]) (us := [.ref (ga K "BadHeight"), .ref (ga K "BadNumber"), .ref (ga K "Collision"), .ref (ga K "Full"), .ref (ga K "TooHeavy"), .ref (ga K "TooManyBalls")]) hx hK er hz hf (xr_ok (Z.c.fact 41 (f := .xr "BadSize") rfl)).2 (Nat.le_of_ble_eq_true rfl) (kitAny_l (K := K) [(.ref (ga K "BadHeight"), false), (.ref (ga K "BadNumber"), false), (.ref (ga K "Collision"), false), (.ref (ga K "Full"), false), (.ref (ga K "TooHeavy"), false), (.ref (ga K "TooManyBalls"), false)] (kp_cons (kit_ok (Z.c.fact 32 (f := .kit "BadSize" "BadHeight" false) rfl)) (kp_cons (kit_ok (Z.c.fact 34 (f := .kit "BadSize" "BadNumber" false) rfl)) (kp_cons (kit_ok (Z.c.fact 35 (f := .kit "BadSize" "Collision" false) rfl)) (kp_cons (kit_ok (Z.c.fact 37 (f := .kit "BadSize" "Full" false) rfl)) (kp_cons (kit_ok (Z.c.fact 39 (f := .kit "BadSize" "TooHeavy" false) rfl)) (kp_cons (kit_ok (Z.c.fact 40 (f := .kit "BadSize" "TooManyBalls" false) rfl)) kp_nil))))))) rfl (Z.f "isinstance" (Z.c.fact 9 (f := .std (.free "isinstance")) rfl)) (by decide +kernel) rfl (.inl rfl) (.cons (pe_glob (by rfl) (Z.g "BadHeight" (Z.c.fact 18 (f := .std (.glo "BadHeight")) rfl)) (v := .ref (ga K "BadHeight")) rfl) (.own (ga K "BadHeight")) (.cons (pe_glob (by rfl) (Z.g "BadNumber" (Z.c.fact 33 (f := .std (.glo "BadNumber")) rfl)) (v := .ref (ga K "BadNumber")) rfl) (.own (ga K "BadNumber")) (.cons (pe_glob (by rfl) (Z.g "Collision" (Z.c.fact 20 (f := .std (.glo "Collision")) rfl)) (v := .ref (ga K "Collision")) rfl) (.own (ga K "Collision")) (.cons (pe_glob (by rfl) (Z.g "Full" (Z.c.fact 36 (f := .std (.glo "Full")) rfl)) (v := .ref (ga K "Full")) rfl) (.own (ga K "Full")) (.cons (pe_glob (by rfl) (Z.g "TooHeavy" (Z.c.fact 38 (f := .std (.glo "TooHeavy")) rfl)) (v := .ref (ga K "TooHeavy")) rfl) (.own (ga K "TooHeavy")) (.cons (pe_glob (by rfl) (Z.g "TooManyBalls" (Z.c.fact 23 (f := .std (.glo "TooManyBalls")) rfl)) (v := .ref (ga K "TooManyBalls")) rfl) (.own (ga K "TooManyBalls")) .nil)))))))))
    (xb_one (xs_ret (h_call (okh_l_row Z) (Z.g "_law_row" (Z.c.fact 42 (f := .std (.glo "_law_row")) rfl)) (suite_hot hz hf) (suite_room hr) takes_none5 hK (xa_ex xe_str (xa_ex (xe_lst (xa_ex (xe_xf hK hx er hz hf (xr_ok (Z.c.fact 41 (f := .xr "BadSize") rfl)).1 ((xc_ok (Z.c.fact 14 (f := .xc "BadSize" ["size"]) rfl)).2.1 "size" (by decide)) rfl (.inl rfl)) xa_nil)) (w_sl xa_nil)))))))
        cases hk) (.as (h := h_l_outcome_1) (c := .ref (ga K "BadHeight")) (names_own (Z.g "BadHeight" (Z.c.fact 18 (f := .std (.glo "BadHeight")) rfl))) rfl rfl rfl (tabX_ok (all_cons (z_exm (Z.c.fact 43 (f := .std (.exm "BadHeight" "BadHeight" true)) rfl)) all_nil) (all_cons (z_exm (Z.c.fact 46 (f := .std (.exm "BadSize" "BadHeight" false)) rfl)) (all_cons (z_exm (Z.c.fact 45 (f := .std (.exm "Collision" "BadHeight" false)) rfl)) (all_cons (z_exm (Z.c.fact 44 (f := .std (.exm "TooManyBalls" "BadHeight" false)) rfl)) all_nil)))) (fun a oe d pn J k fs hK hx er hz hf hm => by
        have hk := tabX_yes hm
        rcases List.mem_cons.mp hk with rfl | hk
        · show XB _ _ _ _ ((sSeq (sAsg 2 (fFrz (fIsX (List.contains ([] : List Str) "BadHeight"))))
    (sRet (fCall [.shr, .bor, .bor] true fn_l_row (aEx (fC (.str "height")) (aEx (fLst (aEx (fXf fs "place") aNil)) (aSl 2 aNil)))))))
          exact (xb_cons (w_asg nd (xe_frz (xe_isxT (b := false) (vs := [V.ref (ga K "BadCalendar"), V.ref (ga K "BadNumber"), V.ref (ga K "BadSize"), V.ref (ga K "Collision"), V.ref (ga K "TooManyBalls")]) (us := [.ref (ga K "BadCalendar"), .ref (ga K "BadNumber"), .ref (ga K "BadSize"), .ref (ga K "Collision"), .ref (ga K "TooManyBalls")]) hx hK er hz hf (xr_ok (Z.c.fact 53 (f := .xr "BadHeight") rfl)).2 (Nat.le_of_ble_eq_true rfl) (kitAny_l (K := K) [(.ref (ga K "BadCalendar"), false), (.ref (ga K "BadNumber"), false), (.ref (ga K "BadSize"), false), (.ref (ga K "Collision"), false), (.ref (ga K "TooManyBalls"), false)] (kp_cons (kit_ok (Z.c.fact 48 (f := .kit "BadHeight" "BadCalendar" false) rfl)) (kp_cons (kit_ok (Z.c.fact 49 (f := .kit "BadHeight" "BadNumber" false) rfl)) (kp_cons (kit_ok (Z.c.fact 50 (f := .kit "BadHeight" "BadSize" false) rfl)) (kp_cons (kit_ok (Z.c.fact 51 (f := .kit "BadHeight" "Collision" false) rfl)) (kp_cons (kit_ok (Z.c.fact 52 (f := .kit "BadHeight" "TooManyBalls" false) rfl)) kp_nil)))))) rfl (Z.f "isinstance" (Z.c.fact 9 (f := .std (.free "isinstance")) rfl)) (by decide +kernel) rfl (.inl rfl) (.cons (pe_glob (by rfl) (Z.g "BadCalendar" (Z.c.fact 47 (f := .std (.glo "BadCalendar")) rfl)) (v := .ref (ga K "BadCalendar")) rfl) (.own (ga K "BadCalendar")) (.cons (pe_glob (by rfl) (Z.g "BadNumber" (Z.c.fact 33 (f := .std (.glo "BadNumber")) rfl)) (v := .ref (ga K "BadNumber")) rfl) (.own (ga K "BadNumber")) (.cons (pe_glob (by rfl) (Z.g "BadSize" (Z.c.fact 15 (f := .std (.glo "BadSize")) rfl)) (v := .ref (ga K "BadSize")) rfl) (.own (ga K "BadSize")) (.cons (pe_glob (by rfl) (Z.g "Collision" (Z.c.fact 20 (f := .std (.glo "Collision")) rfl)) (v := .ref (ga K "Collision")) rfl) (.own (ga K "Collision")) (.cons (pe_glob (by rfl) (Z.g "TooManyBalls" (Z.c.fact 23 (f := .std (.glo "TooManyBalls")) rfl)) (v := .ref (ga K "TooManyBalls")) rfl) (.own (ga K "TooManyBalls")) .nil))))))))
    (xb_one (xs_ret (h_call (okh_l_row Z) (Z.g "_law_row" (Z.c.fact 42 (f := .std (.glo "_law_row")) rfl)) (suite_hot hz hf) (suite_room hr) takes_none5 hK (xa_ex xe_str (xa_ex (xe_lst (xa_ex (xe_xf hK hx er hz hf (xr_ok (Z.c.fact 53 (f := .xr "BadHeight") rfl)).1 ((xc_ok (Z.c.fact 17 (f := .xc "BadHeight" ["place"]) rfl)).2.1 "place" (by decide)) rfl (.inl rfl)) xa_nil)) (w_sl xa_nil)))))))
        cases hk) (.as (h := h_l_outcome_2) (c := .ref (ga K "Collision")) (names_own (Z.g "Collision" (Z.c.fact 20 (f := .std (.glo "Collision")) rfl))) rfl rfl rfl (tabX_ok (all_cons (z_exm (Z.c.fact 54 (f := .std (.exm "Collision" "Collision" true)) rfl)) all_nil) (all_cons (z_exm (Z.c.fact 57 (f := .std (.exm "BadSize" "Collision" false)) rfl)) (all_cons (z_exm (Z.c.fact 56 (f := .std (.exm "BadHeight" "Collision" false)) rfl)) (all_cons (z_exm (Z.c.fact 55 (f := .std (.exm "TooManyBalls" "Collision" false)) rfl)) all_nil)))) (fun a oe d pn J k fs hK hx er hz hf hm => by
        have hk := tabX_yes hm
        rcases List.mem_cons.mp hk with rfl | hk
        · show XB _ _ _ _ ((sSeq (sAsg 2 (fFrz (fIsX (List.contains ([] : List Str) "Collision"))))
    (sRet (fCall [.shr, .bor, .bor] true fn_l_row (aEx (fC (.str "collision")) (aEx (fLst (aEx (fXf fs "first") (aEx (fXf fs "second") aNil))) (aSl 2 aNil)))))))
          exact (xb_cons (w_asg nd (xe_frz (xe_isxT (b := false) (vs := [V.ref (ga K "BadHeight"), V.ref (ga K "BadSize"), V.ref (ga K "TooManyBalls"), V.ref (ga K "Unlike")]) (us := [.ref (ga K "BadHeight"), .ref (ga K "BadSize"), .ref (ga K "TooManyBalls"), .ref (ga K "Unlike")]) hx hK er hz hf (xr_ok (Z.c.fact 63 (f := .xr "Collision") rfl)).2 (Nat.le_of_ble_eq_true rfl) (kitAny_l (K := K) [(.ref (ga K "BadHeight"), false), (.ref (ga K "BadSize"), false), (.ref (ga K "TooManyBalls"), false), (.ref (ga K "Unlike"), false)] (kp_cons (kit_ok (Z.c.fact 58 (f := .kit "Collision" "BadHeight" false) rfl)) (kp_cons (kit_ok (Z.c.fact 59 (f := .kit "Collision" "BadSize" false) rfl)) (kp_cons (kit_ok (Z.c.fact 60 (f := .kit "Collision" "TooManyBalls" false) rfl)) (kp_cons (kit_ok (Z.c.fact 62 (f := .kit "Collision" "Unlike" false) rfl)) kp_nil))))) rfl (Z.f "isinstance" (Z.c.fact 9 (f := .std (.free "isinstance")) rfl)) (by decide +kernel) rfl (.inl rfl) (.cons (pe_glob (by rfl) (Z.g "BadHeight" (Z.c.fact 18 (f := .std (.glo "BadHeight")) rfl)) (v := .ref (ga K "BadHeight")) rfl) (.own (ga K "BadHeight")) (.cons (pe_glob (by rfl) (Z.g "BadSize" (Z.c.fact 15 (f := .std (.glo "BadSize")) rfl)) (v := .ref (ga K "BadSize")) rfl) (.own (ga K "BadSize")) (.cons (pe_glob (by rfl) (Z.g "TooManyBalls" (Z.c.fact 23 (f := .std (.glo "TooManyBalls")) rfl)) (v := .ref (ga K "TooManyBalls")) rfl) (.own (ga K "TooManyBalls")) (.cons (pe_glob (by rfl) (Z.g "Unlike" (Z.c.fact 61 (f := .std (.glo "Unlike")) rfl)) (v := .ref (ga K "Unlike")) rfl) (.own (ga K "Unlike")) .nil)))))))
    (xb_one (xs_ret (h_call (okh_l_row Z) (Z.g "_law_row" (Z.c.fact 42 (f := .std (.glo "_law_row")) rfl)) (suite_hot hz hf) (suite_room hr) takes_none5 hK (xa_ex xe_str (xa_ex (xe_lst (xa_ex (xe_xf hK hx er hz hf (xr_ok (Z.c.fact 63 (f := .xr "Collision") rfl)).1 ((xc_ok (Z.c.fact 19 (f := .xc "Collision" ["first", "second"]) rfl)).2.1 "first" (by decide)) rfl (.inl rfl)) (xa_ex (xe_xf hK hx er hz hf (xr_ok (Z.c.fact 63 (f := .xr "Collision") rfl)).1 ((xc_ok (Z.c.fact 19 (f := .xc "Collision" ["first", "second"]) rfl)).2.1 "second" (by decide)) rfl (.inl rfl)) xa_nil))) (w_sl xa_nil)))))))
        cases hk) (.as (h := h_l_outcome_3) (c := .ref (ga K "TooManyBalls")) (names_own (Z.g "TooManyBalls" (Z.c.fact 23 (f := .std (.glo "TooManyBalls")) rfl))) rfl rfl rfl (tabX_ok (all_cons (z_exm (Z.c.fact 64 (f := .std (.exm "TooManyBalls" "TooManyBalls" true)) rfl)) all_nil) (all_cons (z_exm (Z.c.fact 67 (f := .std (.exm "BadSize" "TooManyBalls" false)) rfl)) (all_cons (z_exm (Z.c.fact 66 (f := .std (.exm "BadHeight" "TooManyBalls" false)) rfl)) (all_cons (z_exm (Z.c.fact 65 (f := .std (.exm "Collision" "TooManyBalls" false)) rfl)) all_nil)))) (fun a oe d pn J k fs hK hx er hz hf hm => by
        have hk := tabX_yes hm
        rcases List.mem_cons.mp hk with rfl | hk
        · show XB _ _ _ _ ((sSeq (sAsg 2 (fFrz (fIsX (List.contains ([] : List Str) "TooManyBalls"))))
    (sRet (fCall [.shr, .bor, .bor] true fn_l_row (aEx (fC (.str "balls")) (aEx (fLst (aEx (fXf fs "amount") aNil)) (aSl 2 aNil)))))))
          exact (xb_cons (w_asg nd (xe_frz (xe_isxT (b := false) (vs := [V.ref (ga K "BadHeight"), V.ref (ga K "BadNumber"), V.ref (ga K "BadSize"), V.ref (ga K "Collision"), V.ref (ga K "Full"), V.ref (ga K "TooHeavy")]) (us := [.ref (ga K "BadHeight"), .ref (ga K "BadNumber"), .ref (ga K "BadSize"), .ref (ga K "Collision"), .ref (ga K "Full"), .ref (ga K "TooHeavy")]) hx hK er hz hf (xr_ok (Z.c.fact 74 (f := .xr "TooManyBalls") rfl)).2 (Nat.le_of_ble_eq_true rfl) (kitAny_l (K := K) [(.ref (ga K "BadHeight"), false), (.ref (ga K "BadNumber"), false), (.ref (ga K "BadSize"), false), (.ref (ga K "Collision"), false), (.ref (ga K "Full"), false), (.ref (ga K "TooHeavy"), false)] (kp_cons (kit_ok (Z.c.fact 68 (f := .kit "TooManyBalls" "BadHeight" false) rfl)) (kp_cons (kit_ok (Z.c.fact 69 (f := .kit "TooManyBalls" "BadNumber" false) rfl)) (kp_cons (kit_ok (Z.c.fact 70 (f := .kit "TooManyBalls" "BadSize" false) rfl)) (kp_cons (kit_ok (Z.c.fact 71 (f := .kit "TooManyBalls" "Collision" false) rfl)) (kp_cons (kit_ok (Z.c.fact 72 (f := .kit "TooManyBalls" "Full" false) rfl)) (kp_cons (kit_ok (Z.c.fact 73 (f := .kit "TooManyBalls" "TooHeavy" false) rfl)) kp_nil))))))) rfl (Z.f "isinstance" (Z.c.fact 9 (f := .std (.free "isinstance")) rfl)) (by decide +kernel) rfl (.inl rfl) (.cons (pe_glob (by rfl) (Z.g "BadHeight" (Z.c.fact 18 (f := .std (.glo "BadHeight")) rfl)) (v := .ref (ga K "BadHeight")) rfl) (.own (ga K "BadHeight")) (.cons (pe_glob (by rfl) (Z.g "BadNumber" (Z.c.fact 33 (f := .std (.glo "BadNumber")) rfl)) (v := .ref (ga K "BadNumber")) rfl) (.own (ga K "BadNumber")) (.cons (pe_glob (by rfl) (Z.g "BadSize" (Z.c.fact 15 (f := .std (.glo "BadSize")) rfl)) (v := .ref (ga K "BadSize")) rfl) (.own (ga K "BadSize")) (.cons (pe_glob (by rfl) (Z.g "Collision" (Z.c.fact 20 (f := .std (.glo "Collision")) rfl)) (v := .ref (ga K "Collision")) rfl) (.own (ga K "Collision")) (.cons (pe_glob (by rfl) (Z.g "Full" (Z.c.fact 36 (f := .std (.glo "Full")) rfl)) (v := .ref (ga K "Full")) rfl) (.own (ga K "Full")) (.cons (pe_glob (by rfl) (Z.g "TooHeavy" (Z.c.fact 38 (f := .std (.glo "TooHeavy")) rfl)) (v := .ref (ga K "TooHeavy")) rfl) (.own (ga K "TooHeavy")) .nil)))))))))
    (xb_one (xs_ret (h_call (okh_l_row Z) (Z.g "_law_row" (Z.c.fact 42 (f := .std (.glo "_law_row")) rfl)) (suite_hot hz hf) (suite_room hr) takes_none5 hK (xa_ex xe_str (xa_ex (xe_lst (xa_ex (xe_xf hK hx er hz hf (xr_ok (Z.c.fact 74 (f := .xr "TooManyBalls") rfl)).1 ((xc_ok (Z.c.fact 22 (f := .xc "TooManyBalls" ["amount"]) rfl)).2.1 "amount" (by decide)) rfl (.inl rfl)) xa_nil)) (w_sl xa_nil)))))))
        cases hk) .nil)))))
    (xb0_one (XS.to0 (xs_ret (xe_lst xa_nil)))))
theorem ok_l_outcome (Z : Fz fa fn K mg) : FnC P w K mg base 5 (ga K "_law_outcome") (spF K [.bor] true fn_l_outcome) := by
  obtain ⟨fd, F⟩ := Z.c.def_ ix_l_outcome (d := d_l_outcome) rfl
  exact ⟨⟨fd, ["_law_heights"], okf_l_outcome Z F, F.bindsN fun _ _ _ _ _ _ us hl => match us, hl with | [_], _ => rfl⟩, F.kp⟩
def s_l_is_list : SemS := (sSeq (sIf (fOr (fNot (fTru (fOne (fVar 0) (kIsi isLst)))) (fTst (fTwo true (fOne (fVar 0) (kS1 gLen)) (fOne (fVar 1) (kS1 gLen)) (kS gNe)))) (sRet (fC (.bl false))) sNil)
    (sSeq (sFor (iR1 (fOne (fVar 1) (kS1 gLen))) (gNm 2) (sIf (fOr (fNot (fTru (fCall [.bor] true fn_l_whole (aEx (fTwo true (fVar 0) (fVar 2) kIx) aNil)))) (fTst (fTwo true (fTwo true (fVar 0) (fVar 2) kIx) (fTwo true (fVar 1) (fVar 2) kIx) (kS gNe)))) (sRet (fC (.bl false))) sNil))
    (sRet (fC (.bl true)))))
def fn_l_is_list : Fn := runB [.bor, .bor] true 3 s_l_is_list
theorem sc_l_is_list : FnScope ["_law_actual", "_law_due", "_law_place"] ["_law_actual", "_law_due"] (defScope (top 61)) := ⟨rfl, rfl, rfl, by decide +kernel, rfl, by decide +kernel, by decide +kernel⟩
theorem okf_l_is_list (Z : Fz fa fn K mg) {fd : FuncData} (F : FunD K d_l_is_list.name d_l_is_list.qual d_l_is_list.params d_l_is_list.body d_l_is_list.scope (d_l_is_list.dvs K) [] (d_l_is_list.ad K) fd) : FnOk P w K mg base (L2N.CX P w) 2 (ga K "_law_is_list") fd ["_law_actual", "_law_due"] (spF K [.bor, .bor] true fn_l_is_list) := by
  have nd := sc_l_is_list.nd
  refine fn_mv F sc_l_is_list rfl fun cdv A outer s H E J hK hfx hr => ?_
  have tk := @tk_cx P w K mg base ["_law_actual", "_law_due", "_law_place"] "_law_is_list" (defScope (top 61)) (ga K "_law_is_list") cdv A outer s H E
  have po := @po_cx P w K mg base ["_law_actual", "_law_due", "_law_place"] "_law_is_list" (defScope (top 61)) (ga K "_law_is_list") cdv A outer s H E
  show XB _ J _ (defBody (top 61)) s_l_is_list
  exact (xb_cons (xs_if (xw_or (xt_not (xt_tru hK (w_isi hK isOk_lst (Z.f "isinstance" (Z.c.fact 9 (f := .std (.free "isinstance")) rfl)) (w_ty (Z.f "list" (Z.c.fact 75 (f := .std (.free "list")) rfl))) w_v))) (xw_or1 (t_ne hK (un64 hr) (w_len (Z.f "len" (Z.c.fact 1 (f := .std (.free "len")) rfl)) w_v) (w_len (Z.f "len" (Z.c.fact 1 (f := .std (.free "len")) rfl)) w_v)))).xt (xb_one (xs_ret xe_bl)) xb_nil)
    (xb_cons (w_for po (w_r1 (Z.f "range" (Z.c.fact 3 (f := .std (.free "range")) rfl)) (w_len (Z.f "len" (Z.c.fact 1 (f := .std (.free "len")) rfl)) w_v)) w_gn (xb_one (xs_if (xw_or (xt_not (xt_tru hK (w_call (ok_l_whole Z) (Z.g "_law_whole" (Z.c.fact 11 (f := .std (.glo "_law_whole")) rfl)) hr tk hK (xa_ex (xe_idx w_v w_v) xa_nil)))) (xw_or1 (t_ne hK (un64 hr) (xe_idx w_v w_v) (xe_idx w_v w_v)))).xt (xb_one (xs_ret xe_bl)) xb_nil)))
    (xb_one (xs_ret xe_bl))))
theorem ok_l_is_list (Z : Fz fa fn K mg) : FnC P w K mg base 2 (ga K "_law_is_list") (spF K [.bor, .bor] true fn_l_is_list) := by
  obtain ⟨fd, F⟩ := Z.c.def_ ix_l_is_list (d := d_l_is_list) rfl
  exact ⟨⟨fd, ["_law_actual", "_law_due"], okf_l_is_list Z F, F.bindsN fun _ _ _ _ _ _ us hl => match us, hl with | [_, _], _ => rfl⟩, F.kp⟩
theorem sc_rwk_Cast___iter__ : FnScope ["self"] ["self"] (defScope (inClass (top 54) 27)) := ⟨rfl, rfl, rfl, by decide +kernel, rfl, by decide +kernel, by decide +kernel⟩
theorem ok_rwk_Cast___iter__ (Z : Fz fa fn K mg) : FnCS P w K mg base 1 (ma K (ga K "Cast") "__iter__") (spItT K (ga K "Cast") "_heights") := by
  obtain ⟨fd, F⟩ := Z.c.def_ ix_rwk_Cast___iter__ (d := d_rwk_Cast___iter__) rfl
  exact ⟨⟨fd, ["self"], fn_iterT (k := 0) F sc_rwk_Cast___iter__ (.inl rfl) (fld_cons (z_cls (Z.c.fact 25 (f := .std (.cls "Cast")) rfl)) (z_noat (Z.c.fact 26 (f := .std (.noat "Cast" "_heights")) rfl)) fld_nil) (Z.f "iter" (Z.c.fact 76 (f := .std (.free "iter")) rfl)), F.bindsN fun _ _ _ _ _ _ us hl => match us, hl with | [_], _ => rfl⟩, F.kp⟩
def s_Cast_heights : SemS := (sRet (fOne (fOne (fVar 0) (kFld "_heights" ["Cast"])) kListOf))
def fn_Cast_heights : Fn := runB [.bor] true 1 s_Cast_heights
theorem sc_Cast_heights : FnScope ["self"] ["self"] (defScope (inClass (top 54) 11)) := ⟨rfl, rfl, rfl, by decide +kernel, rfl, by decide +kernel, by decide +kernel⟩
theorem okf_Cast_heights (Z : Fz fa fn K mg) {fd : FuncData} (F : FunD K d_Cast_heights.name d_Cast_heights.qual d_Cast_heights.params d_Cast_heights.body d_Cast_heights.scope (d_Cast_heights.dvs K) [] (d_Cast_heights.ad K) fd) : FnOk P w K mg base (L2N.CX P w) 1 (recAt "property" K "Cast" "heights") fd ["self"] (spF K [.bor] true fn_Cast_heights) := by
  have nd := sc_Cast_heights.nd
  refine fn_mv F sc_Cast_heights rfl fun cdv A outer s H E J hK hfx hr => ?_
  have tk := @tk_cx P w K mg base ["self"] "Cast.heights" (defScope (inClass (top 54) 11)) (recAt "property" K "Cast" "heights") cdv A outer s H E
  have po := @po_cx P w K mg base ["self"] "Cast.heights" (defScope (inClass (top 54) 11)) (recAt "property" K "Cast" "heights") cdv A outer s H E
  show XB _ J _ (defBody (inClass (top 54) 11)) s_Cast_heights
  exact (xb_one (xs_ret (w_list (Z.f "list" (Z.c.fact 75 (f := .std (.free "list")) rfl)) (w_fld hK (fld_cons (z_cls (Z.c.fact 25 (f := .std (.cls "Cast")) rfl)) (z_noat (Z.c.fact 26 (f := .std (.noat "Cast" "_heights")) rfl)) fld_nil) w_v))))
theorem ok_Cast_heights (Z : Fz fa fn K mg) : FnC P w K mg base 1 (recAt "property" K "Cast" "heights") (spF K [.bor] true fn_Cast_heights) := by
  obtain ⟨fd, F⟩ := Z.c.def_ ix_Cast_heights (d := d_Cast_heights) rfl
  exact ⟨⟨fd, ["self"], okf_Cast_heights Z F, F.bindsN fun _ _ _ _ _ _ us hl => match us, hl with | [_], _ => rfl⟩, F.kp⟩
def s_Cast_used : SemS := (sRet (fLc true [1] (iR1 (fOne (fOne (fVar 0) (kFld "_heights" ["Cast"])) (kS1 gLen))) (gNm 1) (fTst (fTwo true (fTwo true (fOne (fVar 0) (kFld "_heights" ["Cast"])) (fVar 1) kIx) (fC (.int 0)) (kS gNe))) (fVar 1)))
def fn_Cast_used : Fn := runB [.bor] true 2 s_Cast_used
theorem sc_Cast_used : FnScope ["self", "place"] ["self"] (defScope (inClass (top 54) 12)) := ⟨rfl, rfl, rfl, by decide +kernel, rfl, by decide +kernel, by decide +kernel⟩
theorem okf_Cast_used (Z : Fz fa fn K mg) {fd : FuncData} (F : FunD K d_Cast_used.name d_Cast_used.qual d_Cast_used.params d_Cast_used.body d_Cast_used.scope (d_Cast_used.dvs K) [] (d_Cast_used.ad K) fd) : FnOk P w K mg base (L2N.CX P w) 1 (recAt "property" K "Cast" "used") fd ["self"] (spF K [.bor] true fn_Cast_used) := by
  have nd := sc_Cast_used.nd
  refine fn_mv F sc_Cast_used rfl fun cdv A outer s H E J hK hfx hr => ?_
  have tk := @tk_cx P w K mg base ["self", "place"] "Cast.used" (defScope (inClass (top 54) 12)) (recAt "property" K "Cast" "used") cdv A outer s H E
  have po := @po_cx P w K mg base ["self", "place"] "Cast.used" (defScope (inClass (top 54) 12)) (recAt "property" K "Cast" "used") cdv A outer s H E
  show XB _ J _ (defBody (inClass (top 54) 12)) s_Cast_used
  exact (xb_one (xs_ret (w_lc nd (own := [("place", 1)]) (ok := (⟨rfl, by decide +kernel, by decide +kernel, by decide +kernel, by decide +kernel⟩ : BlkOk ["self", "place"] (defScope (inClass (top 54) 12)) _ [("place", 1)])) (w_r1 (Z.f "range" (Z.c.fact 3 (f := .std (.free "range")) rfl)) (w_len (Z.f "len" (Z.c.fact 1 (f := .std (.free "len")) rfl)) (w_fld hK (fld_cons (z_cls (Z.c.fact 25 (f := .std (.cls "Cast")) rfl)) (z_noat (Z.c.fact 26 (f := .std (.noat "Cast" "_heights")) rfl)) fld_nil) w_v))) (fun _ _ _ _ _ => w_gn) (fun _ _ _ _ _ => (xps_one (t_ne hK (un64 hr) (xe_idx (w_fld hK (fld_cons (z_cls (Z.c.fact 25 (f := .std (.cls "Cast")) rfl)) (z_noat (Z.c.fact 26 (f := .std (.noat "Cast" "_heights")) rfl)) fld_nil) w_v) w_v) xe_int))) (fun _ _ _ _ _ => w_v))))
theorem ok_Cast_used (Z : Fz fa fn K mg) : FnC P w K mg base 1 (recAt "property" K "Cast" "used") (spF K [.bor] true fn_Cast_used) := by
  obtain ⟨fd, F⟩ := Z.c.def_ ix_Cast_used (d := d_Cast_used) rfl
  exact ⟨⟨fd, ["self"], okf_Cast_used Z F, F.bindsN fun _ _ _ _ _ _ us hl => match us, hl with | [_], _ => rfl⟩, F.kp⟩
theorem sc_raw_Cast___len__ : FnScope ["self"] ["self"] (defScope (inClass (top 54) 26)) := ⟨rfl, rfl, rfl, by decide +kernel, rfl, by decide +kernel, by decide +kernel⟩
theorem ok_raw_Cast___len__ (Z : Fz fa fn K mg) : FnC P w K mg base 1 (ma K (ga K "Cast") "__len__") (spLnT K (ga K "Cast") "_heights") := by
  obtain ⟨fd, F⟩ := Z.c.def_ ix_raw_Cast___len__ (d := d_raw_Cast___len__) rfl
  exact ⟨⟨fd, ["self"], fn_lenT (k := 0) F sc_raw_Cast___len__ (.inl rfl) (fld_cons (z_cls (Z.c.fact 25 (f := .std (.cls "Cast")) rfl)) (z_noat (Z.c.fact 26 (f := .std (.noat "Cast" "_heights")) rfl)) fld_nil) (Z.f "len" (Z.c.fact 1 (f := .std (.free "len")) rfl)), F.bindsN fun _ _ _ _ _ _ us hl => match us, hl with | [_], _ => rfl⟩, F.kp⟩
def s_Cast_balls : SemS := (sRet (fTwo true (fOne (fOne (fVar 0) (kFld "_heights" ["Cast"])) (kS1 gSum)) (fOne (fOne (fVar 0) (kFld "_heights" ["Cast"])) (kS1 gLen)) (kS (gIc cDiv Int.fdiv))))
def fn_Cast_balls : Fn := runB [.bor] true 1 s_Cast_balls
theorem sc_Cast_balls : FnScope ["self"] ["self"] (defScope (inClass (top 54) 10)) := ⟨rfl, rfl, rfl, by decide +kernel, rfl, by decide +kernel, by decide +kernel⟩
theorem okf_Cast_balls (Z : Fz fa fn K mg) {fd : FuncData} (F : FunD K d_Cast_balls.name d_Cast_balls.qual d_Cast_balls.params d_Cast_balls.body d_Cast_balls.scope (d_Cast_balls.dvs K) [] (d_Cast_balls.ad K) fd) : FnOk P w K mg base (L2N.CX P w) 1 (recAt "property" K "Cast" "balls") fd ["self"] (spF K [.bor] true fn_Cast_balls) := by
  have nd := sc_Cast_balls.nd
  refine fn_mv F sc_Cast_balls rfl fun cdv A outer s H E J hK hfx hr => ?_
  have tk := @tk_cx P w K mg base ["self"] "Cast.balls" (defScope (inClass (top 54) 10)) (recAt "property" K "Cast" "balls") cdv A outer s H E
  have po := @po_cx P w K mg base ["self"] "Cast.balls" (defScope (inClass (top 54) 10)) (recAt "property" K "Cast" "balls") cdv A outer s H E
  show XB _ J _ (defBody (inClass (top 54) 10)) s_Cast_balls
  exact (xb_one (xs_ret (xe_fdiv (w_sum (Z.f "sum" (Z.c.fact 5 (f := .std (.free "sum")) rfl)) (w_fld hK (fld_cons (z_cls (Z.c.fact 25 (f := .std (.cls "Cast")) rfl)) (z_noat (Z.c.fact 26 (f := .std (.noat "Cast" "_heights")) rfl)) fld_nil) w_v)) (w_len (Z.f "len" (Z.c.fact 1 (f := .std (.free "len")) rfl)) (w_fld hK (fld_cons (z_cls (Z.c.fact 25 (f := .std (.cls "Cast")) rfl)) (z_noat (Z.c.fact 26 (f := .std (.noat "Cast" "_heights")) rfl)) fld_nil) w_v)))))
theorem ok_Cast_balls (Z : Fz fa fn K mg) : FnC P w K mg base 1 (recAt "property" K "Cast" "balls") (spF K [.bor] true fn_Cast_balls) := by
  obtain ⟨fd, F⟩ := Z.c.def_ ix_Cast_balls (d := d_Cast_balls) rfl
  exact ⟨⟨fd, ["self"], okf_Cast_balls Z F, F.bindsN fun _ _ _ _ _ _ us hl => match us, hl with | [_], _ => rfl⟩, F.kp⟩
def s_Cast_places : SemS := (sRet (fOne (fOne (fVar 0) (kFld "_heights" ["Cast"])) (kS1 gLen)))
def fn_Cast_places : Fn := runB [.bor] true 1 s_Cast_places
theorem sc_Cast_places : FnScope ["self"] ["self"] (defScope (inClass (top 54) 9)) := ⟨rfl, rfl, rfl, by decide +kernel, rfl, by decide +kernel, by decide +kernel⟩
theorem okf_Cast_places (Z : Fz fa fn K mg) {fd : FuncData} (F : FunD K d_Cast_places.name d_Cast_places.qual d_Cast_places.params d_Cast_places.body d_Cast_places.scope (d_Cast_places.dvs K) [] (d_Cast_places.ad K) fd) : FnOk P w K mg base (L2N.CX P w) 1 (recAt "property" K "Cast" "places") fd ["self"] (spF K [.bor] true fn_Cast_places) := by
  have nd := sc_Cast_places.nd
  refine fn_mv F sc_Cast_places rfl fun cdv A outer s H E J hK hfx hr => ?_
  have tk := @tk_cx P w K mg base ["self"] "Cast.places" (defScope (inClass (top 54) 9)) (recAt "property" K "Cast" "places") cdv A outer s H E
  have po := @po_cx P w K mg base ["self"] "Cast.places" (defScope (inClass (top 54) 9)) (recAt "property" K "Cast" "places") cdv A outer s H E
  show XB _ J _ (defBody (inClass (top 54) 9)) s_Cast_places
  exact (xb_one (xs_ret (w_len (Z.f "len" (Z.c.fact 1 (f := .std (.free "len")) rfl)) (w_fld hK (fld_cons (z_cls (Z.c.fact 25 (f := .std (.cls "Cast")) rfl)) (z_noat (Z.c.fact 26 (f := .std (.noat "Cast" "_heights")) rfl)) fld_nil) w_v))))
theorem ok_Cast_places (Z : Fz fa fn K mg) : FnC P w K mg base 1 (recAt "property" K "Cast" "places") (spF K [.bor] true fn_Cast_places) := by
  obtain ⟨fd, F⟩ := Z.c.def_ ix_Cast_places (d := d_Cast_places) rfl
  exact ⟨⟨fd, ["self"], okf_Cast_places Z F, F.bindsN fun _ _ _ _ _ _ us hl => match us, hl with | [_], _ => rfl⟩, F.kp⟩
def s_l_faces : SemS := (sSeq (sAsg 2 (fFrz (fOne (fVar 1) (kS1 gLen))))
    (sSeq (sAsg 3 (fFrz (fLc true [4] (iR1 (fVar 2)) (gNm 4) (fTst (fTwo true (fTwo true (fVar 1) (fVar 4) kIx) (fC (.int 0)) (kS gNe))) (fVar 4))))
    (sSeq (sAsg 5 (fFrz (fLc true [6] (iSrc (fVar 0) (kItO "Cast" "_heights")) (gNm 6) bYes (fVar 6))))
    (sSeq (sIf (fOr (fNot (fTru (fCall [.bor, .bor] true fn_l_is_list (aSl 5 (aSl 1 aNil))))) (fNot (fTru (fCall [.bor, .bor] true fn_l_is_list (aEx (fProp "Cast" "heights" true fn_Cast_heights (rSl 0)) (aSl 1 aNil)))))) (sRet (fC (.bl false))) sNil)
    (sSeq (sIf (fOr (fNot (fTru (fCall [.bor, .bor] true fn_l_is_list (aEx (fProp "Cast" "used" true fn_Cast_used (rSl 0)) (aSl 3 aNil))))) (fTst (fTwo true (fOne (fVar 0) (kLenOT "Cast" "_heights")) (fVar 2) (kS gNe)))) (sRet (fC (.bl false))) sNil)
    (sRet (fCall [.bor, .bor] true fn_l_is_list (aEx (fLst (aEx (fProp "Cast" "places" true fn_Cast_places (rSl 0)) (aEx (fProp "Cast" "balls" true fn_Cast_balls (rSl 0)) aNil))) (aEx (fLst (aEx (fVar 2) (aEx (fFrz (fTwo true (fOne (fVar 1) (kS1 gSum)) (fVar 2) (kS (gIc cDiv Int.fdiv)))) aNil))) aNil)))))))))
def fn_l_faces : Fn := runB [.bor, .bor] true 7 s_l_faces
theorem sc_l_faces : FnScope ["_law_cast", "_law_heights", "_law_size", "_law_used", "_law_place", "_law_walked", "_law_height"] ["_law_cast", "_law_heights"] (defScope (top 70)) := ⟨rfl, rfl, rfl, by decide +kernel, rfl, by decide +kernel, by decide +kernel⟩
theorem okf_l_faces (Z : Fz fa fn K mg) {fd : FuncData} (F : FunD K d_l_faces.name d_l_faces.qual d_l_faces.params d_l_faces.body d_l_faces.scope (d_l_faces.dvs K) [] (d_l_faces.ad K) fd) : FnOk P w K mg base (L2N.CX P w) 3 (ga K "_law_faces") fd ["_law_cast", "_law_heights"] (spF K [.bor, .bor] true fn_l_faces) := by
  have nd := sc_l_faces.nd
  refine fn_mv F sc_l_faces rfl fun cdv A outer s H E J hK hfx hr => ?_
  have tk := @tk_cx P w K mg base ["_law_cast", "_law_heights", "_law_size", "_law_used", "_law_place", "_law_walked", "_law_height"] "_law_faces" (defScope (top 70)) (ga K "_law_faces") cdv A outer s H E
  have po := @po_cx P w K mg base ["_law_cast", "_law_heights", "_law_size", "_law_used", "_law_place", "_law_walked", "_law_height"] "_law_faces" (defScope (top 70)) (ga K "_law_faces") cdv A outer s H E
  show XB _ J _ (defBody (top 70)) s_l_faces
  exact (xb_cons (w_asg nd (xe_frz (w_len (Z.f "len" (Z.c.fact 1 (f := .std (.free "len")) rfl)) w_v)))
    (xb_cons (w_asgLcF nd (own := [("_law_place", 4)]) (ok := (⟨rfl, by decide +kernel, by decide +kernel, by decide +kernel, by decide +kernel⟩ : BlkOk ["_law_cast", "_law_heights", "_law_size", "_law_used", "_law_place", "_law_walked", "_law_height"] (defScope (top 70)) _ [("_law_place", 4)])) (w_r1 (Z.f "range" (Z.c.fact 3 (f := .std (.free "range")) rfl)) w_v) (fun _ _ _ _ _ => w_gn) (fun _ _ _ _ _ => (xps_one (t_ne hK (un64 hr) (xe_idx w_v w_v) xe_int))) (fun _ _ _ _ _ => w_v))
    (xb_cons (w_asgLcF nd (own := [("_law_height", 6)]) (ok := (⟨rfl, by decide +kernel, by decide +kernel, by decide +kernel, by decide +kernel⟩ : BlkOk ["_law_cast", "_law_heights", "_law_size", "_law_used", "_law_place", "_law_walked", "_law_height"] (defScope (top 70)) _ [("_law_height", 6)])) (xi_ownT (ok_rwk_Cast___iter__ Z) (own_ok (Z.c.fact 77 (f := .own "Cast" "__iter__") rfl)) hr hK w_v) (fun _ _ _ _ _ => w_gn) (fun _ _ _ _ _ => xps_nil) (fun _ _ _ _ _ => w_v))
    (xb_cons (xs_if (xw_or (xt_not (xt_tru hK (w_call (ok_l_is_list Z) (Z.g "_law_is_list" (Z.c.fact 78 (f := .std (.glo "_law_is_list")) rfl)) hr tk hK (w_sl (w_sl xa_nil))))) (xw_or1 (xt_not (xt_tru hK (w_call (ok_l_is_list Z) (Z.g "_law_is_list" (Z.c.fact 78 (f := .std (.glo "_law_is_list")) rfl)) hr tk hK (xa_ex (w_prop hK (z_cls (Z.c.fact 25 (f := .std (.cls "Cast")) rfl)) (prop_ok (Z.c.fact 79 (f := .prop "Cast" "heights") rfl)) (ok_Cast_heights Z) hr w_rsl) (w_sl xa_nil))))))).xt (xb_one (xs_ret xe_bl)) xb_nil)
    (xb_cons (xs_if (xw_or (xt_not (xt_tru hK (w_call (ok_l_is_list Z) (Z.g "_law_is_list" (Z.c.fact 78 (f := .std (.glo "_law_is_list")) rfl)) hr tk hK (xa_ex (w_prop hK (z_cls (Z.c.fact 25 (f := .std (.cls "Cast")) rfl)) (prop_ok (Z.c.fact 80 (f := .prop "Cast" "used") rfl)) (ok_Cast_used Z) hr w_rsl) (w_sl xa_nil))))) (xw_or1 (t_ne hK (un64 hr) (w_lenOT (ok_raw_Cast___len__ Z) (own_ok (Z.c.fact 81 (f := .own "Cast" "__len__") rfl)) (Z.f "len" (Z.c.fact 1 (f := .std (.free "len")) rfl)) hr hK w_v) w_v))).xt (xb_one (xs_ret xe_bl)) xb_nil)
    (xb_one (xs_ret (w_call (ok_l_is_list Z) (Z.g "_law_is_list" (Z.c.fact 78 (f := .std (.glo "_law_is_list")) rfl)) hr tk hK (xa_ex (xe_lst (xa_ex (w_prop hK (z_cls (Z.c.fact 25 (f := .std (.cls "Cast")) rfl)) (prop_ok (Z.c.fact 83 (f := .prop "Cast" "places") rfl)) (ok_Cast_places Z) hr w_rsl) (xa_ex (w_prop hK (z_cls (Z.c.fact 25 (f := .std (.cls "Cast")) rfl)) (prop_ok (Z.c.fact 82 (f := .prop "Cast" "balls") rfl)) (ok_Cast_balls Z) hr w_rsl) xa_nil))) (xa_ex (xe_lst (xa_ex w_v (xa_ex (xe_frz (xe_fdiv (w_sum (Z.f "sum" (Z.c.fact 5 (f := .std (.free "sum")) rfl)) w_v) w_v)) xa_nil))) xa_nil))))))))))
theorem ok_l_faces (Z : Fz fa fn K mg) : FnC P w K mg base 3 (ga K "_law_faces") (spF K [.bor, .bor] true fn_l_faces) := by
  obtain ⟨fd, F⟩ := Z.c.def_ ix_l_faces (d := d_l_faces) rfl
  exact ⟨⟨fd, ["_law_cast", "_law_heights"], okf_l_faces Z F, F.bindsN fun _ _ _ _ _ _ us hl => match us, hl with | [_, _], _ => rfl⟩, F.kp⟩
def s_Cast___eq__ : SemS := (sRet (fAndV (fOne (fVar 1) (kIsi (isIns [("Cast", true)]))) (fTwo true (fOne (fVar 0) (kFld "_heights" ["Cast"])) (fOne (fVar 1) (kFld "_heights" ["Cast"])) (kS gEq))))
def fn_Cast___eq__ : Fn := runB [.bor, .bor] true 2 s_Cast___eq__
theorem sc_Cast___eq__ : FnScope ["self", "other"] ["self", "other"] (defScope (inClass (top 54) 23)) := ⟨rfl, rfl, rfl, by decide +kernel, rfl, by decide +kernel, by decide +kernel⟩
theorem okf_Cast___eq__ (Z : Fz fa fn K mg) {fd : FuncData} (F : FunD K d_Cast___eq__.name d_Cast___eq__.qual d_Cast___eq__.params d_Cast___eq__.body d_Cast___eq__.scope (d_Cast___eq__.dvs K) [] (d_Cast___eq__.ad K) fd) : FnOk P w K mg base (L2N.CX P w) 1 (ma K (ga K "Cast") "__eq__") fd ["self", "other"] (spF K [.bor, .bor] true fn_Cast___eq__) := by
  have nd := sc_Cast___eq__.nd
  refine fn_mv F sc_Cast___eq__ rfl fun cdv A outer s H E J hK hfx hr => ?_
  have tk := @tk_cx P w K mg base ["self", "other"] "Cast.__eq__" (defScope (inClass (top 54) 23)) (ma K (ga K "Cast") "__eq__") cdv A outer s H E
  have po := @po_cx P w K mg base ["self", "other"] "Cast.__eq__" (defScope (inClass (top 54) 23)) (ma K (ga K "Cast") "__eq__") cdv A outer s H E
  show XB _ J _ (defBody (inClass (top 54) 23)) s_Cast___eq__
  exact (xb_one (xs_ret (xe_and (w_isiO hK (Z.c.fact 85 (f := .kiA "Cast") rfl) (it_cons (z_cls (Z.c.fact 25 (f := .std (.cls "Cast")) rfl)) (Z.c.fact 86 (f := .insO "Cast") rfl) (kit_ok (Z.c.fact 87 (f := .kit "Cast" "Cast" true) rfl)) it_nil) (Z.f "isinstance" (Z.c.fact 9 (f := .std (.free "isinstance")) rfl)) (pe_glob (by rfl) (Z.g "Cast" (Z.c.fact 13 (f := .std (.glo "Cast")) rfl)) (v := .ref (ga K "Cast")) rfl) w_v) (xe_one1 (w_eq hK (un64 hr) (w_fld hK (fld_cons (z_cls (Z.c.fact 25 (f := .std (.cls "Cast")) rfl)) (z_noat (Z.c.fact 26 (f := .std (.noat "Cast" "_heights")) rfl)) fld_nil) w_v) (w_fld hK (fld_cons (z_cls (Z.c.fact 25 (f := .std (.cls "Cast")) rfl)) (z_noat (Z.c.fact 26 (f := .std (.noat "Cast" "_heights")) rfl)) fld_nil) w_v))))))
theorem ok_Cast___eq__ (Z : Fz fa fn K mg) : FnC P w K mg base 1 (ma K (ga K "Cast") "__eq__") (spF K [.bor, .bor] true fn_Cast___eq__) := by
  obtain ⟨fd, F⟩ := Z.c.def_ ix_Cast___eq__ (d := d_Cast___eq__) rfl
  exact ⟨⟨fd, ["self", "other"], okf_Cast___eq__ Z F, F.bindsN fun _ _ _ _ _ _ us hl => match us, hl with | [_, _], _ => rfl⟩, F.kp⟩
def s_l_good : SemS := (sSeq (sAsg 1 (fFrz (fTwo true (fLst (aEx (fC (.int 1)) aNil)) (fOne (fVar 0) (kS1 gLen)) kMul)))
    (sSeq (sAsg 2 (fOne (fVar 0) kListOf))
    (sSeq (sAsg 3 (fFrz (fMake "Cast" [.bor] fn_Cast___init__ (aSl 2 aNil))))
    (sSeq (sAsg 4 (fFrz (fMake "Cast" [.bor] fn_Cast___init__ (aEx (fOne (fVar 1) kListOf) aNil))))
    (sSeq (sSet 2 (fC (.int 0)) (fFrz (fTwo true (fTwo true (fVar 2) (fC (.int 0)) kIx) (fC (.int 1)) kAdd)))
    (sSeq (sExpr (fApp 2 (fC (.int 3))))
    (sSeq (sIf (fOr (fNot (fTru (fCall [.bor, .bor] true fn_l_faces (aSl 3 (aSl 0 aNil))))) (fNot (fTru (fCall [.bor, .bor] true fn_l_faces (aSl 4 (aSl 1 aNil)))))) (sRet (fC (.bl false))) sNil)
    (sSeq (sAsg 5 (fProp "Cast" "heights" true fn_Cast_heights (rSl 3)))
    (sSeq (sSet 5 (fC (.int 0)) (fFrz (fTwo true (fTwo true (fVar 5) (fC (.int 0)) kIx) (fC (.int 1)) kAdd)))
    (sSeq (sExpr (fApp 5 (fC (.int 3))))
    (sSeq (sAsg 6 (fProp "Cast" "used" true fn_Cast_used (rSl 3)))
    (sSeq (sExpr (fApp 6 (fFrz (fOne (fVar 0) (kS1 gLen)))))
    (sSeq (sAsg 7 (fProp "Cast" "heights" true fn_Cast_heights (rSl 4)))
    (sSeq (sExpr (fOnL 7 kClear))
    (sSeq (sIf (fOr (fNot (fTru (fCall [.bor, .bor] true fn_l_faces (aSl 3 (aSl 0 aNil))))) (fNot (fTru (fCall [.bor, .bor] true fn_l_faces (aSl 4 (aSl 1 aNil)))))) (sRet (fC (.bl false))) sNil)
    (sSeq (sAsg 8 (fOp2 "Cast" "__eq__" [.bor, .bor] true fn_Cast___eq__ (rSl 3) (rSl 4)))
    (sSeq (sIf (fOr (fNot (fTru (fOne (fVar 8) (kIsi isBl)))) (fTst (fTwo true (fVar 8) (fTwo true (fVar 0) (fVar 1) (kS gEq)) (kS gNe)))) (sRet (fC (.bl false))) sNil)
    (sRet (fAndV (fTwo true (fOp2 "Cast" "__eq__" [.bor, .bor] true fn_Cast___eq__ (rSl 3) (rEx (fMake "Cast" [.bor] fn_Cast___init__ (aEx (fOne (fVar 0) kListOf) aNil)))) (fC (.bl true)) (kS gIsB)) (fTwo true (fOp2L "Cast" "__eq__" [.bor, .bor] true fn_Cast___eq__ (rSl 3) (rEx (fOne (fVar 0) kListOf))) (fC (.bl false)) (kS gIsB)))))))))))))))))))))
def fn_l_good : Fn := runB [.bor] true 9 s_l_good
theorem sc_l_good : FnScope ["_law_heights", "_law_ones", "_law_given", "_law_cast", "_law_other", "_law_first", "_law_second", "_law_third", "_law_equal"] ["_law_heights"] (defScope (top 71)) := ⟨rfl, rfl, rfl, by decide +kernel, rfl, by decide +kernel, by decide +kernel⟩
theorem okf_l_good (Z : Fz fa fn K mg) {fd : FuncData} (F : FunD K d_l_good.name d_l_good.qual d_l_good.params d_l_good.body d_l_good.scope (d_l_good.dvs K) [] (d_l_good.ad K) fd) : FnOk P w K mg base (L2N.CX P w) 5 (ga K "_law_good") fd ["_law_heights"] (spF K [.bor] true fn_l_good) := by
  have nd := sc_l_good.nd
  refine fn_mv F sc_l_good rfl fun cdv A outer s H E J hK hfx hr => ?_
  have tk := @tk_cx P w K mg base ["_law_heights", "_law_ones", "_law_given", "_law_cast", "_law_other", "_law_first", "_law_second", "_law_third", "_law_equal"] "_law_good" (defScope (top 71)) (ga K "_law_good") cdv A outer s H E
  have po := @po_cx P w K mg base ["_law_heights", "_law_ones", "_law_given", "_law_cast", "_law_other", "_law_first", "_law_second", "_law_third", "_law_equal"] "_law_good" (defScope (top 71)) (ga K "_law_good") cdv A outer s H E
  show XB _ J _ (defBody (top 71)) s_l_good
  exact (xb_cons (w_asg nd (xe_frz (xe_mul (xe_lst (xa_ex xe_int xa_nil)) (w_len (Z.f "len" (Z.c.fact 1 (f := .std (.free "len")) rfl)) w_v))))
    (xb_cons (w_asg nd (w_list (Z.f "list" (Z.c.fact 75 (f := .std (.free "list")) rfl)) w_v))
    (xb_cons (w_asg nd (xe_frz (w_make (ok_Cast___init__ Z) (z_mkr (Z.c.fact 27 (f := .std (.mkr "Cast")) rfl)) (Z.g "Cast" (Z.c.fact 13 (f := .std (.glo "Cast")) rfl)) hr tk hK (w_sl xa_nil))))
    (xb_cons (w_asg nd (xe_frz (w_make (ok_Cast___init__ Z) (z_mkr (Z.c.fact 27 (f := .std (.mkr "Cast")) rfl)) (Z.g "Cast" (Z.c.fact 13 (f := .std (.glo "Cast")) rfl)) hr tk hK (xa_ex (w_list (Z.f "list" (Z.c.fact 75 (f := .std (.free "list")) rfl)) w_v) xa_nil))))
    (xb_cons (w_set xe_int (xe_frz (xe_add (xe_idx w_v xe_int) xe_int)))
    (xb_cons (xs_expr (w_app xe_int))
    (xb_cons (xs_if (xw_or (xt_not (xt_tru hK (w_call (ok_l_faces Z) (Z.g "_law_faces" (Z.c.fact 84 (f := .std (.glo "_law_faces")) rfl)) hr tk hK (w_sl (w_sl xa_nil))))) (xw_or1 (xt_not (xt_tru hK (w_call (ok_l_faces Z) (Z.g "_law_faces" (Z.c.fact 84 (f := .std (.glo "_law_faces")) rfl)) hr tk hK (w_sl (w_sl xa_nil))))))).xt (xb_one (xs_ret xe_bl)) xb_nil)
    (xb_cons (w_asg nd (w_prop hK (z_cls (Z.c.fact 25 (f := .std (.cls "Cast")) rfl)) (prop_ok (Z.c.fact 79 (f := .prop "Cast" "heights") rfl)) (ok_Cast_heights Z) hr w_rsl))
    (xb_cons (w_set xe_int (xe_frz (xe_add (xe_idx w_v xe_int) xe_int)))
    (xb_cons (xs_expr (w_app xe_int))
    (xb_cons (w_asg nd (w_prop hK (z_cls (Z.c.fact 25 (f := .std (.cls "Cast")) rfl)) (prop_ok (Z.c.fact 80 (f := .prop "Cast" "used") rfl)) (ok_Cast_used Z) hr w_rsl))
    (xb_cons (xs_expr (w_app (xe_frz (w_len (Z.f "len" (Z.c.fact 1 (f := .std (.free "len")) rfl)) w_v))))
    (xb_cons (w_asg nd (w_prop hK (z_cls (Z.c.fact 25 (f := .std (.cls "Cast")) rfl)) (prop_ok (Z.c.fact 79 (f := .prop "Cast" "heights") rfl)) (ok_Cast_heights Z) hr w_rsl))
    (xb_cons (xs_expr w_clear)
    (xb_cons (xs_if (xw_or (xt_not (xt_tru hK (w_call (ok_l_faces Z) (Z.g "_law_faces" (Z.c.fact 84 (f := .std (.glo "_law_faces")) rfl)) hr tk hK (w_sl (w_sl xa_nil))))) (xw_or1 (xt_not (xt_tru hK (w_call (ok_l_faces Z) (Z.g "_law_faces" (Z.c.fact 84 (f := .std (.glo "_law_faces")) rfl)) hr tk hK (w_sl (w_sl xa_nil))))))).xt (xb_one (xs_ret xe_bl)) xb_nil)
    (xb_cons (w_asg nd (w_ownC (ok_Cast___eq__ Z) (own_ok (Z.c.fact 88 (f := .own "Cast" "__eq__") rfl)) hr tk hK w_rsl w_rsl))
    (xb_cons (xs_if (xw_or (xt_not (xt_tru hK (w_isi hK isOk_bl (Z.f "isinstance" (Z.c.fact 9 (f := .std (.free "isinstance")) rfl)) (w_ty (Z.f "bool" (Z.c.fact 10 (f := .std (.free "bool")) rfl))) w_v))) (xw_or1 (t_ne hK (un64 hr) w_v (w_eq hK (un64 hr) w_v w_v)))).xt (xb_one (xs_ret xe_bl)) xb_nil)
    (xb_one (xs_ret (xe_and (w_isB (w_ownC (ok_Cast___eq__ Z) (own_ok (Z.c.fact 88 (f := .own "Cast" "__eq__") rfl)) hr tk hK w_rsl (xr_ex (w_make (ok_Cast___init__ Z) (z_mkr (Z.c.fact 27 (f := .std (.mkr "Cast")) rfl)) (Z.g "Cast" (Z.c.fact 13 (f := .std (.glo "Cast")) rfl)) hr tk hK (xa_ex (w_list (Z.f "list" (Z.c.fact 75 (f := .std (.free "list")) rfl)) w_v) xa_nil)))) xe_bl) (xe_one1 (w_isB (w_ownCL (ok_Cast___eq__ Z) (own_ok (Z.c.fact 88 (f := .own "Cast" "__eq__") rfl)) hr tk hK w_rsl (xr_ex (w_list (Z.f "list" (Z.c.fact 75 (f := .std (.free "list")) rfl)) w_v))) xe_bl))))))))))))))))))))))
theorem ok_l_good (Z : Fz fa fn K mg) : FnC P w K mg base 5 (ga K "_law_good") (spF K [.bor] true fn_l_good) := by
  obtain ⟨fd, F⟩ := Z.c.def_ ix_l_good (d := d_l_good) rfl
  exact ⟨⟨fd, ["_law_heights"], okf_l_good Z F, F.bindsN fun _ _ _ _ _ _ us hl => match us, hl with | [_], _ => rfl⟩, F.kp⟩
def h_l_base_0 : HSem := ⟨some 1, tabX ["BadSize", "BadHeight", "Collision", "TooManyBalls"] [], fun k fs => (sRet (fIsX (List.contains (["BadSize", "BadHeight", "Collision", "TooManyBalls"] : List Str) k)))⟩
def s_l_base : SemS := (sSeq (sTry (sExpr (fMake "Cast" [.bor] fn_Cast___init__ (aSl 0 aNil))) [h_l_base_0])
    (sRet (fC (.bl false))))
def fn_l_base : Fn := runB [.bor] true 2 s_l_base
theorem sc_l_base : FnScope ["_law_heights", "e"] ["_law_heights"] (defScope (top 69)) := ⟨rfl, rfl, rfl, by decide +kernel, rfl, by decide +kernel, by decide +kernel⟩
theorem okf_l_base (Z : Fz fa fn K mg) {fd : FuncData} (F : FunD K d_l_base.name d_l_base.qual d_l_base.params d_l_base.body d_l_base.scope (d_l_base.dvs K) [] (d_l_base.ad K) fd) : FnOk P w K mg base (L2N.CX P w) 5 (ga K "_law_base") fd ["_law_heights"] (spF K [.bor] true fn_l_base) := by
  have nd := sc_l_base.nd
  refine fn_mv0 F sc_l_base rfl fun cdv A outer s H E J hK hfx hr => ?_
  have tk := @tk_cx P w K mg base ["_law_heights", "e"] "_law_base" (defScope (top 69)) (ga K "_law_base") cdv A outer s H E
  have po := @po_cx P w K mg base ["_law_heights", "e"] "_law_base" (defScope (top 69)) (ga K "_law_base") cdv A outer s H E
  show XB0 _ J _ (defBody (top 69)) s_l_base
  exact (xb0_cons (xs0_try (l := [(h_l_base_0, .ref (ga K "RollError"))]) rfl rfl nd tk hfx hK (fun W tp xe tk po => (xb_one (xs_expr (w_make (ok_Cast___init__ Z) (z_mkr (Z.c.fact 27 (f := .std (.mkr "Cast")) rfl)) (Z.g "Cast" (Z.c.fact 13 (f := .std (.glo "Cast")) rfl)) hr tk hK (w_sl xa_nil))))) (.as (h := h_l_base_0) (c := .ref (ga K "RollError")) (names_own (Z.g "RollError" (Z.c.fact 89 (f := .std (.glo "RollError")) rfl))) rfl rfl rfl (tabX_ok (all_cons (z_exm (Z.c.fact 93 (f := .std (.exm "BadSize" "RollError" true)) rfl)) (all_cons (z_exm (Z.c.fact 92 (f := .std (.exm "BadHeight" "RollError" true)) rfl)) (all_cons (z_exm (Z.c.fact 91 (f := .std (.exm "Collision" "RollError" true)) rfl)) (all_cons (z_exm (Z.c.fact 90 (f := .std (.exm "TooManyBalls" "RollError" true)) rfl)) all_nil)))) all_nil) (fun a oe d pn J k fs hK hx er hz hf hm => by
        have hk := tabX_yes hm
        rcases List.mem_cons.mp hk with rfl | hk
        · show XB _ _ _ _ ((sRet (fIsX (List.contains (["BadSize", "BadHeight", "Collision", "TooManyBalls"] : List Str) "BadSize"))))
          exact (xb_one (xs_ret (xe_isx (b := true) hx hK er hz hf (xr_ok (Z.c.fact 41 (f := .xr "BadSize") rfl)).2 (.ty "ValueError") (kiT_ok (Z.c.fact 95 (f := .kiT "BadSize" "ValueError" true) rfl)) rfl (Z.f "isinstance" (Z.c.fact 9 (f := .std (.free "isinstance")) rfl)) (by decide +kernel) rfl (.inl rfl) (w_ty (Z.f "ValueError" (Z.c.fact 94 (f := .std (.free "ValueError")) rfl))))))
        rcases List.mem_cons.mp hk with rfl | hk
        · show XB _ _ _ _ ((sRet (fIsX (List.contains (["BadSize", "BadHeight", "Collision", "TooManyBalls"] : List Str) "BadHeight"))))
          exact (xb_one (xs_ret (xe_isx (b := true) hx hK er hz hf (xr_ok (Z.c.fact 53 (f := .xr "BadHeight") rfl)).2 (.ty "ValueError") (kiT_ok (Z.c.fact 96 (f := .kiT "BadHeight" "ValueError" true) rfl)) rfl (Z.f "isinstance" (Z.c.fact 9 (f := .std (.free "isinstance")) rfl)) (by decide +kernel) rfl (.inl rfl) (w_ty (Z.f "ValueError" (Z.c.fact 94 (f := .std (.free "ValueError")) rfl))))))
        rcases List.mem_cons.mp hk with rfl | hk
        · show XB _ _ _ _ ((sRet (fIsX (List.contains (["BadSize", "BadHeight", "Collision", "TooManyBalls"] : List Str) "Collision"))))
          exact (xb_one (xs_ret (xe_isx (b := true) hx hK er hz hf (xr_ok (Z.c.fact 63 (f := .xr "Collision") rfl)).2 (.ty "ValueError") (kiT_ok (Z.c.fact 97 (f := .kiT "Collision" "ValueError" true) rfl)) rfl (Z.f "isinstance" (Z.c.fact 9 (f := .std (.free "isinstance")) rfl)) (by decide +kernel) rfl (.inl rfl) (w_ty (Z.f "ValueError" (Z.c.fact 94 (f := .std (.free "ValueError")) rfl))))))
        rcases List.mem_cons.mp hk with rfl | hk
        · show XB _ _ _ _ ((sRet (fIsX (List.contains (["BadSize", "BadHeight", "Collision", "TooManyBalls"] : List Str) "TooManyBalls"))))
          exact (xb_one (xs_ret (xe_isx (b := true) hx hK er hz hf (xr_ok (Z.c.fact 74 (f := .xr "TooManyBalls") rfl)).2 (.ty "ValueError") (kiT_ok (Z.c.fact 98 (f := .kiT "TooManyBalls" "ValueError" true) rfl)) rfl (Z.f "isinstance" (Z.c.fact 9 (f := .std (.free "isinstance")) rfl)) (by decide +kernel) rfl (.inl rfl) (w_ty (Z.f "ValueError" (Z.c.fact 94 (f := .std (.free "ValueError")) rfl))))))
        cases hk) .nil))
    (xb0_one (XS.to0 (xs_ret xe_bl))))
theorem ok_l_base (Z : Fz fa fn K mg) : FnC P w K mg base 5 (ga K "_law_base") (spF K [.bor] true fn_l_base) := by
  obtain ⟨fd, F⟩ := Z.c.def_ ix_l_base (d := d_l_base) rfl
  exact ⟨⟨fd, ["_law_heights"], okf_l_base Z F, F.bindsN fun _ _ _ _ _ _ us hl => match us, hl with | [_], _ => rfl⟩, F.kp⟩
def s_law : SemS := (sSeq (sAsg 1 (fCall [.bor] true fn_l_begin (aSl 0 aNil)))
    (sSeq (sAsg 2 (fFrz (fCall [.io] true fn_l_draw_list (aSl 1 aNil))))
    (sSeq (sAsg 3 (fFrz (fCall [.bor] true fn_l_reason (aSl 2 aNil))))
    (sSeq (sAsg 4 (fFrz (fOne (fVar 2) kListOf)))
    (sSeq (sAsg 5 (fFrz (fCall [.bor] true fn_l_outcome (aSl 4 aNil))))
    (sSeq (sIf (fOr (fTst (fTwo true (fVar 5) (fVar 3) (kS gNe))) (fTst (fTwo true (fVar 4) (fVar 2) (kS gNe)))) (sRet (fC (.bl false))) sNil)
    (sSeq (sIf (fOr (fNot (fTru (fCall [.bor] true fn_l_whole (aEx (fC (.int 6)) aNil)))) (fNot (fTru (fCall [.bor] true fn_l_whole (aEx (fC (.int 16)) aNil))))) (sRet (fC (.bl false))) sNil)
    (sSeq (sIf (fOr (fTst (fTwo true (fC (.int 6)) (fC (.int 6)) (kS gNe))) (fTst (fTwo true (fC (.int 16)) (fC (.int 16)) (kS gNe)))) (sRet (fC (.bl false))) sNil)
    (sSeq (sIf (fTst (fTwo true (fVar 3) (fLst aNil) (kS gEq))) (sRet (fCall [.bor] true fn_l_good (aSl 2 aNil))) sNil)
    (sRet (fAndV (fCall [.bor] true fn_l_base (aEx (fOne (fVar 2) kListOf) aNil)) (fCall [.bor] true fn_l_good (aEx (fLst (aEx (fC (.int 2)) (aEx (fC (.int 0)) (aEx (fC (.int 1)) aNil)))) aNil)))))))))))))
def fn_law : Fn := runB [.bor] true 6 s_law
theorem sc_law : FnScope ["_law_script", "_law_state", "_law_heights", "_law_due", "_law_given", "_law_told"] ["_law_script"] (defScope (top 72)) := ⟨rfl, rfl, rfl, by decide +kernel, rfl, by decide +kernel, by decide +kernel⟩
theorem okf_law (Z : Fz fa fn K mg) {fd : FuncData} (F : FunD K d_law.name d_law.qual d_law.params d_law.body d_law.scope (d_law.dvs K) [] (d_law.ad K) fd) : FnOk P w K mg base (L2N.CX P w) 6 (ga K "law") fd ["_law_script"] (spF K [.bor] true fn_law) := by
  have nd := sc_law.nd
  refine fn_mv F sc_law rfl fun cdv A outer s H E J hK hfx hr => ?_
  have tk := @tk_cx P w K mg base ["_law_script", "_law_state", "_law_heights", "_law_due", "_law_given", "_law_told"] "law" (defScope (top 72)) (ga K "law") cdv A outer s H E
  have po := @po_cx P w K mg base ["_law_script", "_law_state", "_law_heights", "_law_due", "_law_given", "_law_told"] "law" (defScope (top 72)) (ga K "law") cdv A outer s H E
  show XB _ J _ (defBody (top 72)) s_law
  exact (xb_cons (w_asg nd (w_call (ok_l_begin Z) (Z.g "_law_begin" (Z.c.fact 99 (f := .std (.glo "_law_begin")) rfl)) hr tk hK (w_sl xa_nil)))
    (xb_cons (w_asg nd (xe_frz (w_call (ok_l_draw_list Z) (Z.g "_law_draw_list" (Z.c.fact 100 (f := .std (.glo "_law_draw_list")) rfl)) hr tk hK (w_sl xa_nil))))
    (xb_cons (w_asg nd (xe_frz (w_call (ok_l_reason Z) (Z.g "_law_reason" (Z.c.fact 101 (f := .std (.glo "_law_reason")) rfl)) hr tk hK (w_sl xa_nil))))
    (xb_cons (w_asg nd (xe_frz (w_list (Z.f "list" (Z.c.fact 75 (f := .std (.free "list")) rfl)) w_v)))
    (xb_cons (w_asg nd (xe_frz (w_call (ok_l_outcome Z) (Z.g "_law_outcome" (Z.c.fact 102 (f := .std (.glo "_law_outcome")) rfl)) hr tk hK (w_sl xa_nil))))
    (xb_cons (xs_if (xw_or (t_ne hK (un64 hr) w_v w_v) (xw_or1 (t_ne hK (un64 hr) w_v w_v))).xt (xb_one (xs_ret xe_bl)) xb_nil)
    (xb_cons (xs_if (xw_or (xt_not (xt_tru hK (w_call (ok_l_whole Z) (Z.g "_law_whole" (Z.c.fact 11 (f := .std (.glo "_law_whole")) rfl)) hr tk hK (xa_ex (w_cval (cval_ok (Z.c.fact 12 (f := .cval "Cast" "MOST_PLACES" 6) rfl)) (Z.g "Cast" (Z.c.fact 13 (f := .std (.glo "Cast")) rfl))) xa_nil)))) (xw_or1 (xt_not (xt_tru hK (w_call (ok_l_whole Z) (Z.g "_law_whole" (Z.c.fact 11 (f := .std (.glo "_law_whole")) rfl)) hr tk hK (xa_ex (w_cval (cval_ok (Z.c.fact 21 (f := .cval "Cast" "MOST_BALLS" 16) rfl)) (Z.g "Cast" (Z.c.fact 13 (f := .std (.glo "Cast")) rfl))) xa_nil)))))).xt (xb_one (xs_ret xe_bl)) xb_nil)
    (xb_cons (xs_if (xw_or (t_ne hK (un64 hr) (w_cval (cval_ok (Z.c.fact 12 (f := .cval "Cast" "MOST_PLACES" 6) rfl)) (Z.g "Cast" (Z.c.fact 13 (f := .std (.glo "Cast")) rfl))) xe_int) (xw_or1 (t_ne hK (un64 hr) (w_cval (cval_ok (Z.c.fact 21 (f := .cval "Cast" "MOST_BALLS" 16) rfl)) (Z.g "Cast" (Z.c.fact 13 (f := .std (.glo "Cast")) rfl))) xe_int))).xt (xb_one (xs_ret xe_bl)) xb_nil)
    (xb_cons (xs_if (t_eq hK (un64 hr) w_v (xe_lst xa_nil)) (xb_one (xs_ret (w_call (ok_l_good Z) (Z.g "_law_good" (Z.c.fact 103 (f := .std (.glo "_law_good")) rfl)) hr tk hK (w_sl xa_nil)))) xb_nil)
    (xb_one (xs_ret (xe_and (w_call (ok_l_base Z) (Z.g "_law_base" (Z.c.fact 104 (f := .std (.glo "_law_base")) rfl)) hr tk hK (xa_ex (w_list (Z.f "list" (Z.c.fact 75 (f := .std (.free "list")) rfl)) w_v) xa_nil)) (xe_one1 (w_call (ok_l_good Z) (Z.g "_law_good" (Z.c.fact 103 (f := .std (.glo "_law_good")) rfl)) hr tk hK (xa_ex (xe_lst (xa_ex xe_int (xa_ex xe_int (xa_ex xe_int xa_nil)))) xa_nil)))))))))))))))
end
end MV
namespace MV
open PySem PySem.Spec PyProof.Rows L2 He
def nm0 : List PySem.Str := ["_wall", "RollError", "BadSize", "BadHeight", "Collision", "TooManyBalls", "BadStretch", "BadStands", "BadNumber", "Unlike", "NoRoom", "BadText", "BadCalendar", "Full", "TooHeavy", "MOST_PLACES", "MOST_HEIGHT", "check_places", "check_stretch", "check_stands"]
def nm1 : List PySem.Str := ["check_like", "at_place", "landing", "came_list", "heights_of", "launch", "airborne", "count_between", "one_entry", "carried_came", "carried_to", "step_came", "peel", "product_heights", "mirrored_heights", "turned_heights", "table_of", "table_row", "heights_of_table", "came_in_table"]
def nm2 : List PySem.Str := ["is_within", "first_surplus", "surplus_end", "quotient_ahead", "least_difference", "quotient_behind", "DIGITS", "MOST_TIMES", "Cast", "is_short_number", "check_divisor", "_law_begin", "_law_draw", "_law_whole", "_law_is_list", "_law_throws", "_law_any_item", "_law_spoilt", "_law_draw_list", "_law_reason"]
def nm3 : List PySem.Str := ["_law_row", "_law_outcome", "_law_base", "_law_faces", "_law_good"]
def nms : List PySem.Str := nm0 ++ nm1 ++ nm2 ++ nm3
abbrev RR : PySem.W.OpenRow := PySem.W.OpenLaw.row PySem.Challenge.rw_datelessrolls_k00_heights_taken
def asl : List Addr := [3, 2, 6, 4, 21, 31, 51, 70, 89, 108, 127, 146, 165, 184, 203, 222, 241, 260, 279, 288, 295, 302, 309, 316, 323, 328, 333, 340, 345, 350, 355, 360, 367, 374, 379, 386, 391, 396, 401, 408, 413, 420, 427, 434, 441, 446, 451, 458, 661, 670, 677, 682, 689, 696, 703, 708, 715, 722, 727, 734, 739, 746, 753, 758, 765, 772, 0, 20, 30, 50, 69, 88, 107, 126, 145, 164, 183, 202, 221, 240, 259, 278, 287, 294, 301, 308, 315, 322, 327, 332, 339, 344, 349, 354, 359, 366, 373, 378, 385, 390, 395, 400, 407, 412, 419, 426, 433, 440, 445, 450, 457, 660, 669, 676, 681, 688, 695, 702, 707, 714, 721, 726, 733, 738, 745, 752, 757, 764, 771, 15, 16, 17, 18, 19, 29, 32, 48, 49, 67, 68, 86, 87, 105, 106, 124, 125, 143, 144, 162, 163, 181, 182, 200, 201, 219, 220, 238, 239, 257, 258, 276, 277, 282, 283, 284, 285, 286, 289, 290, 291, 292, 293, 296, 297, 298, 299, 300, 303, 304, 305, 306, 307, 310, 311, 312, 313, 314, 317, 318, 319, 320, 321, 324, 325, 326, 329, 330, 331, 334, 335, 336, 337, 338, 341, 342, 343, 346, 347, 348, 351, 352, 353, 356, 357, 358, 361, 362, 363, 364, 365, 368, 369, 370, 371, 372, 375, 376, 377, 380, 381, 382, 383, 384, 387, 388, 389, 392, 393, 394, 397, 398, 399, 402, 403, 404, 405, 406, 409, 410, 411, 414, 415, 416, 417, 418, 421, 422, 423, 424, 425, 428, 429, 430, 431, 432, 435, 436, 437, 438, 439, 442, 443, 444, 447, 448, 449, 452, 453, 454, 455, 456, 472, 481, 491, 501, 511, 519, 525, 533, 541, 549, 555, 562, 569, 576, 583, 590, 597, 602, 609, 616, 623, 630, 637, 644, 651, 658, 659, 662, 663, 666, 667, 668, 671, 672, 673, 674, 675, 678, 679, 680, 683, 684, 685, 686, 687, 690, 691, 692, 693, 694, 697, 698, 699, 700, 701, 704, 705, 706, 709, 710, 711, 712, 713, 716, 717, 718, 719, 720, 723, 724, 725, 728, 729, 730, 731, 732, 735, 736, 737, 740, 741, 742, 743, 744, 747, 748, 749, 750, 751, 754, 755, 756, 759, 760, 761, 762, 763, 766, 767, 768, 769, 770, 47, 66, 85, 104, 123, 142, 161, 180, 199, 218, 237, 256, 275, 471, 479, 480, 489, 490, 499, 500, 509, 510, 517, 518, 524, 532, 540, 548, 554, 561, 568, 575, 582, 589, 596, 601, 608, 615, 622, 629, 636, 643, 650, 657, 42, 43, 44, 45, 46, 61, 62, 63, 64, 65, 80, 81, 82, 83, 84, 99, 100, 101, 102, 103, 118, 119, 120, 121, 122, 137, 138, 139, 140, 141, 156, 157, 158, 159, 160, 175, 176, 177, 178, 179, 194, 195, 196, 197, 198, 213, 214, 215, 216, 217, 232, 233, 234, 235, 236, 251, 252, 253, 254, 255, 270, 271, 272, 273, 274, 466, 467, 468, 469, 470, 478, 482, 488, 492, 498, 502, 508, 512, 516, 520, 521, 522, 523, 531, 539, 547, 553, 556, 557, 558, 559, 560, 563, 564, 565, 566, 567, 570, 571, 572, 573, 574, 577, 578, 579, 580, 581, 584, 585, 586, 587, 588, 591, 592, 593, 594, 595, 598, 599, 600, 603, 604, 605, 606, 607, 610, 611, 612, 613, 614, 617, 618, 619, 620, 621, 624, 625, 626, 627, 628, 631, 632, 633, 634, 635, 638, 639, 640, 641, 642, 645, 646, 647, 648, 649, 652, 653, 654, 655, 656, 473, 474, 475, 476, 477, 483, 484, 485, 486, 487, 493, 494, 495, 496, 497, 503, 504, 505, 506, 507, 513, 514, 515, 526, 527, 528, 529, 530, 534, 535, 536, 537, 538, 542, 543, 544, 545, 546, 550, 551, 552]
abbrev hkM : PySem.W.Hook := hookM asl fa fn
def obM (s : PySem.W.SharedT) : AlM := obsMG asl fa fn (HandSHeadRun.getT s)
theorem obM_eq (s : PySem.W.SharedT) : obM s = hkM.obs s.abs := obsMG_eq (HandSHeadRun.getT_eq s)
noncomputable abbrev endM (w : World) (os : OsState) : Option PySem.W.SharedT := HandSHeadRun.endF (HandSHeadRun.stepQ (HandSHeadRun.denQ HandSHeadRun.tabQ) RR.prog w) 60000 RR.prog w os
open PySem.W PySem.Calls HandSHeadRun in
theorem run1 (w : World) (os : OsState) : (endM w os).map (fun s => looksF RR.prog (boot_heap w.params) s.abs) = some true := by kernel_rfl
open PySem.W PySem.Calls HandSHeadRun in
theorem run2 (w : World) (os : OsState) : (endM w os).map (fun s => seenQ (view RR.prog [72]) nms (importedModules RR.prog.main.body) (fun s => xlAt (view RR.prog [72]) [] s && recOk RR.toRowW.records s) s.abs) = some (openGood (view RR.prog [72]) nms) := by kernel_rfl
theorem run3 (w : World) (os : OsState) : (endM w os).map (fun s => obM s) = some (hkM.val w) := by kernel_rfl
theorem runM (w : World) : HandSHeadRun.RunEq RR (PySem.W.view RR.prog [72]) hkM obM 60000 nms w := fun os => map3 (run1 w os) (run2 w os) (run3 w os)
theorem factsM {P : Program} {w : World} {K : PySem.W.Frag} {h : Heap} {mg : Str → Option Value} {f : Addr} (X : K.In h) (G : h.Ns mainGlobals mg) (hfa : mg ("law" : Str) = some (.ref f)) (c : SaysM fa fn K) :
    ∃ fd : FuncData, (∀ (s : Shared) (v : Value), BindsTo s fd ⟨[v], []⟩ [("_law_script", v)]) ∧ ∀ base : Heap, K.In base → base.Ns mainGlobals mg → FnOk P w K mg base (L2N.CX P w) 6 f fd ["_law_script"] (spF K [.bor] true fn_law) := by
  have Z : Fz fa fn K mg := Fz.of X G c
  have e := hfa.symm.trans (Z.g "law" (Z.c.fact 105 (f := .std (.glo "law")) rfl))
  cases e
  obtain ⟨fd, F⟩ := Z.c.def_ ix_law (d := d_law) rfl
  have b := FunD.bindsA (ps := ["_law_script"]) F fun _ _ _ _ _ _ us hl => match us, hl with | [_], _ => rfl
  exact ⟨fd, fun s v => b s [v] rfl, fun base _ _ => okf_law (base := base) Z F⟩
end MV
open PySem PySem.W PySem.Calls PyProof.Rows in
theorem law_holds_of (main : ∀ ns : List Int, ns.length ≤ 63 → MV.fn_law [.scr ns] = .ret (.bl true) []) : PySem.Challenge.rw_datelessrolls_k00_heights_taken.Holds := by
  w_on; o_law
  refine HandSHeadRun.head_any (r := OpenLaw.row PySem.Challenge.rw_datelessrolls_k00_heights_taken) (q := view (OpenLaw.row PySem.Challenge.rw_datelessrolls_k00_heights_taken).prog [72]) (H := MV.hkM) (ob := MV.obM) (M := 60000) (loose := MV.nms) (d := HandSHeadRun.topDef (OpenLaw.row PySem.Challenge.rw_datelessrolls_k00_heights_taken).prog 72) (kwd := []) MV.obM_eq
    (by kernel_rfl) (fun s => by kernel_rfl) MV.runM (by kernel_rfl) (by kernel_rfl) (by kernel_rfl) (by rfl) (by first | assumption | decide +kernel) (by decide +kernel) ⟨rfl, rfl, rfl, rfl, rfl, by decide +kernel⟩ ?hw ?hc
  case hw => w_witness2
  case hc =>
    refine MV.walk_mv (l := PySem.Challenge.rw_datelessrolls_k00_heights_taken) (n := 63) (k := 6) (x := "_law_script") rfl (by decide) (by kernel_rfl) ⟨rfl, by decide, by decide⟩ ?F
    intro w mg fa h Y G hmg0
    obtain ⟨K, KX, c⟩ := Y
    have hmg : mg ("law" : PySem.Str) = some (.ref fa) := by
      have e : (HandSHeadRun.topDef (OpenLaw.row PySem.Challenge.rw_datelessrolls_k00_heights_taken).prog 72).name = ("law" : PySem.Str) := by kernel_rfl
      rw [← e]
      exact hmg0
    obtain ⟨fd, hb, hF⟩ := MV.factsM (P := (PySem.Challenge.rw_datelessrolls_k00_heights_taken).prog) (w := w) KX G hmg c
    exact ⟨K, fd, _, KX, hb, fun H a ns hl hS => MV.law_spB main H a ns hl hS, hF⟩
namespace MV
open PySem PySem.Spec PyProof.Rows L2 He
theorem e_seq {f g : SemS} {ρ ρ1 : En} (h : f ρ = .next ρ1) : sSeq f g ρ = g ρ1 := by unfold sSeq; rw [h]
theorem atI_nat {α : Type} {xs : List α} {k : Nat} (h : k < xs.length) : atI xs (k : Int) = xs[k]? := by
  unfold atI ixN
  rw [if_pos (Int.natCast_nonneg k), if_pos (Int.ofNat_lt.mpr h)]
  rfl
theorem e_while {c : SemB} {f : SemS} {ρ ρ' : En} {n : Nat} (h : loopW c f n ρ = .next ρ') (hn : n ≤ wMax) : sWhile c f ρ = .next ρ' := by
  unfold sWhile
  exact loopW_mono h hn
where
  loopW_mono {c : SemB} {f : SemS} : ∀ {n m : Nat} {ρ ρ' : En}, loopW c f n ρ = .next ρ' → n ≤ m → loopW c f m ρ = .next ρ'
    | 0, _, _, _, h, _ => by cases h
    | n + 1, 0, _, _, _, hm => by omega
    | n + 1, m + 1, ρ, ρ', h, hm => by
      have ih : ∀ {ρ : En}, loopW c f n ρ = .next ρ' → loopW c f m ρ = .next ρ' := fun h => loopW_mono h (by omega)
      unfold loopW at h ⊢
      cases e : c ρ with
      | ok b ρ1 =>
        rw [e] at h
        show (match b with
          | true => (match f ρ1 with
            | .next ρ2 => loopW c f m ρ2
            | .cont ρ2 => loopW c f m ρ2
            | .brk ρ2 => .next ρ2
            | r => r)
          | false => .next ρ1) = .next ρ'
        have h : (match b with
          | true => (match f ρ1 with
            | .next ρ2 => loopW c f n ρ2
            | .cont ρ2 => loopW c f n ρ2
            | .brk ρ2 => .next ρ2
            | r => r)
          | false => .next ρ1) = .next ρ' := h
        cases b with
        | false => exact h
        | true =>
          cases e2 : f ρ1 with
          | next ρ2 => rw [e2] at h; exact ih h
          | cont ρ2 => rw [e2] at h; exact ih h
          | brk ρ2 => rw [e2] at h; exact h
          | ret s ρ2 => rw [e2] at h; cases h
          | exc _ _ _ => rw [e2] at h; cases h
          | bad => rw [e2] at h; cases h
      | exc _ _ _ => rw [e] at h; cases h
      | bad => rw [e] at h; cases h
theorem e_frz_own {f : Sem1} {ρ ρ1 : En} {d : Vl} (h : f ρ = .ok ⟨.own, d⟩ ρ1) : fFrz f ρ = .ok ⟨.shr, d⟩ ρ1 := by unfold fFrz; rw [h]; rfl
theorem e_aEx {f : Sem1} {fr : SemA} {ρ ρ1 ρ2 : En} {s : Sv} {as : List Ar} (h : f ρ = .ok s ρ1) (n : s.m.isT = false) (r : fr ρ1 = .ok as ρ2) : aEx f fr ρ = .ok (.ex s :: as) ρ2 := by
  unfold aEx; rw [h]
  show grd (!s.m.isT) (bnd (fr ρ1) _) = _
  rw [n, r]; rfl
theorem e_lst {f : SemA} {ρ ρ1 : En} {as : List Ar} {ds : List Vl} (h : f ρ = .ok as ρ1) (z : frzAll as = some ds) (l : ds.length ≤ 1000) : fLst f ρ = .ok ⟨.own, .lst ds⟩ ρ1 := by
  unfold fLst; rw [h]
  show kLst as ρ1 = _
  unfold kLst; rw [z]
  show grd (decide (ds.length ≤ 1000)) _ = _
  rw [decide_eq_true l]; rfl
theorem e_ret {f : Sem1} {ρ ρ1 : En} {s : Sv} (h : f ρ = .ok s ρ1) : sRet f ρ = .ret s ρ1 := by unfold sRet; rw [h]; rfl
theorem e_lc {q : Bool} {own : List Nat} {src : SemI} {tgt : SemG} {cond : SemB} {elt : Sem1} {ρ ρ1 ρ2 : En} {n : Bool} {its : List Sv} {ds : List Vl} (h : src ρ = .ok (n, its) ρ1) (hq : (n || q) = true) (l : compL own tgt cond elt its (wipeE ρ1 own) [] = .ok ds ρ2) : fLc q own src tgt cond elt ρ = .ok ⟨.own, .lst ds⟩ ρ2 := by
  unfold fLc; rw [h]
  show grd (n || q) (bnd (compL own tgt cond elt its (wipeE ρ1 own) []) _) = _
  rw [hq, l]; rfl
theorem e_run {pm : List PM} {rm : Bool} {n : Nat} {body : SemS} {ds : List Vl} {s : Sv} {ρ : En} {outs : List Vl} (h : body (initE pm ds n) = .ret s ρ) (o : outsOf pm 0 ρ = some outs) (k : resOk rm s = true) : runB pm rm n body ds = .ret s.d outs := by
  unfold runB; rw [h]
  show fin pm rm s ρ = _
  unfold fin; rw [o, k]
theorem compL_ok {own : List Nat} {tgt : SemG} {cond : SemB} {elt : Sem1} {ρ0 : En} {b : Sv → Bool} {g : Sv → Vl} : ∀ (items : List Sv), (∀ x ∈ items, ∃ ρ1 ρ2, tgt x ρ0 = some ρ1 ∧ cond ρ1 = .ok (b x) ρ2 ∧ (b x = true → ∃ ρ3, elt ρ2 = .ok ⟨.shr, g x⟩ ρ3 ∧ wipeE ρ3 own = ρ0) ∧ (b x = false → wipeE ρ2 own = ρ0)) →
    ∀ acc : List Vl, acc.length + items.length ≤ sizeLine → compL own tgt cond elt items ρ0 acc = .ok (acc ++ (items.filter b).map g) ρ0
  | [], _, acc, _ => by show Rs.ok acc ρ0 = _; simp
  | x :: items, h, acc, hl => by
    obtain ⟨ρ1, ρ2, h1, h2, h3, h4⟩ := h x List.mem_cons_self
    have ih := compL_ok items fun y hy => h y (List.mem_cons_of_mem _ hy)
    have hl' : acc.length + (items.length + 1) ≤ sizeLine := hl
    unfold compL
    rw [h1]
    show bndN (cond ρ1) _ = _
    rw [h2]
    cases hb : b x with
    | true =>
      obtain ⟨ρ3, e1, e2⟩ := h3 hb
      show bndN (elt ρ2) _ = _
      rw [e1]
      show grd (isShr .shr && decide (acc.length < sizeLine)) (compL own tgt cond elt items (wipeE ρ3 own) (acc ++ [g x])) = _
      rw [decide_eq_true (by omega), e2]
      show compL own tgt cond elt items ρ0 (acc ++ [g x]) = _
      rw [ih _ (by rw [List.length_append]; simp; omega), List.filter_cons_of_pos hb]
      simp
    | false =>
      show compL own tgt cond elt items (wipeE ρ2 own) acc = _
      rw [h4 hb, ih _ (by omega), List.filter_cons_of_neg (by simp [hb])]
theorem cut_front {α : Type} {xs : List α} {n : Nat} (h : xs.length ≤ n) : cutD xs none (some (n : Int)) = xs := by
  have e : HT.sIx xs.length xs.length (some (n : Int)) = xs.length := by rw [HT.sIx_nat]; omega
  unfold cutD
  rw [e, HT.sIx_none, List.drop_zero, Nat.sub_zero, List.take_length]
abbrev dSt (v : Int) (p : Nat) (cs : List Int) : Vl := .lst [.int v, .int p, .lst (cs.map Vl.int)]
abbrev dE (v : Int) (p : Nat) (cs : List Int) (lim : Int) : En := [some ⟨.io, dSt v p cs⟩, some ⟨.shr, .int lim⟩, some ⟨.shr, .lst (cs.map Vl.int)⟩, none]
def dC : SemB := (fAnd (fTst (fTwo true (fTwo true (fVar 0) (fC (.int 0)) kIx) (fC (.int 0)) (kS gEq))) (fTst (fTwo true (fTwo true (fVar 0) (fC (.int 1)) kIx) (fOne (fVar 2) (kS1 gLen)) (kS (gB bLt)))))
def dB : SemS := (sSeq (sSet 0 (fC (.int 0)) (fFrz (fOne (fOne (fTwo true (fVar 2) (fTwo true (fVar 0) (fC (.int 1)) kIx) kIx) (kS1 gInt)) (kS1 gAbs))))
    (sSet 0 (fC (.int 1)) (fFrz (fTwo true (fTwo true (fVar 0) (fC (.int 1)) kIx) (fC (.int 1)) kAdd))))
theorem dC_nz {v : Int} {p : Nat} {cs : List Int} {lim : Int} (h : v ≠ 0) : dC (dE v p cs lim) = .ok false (dE v p cs lim) := by
  have e : dC (dE v p cs lim) = (match decide (v = 0) with | true => Rs.ok (decide ((p : Int) < ((cs.map Vl.int).length : Nat))) (dE v p cs lim) | false => .ok false (dE v p cs lim)) := by
    unfold dC fAnd
    show (match decide (v = 0) with | true => _ | false => _) = _
    cases decide (v = 0) <;> rfl
  rw [e, decide_eq_false h]
theorem dC_z {p : Nat} {cs : List Int} {lim : Int} : dC (dE 0 p cs lim) = .ok (decide (p < cs.length)) (dE 0 p cs lim) := by
  have e : dC (dE 0 p cs lim) = .ok (decide ((p : Int) < ((cs.map Vl.int).length : Nat))) (dE 0 p cs lim) := rfl
  rw [e, List.length_map]
  congr 1
  exact decide_eq_decide.mpr Int.ofNat_lt
theorem dB_eq {p : Nat} {cs : List Int} {lim : Int} (h : p < cs.length) : dB (dE 0 p cs lim) = .next (dE (iabs (cs.getD p 0)) (p + 1) cs lim) := by
  have hx : atI (cs.map Vl.int) (p : Int) = some (.int cs[p]) := by
    rw [atI_nat (by rw [List.length_map]; exact h), List.getElem?_map, List.getElem?_eq_getElem h]; rfl
  have hg : iabs (cs.getD p 0) = if cs[p] < 0 then -cs[p] else cs[p] := by
    unfold iabs
    rw [List.getD_eq_getElem?_getD, List.getElem?_eq_getElem h]; rfl
  rw [hg]
  have e1 : sSet 0 (fC (.int 0)) (fFrz (fOne (fOne (fTwo true (fVar 2) (fTwo true (fVar 0) (fC (.int 1)) kIx) kIx) (kS1 gInt)) (kS1 gAbs))) (dE 0 p cs lim) = .next (dE (if cs[p] < 0 then -cs[p] else cs[p]) p cs lim) := by
    have e0 : fTwo true (fVar 2) (fTwo true (fVar 0) (fC (.int 1)) kIx) kIx (dE 0 p cs lim) = .ok ⟨.shr, .int cs[p]⟩ (dE 0 p cs lim) := by
      show (match atI (cs.map Vl.int) (p : Int) with | some d => Rs.ok (mk .shr d) (dE 0 p cs lim) | none => .bad) = _
      rw [hx]; rfl
    unfold sSet fFrz fOne
    rw [e0]; rfl
  unfold dB
  rw [e_seq e1]
  rfl
theorem d_loop {cs : List Int} {lim : Int} : ∀ (n : Nat) (v : Int) (p : Nat), 0 ≤ v → p ≤ cs.length → cs.length - p < n → loopW dC dB n (dE v p cs lim) = .next (dE (skipZ cs n v p).1 (skipZ cs n v p).2 cs lim)
  | 0, v, p, h0, h1, h2 => by omega
  | n + 1, v, p, h0, h1, h2 => by
    by_cases hv : v = 0
    · subst hv
      by_cases hp : p < cs.length
      · have e := dB_eq (lim := lim) hp
        have ih := d_loop (cs := cs) (lim := lim) n (iabs (cs.getD p 0)) (p + 1) (by unfold iabs; split <;> omega) (by omega) (by omega)
        have es : skipZ cs (n + 1) 0 p = skipZ cs n (iabs (cs.getD p 0)) (p + 1) := by
          show (if (0 : Int) = 0 then (if p < cs.length then _ else _) else _) = _
          rw [if_pos rfl, if_pos hp]
        rw [es]
        unfold loopW
        rw [dC_z, decide_eq_true hp]
        show (match dB (dE 0 p cs lim) with | .next ρ2 => loopW dC dB n ρ2 | .cont ρ2 => loopW dC dB n ρ2 | .brk ρ2 => .next ρ2 | r => r) = _
        rw [e]; exact ih
      · have es : skipZ cs (n + 1) 0 p = (0, p) := by
          show (if (0 : Int) = 0 then (if p < cs.length then _ else _) else _) = _
          rw [if_pos rfl, if_neg hp]
        rw [es]
        unfold loopW
        rw [dC_z, decide_eq_false hp]; rfl
    · have es : skipZ cs (n + 1) v p = (v, p) := by
        show (if v = 0 then _ else _) = _
        rw [if_neg hv]
      rw [es]
      unfold loopW
      rw [dC_nz hv]; rfl
theorem tr_l_draw (d : Drw) (lim : Int) : FOk (fun (o : Drw) => [eDrw o]) eI (t_l_draw d lim) (fn_l_draw [eDrw d, eI lim]) := by
  refine ⟨?_⟩
  unfold t_l_draw
  by_cases hh : 0 < lim ∧ lim < 1073741824
  case neg => rw [dif_neg hh]; exact trivial
  rw [dif_pos hh]
  obtain ⟨h1, h2⟩ := hh
  obtain ⟨v, p, cs, q1, q2, q3⟩ := d
  have e := d_loop (lim := lim) (cs.length - p + 1) v p q1 q2 (by omega)
  have ew := e_while e (by unfold wMax; omega)
  show fn_l_draw [dSt v p cs, .int lim] = .ret (.int ((skipZ cs (cs.length - p + 1) v p).1 % lim)) [dSt ((skipZ cs (cs.length - p + 1) v p).1 / lim) (skipZ cs (cs.length - p + 1) v p).2 cs]
  rw [← Int.fmod_eq_emod_of_nonneg _ (Int.le_of_lt h1), ← Int.fdiv_eq_ediv_of_nonneg _ (Int.le_of_lt h1)]
  generalize (skipZ cs (cs.length - p + 1) v p).1 = v' at *
  generalize (skipZ cs (cs.length - p + 1) v p).2 = p' at *
  have hm : cMod v' lim = true := by unfold cMod; exact decide_eq_true (by omega)
  have hd : cDiv v' lim = true := by
    unfold cDiv
    rw [decide_eq_true (show lim ≠ 0 by omega), decide_eq_true (show lim.natAbs < 1073741824 by omega)]; rfl
  have e1 : (sAsg 3 (fFrz (fTwo true (fOne (fTwo true (fVar 0) (fC (.int 0)) kIx) (kS1 gInt)) (fVar 1) (kS (gIc cMod Int.fmod))))) (dE v' p' cs lim) = .next [some ⟨.io, dSt v' p' cs⟩, some ⟨.shr, .int lim⟩, some ⟨.shr, .lst (cs.map Vl.int)⟩, some ⟨.shr, .int (v'.fmod lim)⟩] := by
    have e0 : fTwo true (fOne (fTwo true (fVar 0) (fC (.int 0)) kIx) (kS1 gInt)) (fVar 1) (kS (gIc cMod Int.fmod)) (dE v' p' cs lim) = .ok ⟨.shr, .int (v'.fmod lim)⟩ (dE v' p' cs lim) := by
      show (match (if cMod v' lim then some (Vl.int (v'.fmod lim)) else none) with | some d => if isSc d then Rs.ok (Sv.mk .shr d) (dE v' p' cs lim) else .bad | none => .bad) = _
      rw [if_pos hm]; rfl
    unfold sAsg fFrz
    rw [e0]; rfl
  have e2 : (sSet 0 (fC (.int 0)) (fFrz (fTwo true (fOne (fTwo true (fVar 0) (fC (.int 0)) kIx) (kS1 gInt)) (fVar 1) (kS (gIc cDiv Int.fdiv))))) [some ⟨.io, dSt v' p' cs⟩, some ⟨.shr, .int lim⟩, some ⟨.shr, .lst (cs.map Vl.int)⟩, some ⟨.shr, .int (v'.fmod lim)⟩] = .next [some ⟨.io, dSt (v'.fdiv lim) p' cs⟩, some ⟨.shr, .int lim⟩, some ⟨.shr, .lst (cs.map Vl.int)⟩, some ⟨.shr, .int (v'.fmod lim)⟩] := by
    have e0 : fTwo true (fOne (fTwo true (fVar 0) (fC (.int 0)) kIx) (kS1 gInt)) (fVar 1) (kS (gIc cDiv Int.fdiv)) [some ⟨.io, dSt v' p' cs⟩, some ⟨.shr, .int lim⟩, some ⟨.shr, .lst (cs.map Vl.int)⟩, some ⟨.shr, .int (v'.fmod lim)⟩] = .ok ⟨.shr, .int (v'.fdiv lim)⟩ [some ⟨.io, dSt v' p' cs⟩, some ⟨.shr, .int lim⟩, some ⟨.shr, .lst (cs.map Vl.int)⟩, some ⟨.shr, .int (v'.fmod lim)⟩] := by
      show (match (if cDiv v' lim then some (Vl.int (v'.fdiv lim)) else none) with | some d => if isSc d then Rs.ok (Sv.mk .shr d) _ else .bad | none => .bad) = _
      rw [if_pos hd]; rfl
    unfold sSet fFrz
    rw [e0]; rfl
  have hb : s_l_draw [some ⟨.io, dSt v p cs⟩, some ⟨.shr, .int lim⟩, none, none] = .ret ⟨.shr, .int (v'.fmod lim)⟩ [some ⟨.io, dSt (v'.fdiv lim) p' cs⟩, some ⟨.shr, .int lim⟩, some ⟨.shr, .lst (cs.map Vl.int)⟩, some ⟨.shr, .int (v'.fmod lim)⟩] := by
    unfold s_l_draw
    have e0 : sAsg 2 (fTwo true (fVar 0) (fC (.int 2)) kIx) [some ⟨.io, dSt v p cs⟩, some ⟨.shr, .int lim⟩, none, none] = .next (dE v p cs lim) := rfl
    refine (e_seq e0).trans ((e_seq ew).trans ((e_seq e1).trans ((e_seq e2).trans rfl)))
  show (match s_l_draw [some ⟨.io, dSt v p cs⟩, some ⟨.shr, .int lim⟩, none, none] with
    | .ret s ρ => fin [.io, .bor] false s ρ
    | .next ρ => fin [.io, .bor] false ⟨.shr, .non⟩ ρ
    | .exc c fs ρ => (match outsOf [.io, .bor] 0 ρ with
      | some outs => .exc c fs outs
      | none => .bad)
    | _ => .bad) = _
  rw [hb]; rfl
theorem tr_l_begin (ns : List Int) : FOk (fun _ => []) eDrw (t_l_begin ns) (fn_l_begin [Vl.scr ns]) := by
  refine ⟨?_⟩
  unfold t_l_begin
  by_cases h : ns.length ≤ 63
  case neg => rw [dif_neg h]; exact trivial
  rw [dif_pos h]
  show fn_l_begin [.scr ns] = .ret (dSt 0 0 ns) []
  have hc : cutD (ns.map Vl.int) none (some 63) = ns.map Vl.int := cut_front (n := 63) (by rw [List.length_map]; exact h)
  have hi : iSrc (fSl true true (fVar 0) fNoP (fPart (fC (.int 63)))) kItL [some ⟨.bor, .scr ns⟩, none] = .ok (true, (ns.map Vl.int).map fun d => mk .shr d) [some ⟨.bor, .scr ns⟩, none] := by
    show Rs.ok (true, (cutD (ns.map Vl.int) none (some 63)).map fun d => mk .shr d) _ = _
    rw [hc]
  have hl : compL [1] (gNm 1) bYes (fFrz (fOne (fVar 1) (kS1 gInt))) ((ns.map Vl.int).map fun d => mk .shr d) [some ⟨.bor, .scr ns⟩, none] [] = .ok (ns.map Vl.int) [some ⟨.bor, .scr ns⟩, none] := by
    have := compL_ok (own := [1]) (tgt := gNm 1) (cond := bYes) (elt := fFrz (fOne (fVar 1) (kS1 gInt))) (ρ0 := [some ⟨.bor, .scr ns⟩, none]) (b := fun _ => true) (g := fun s => s.d) ((ns.map Vl.int).map fun d => mk .shr d) (fun x hx => by
      obtain ⟨d, hd, rfl⟩ := List.mem_map.mp hx
      obtain ⟨i, _, rfl⟩ := List.mem_map.mp hd
      exact ⟨_, _, rfl, rfl, fun _ => ⟨_, rfl, rfl⟩, fun h => by cases h⟩) [] (by simp; exact Nat.le_trans h (by decide))
    rw [this]
    have e : (((ns.map Vl.int).map fun d => mk .shr d).filter fun _ => true).map (fun s => s.d) = ns.map Vl.int := by
      rw [List.filter_eq_self.mpr (fun _ _ => rfl), List.map_map, List.map_map]
      rfl
    rw [e]; rfl
  have hs : fLc true [1] (iSrc (fSl true true (fVar 0) fNoP (fPart (fC (.int 63)))) kItL) (gNm 1) bYes (fFrz (fOne (fVar 1) (kS1 gInt))) [some ⟨.bor, .scr ns⟩, none] = .ok ⟨.own, .lst (ns.map Vl.int)⟩ [some ⟨.bor, .scr ns⟩, none] := e_lc hi rfl hl
  have hb : s_l_begin [some ⟨.bor, .scr ns⟩, none] = .ret ⟨.own, dSt 0 0 ns⟩ [some ⟨.bor, .scr ns⟩, none] :=
    e_ret (e_lst (e_aEx rfl rfl (e_aEx rfl rfl (e_aEx (e_frz_own hs) rfl rfl))) rfl (Nat.le_of_ble_eq_true rfl))
  exact e_run (pm := [.bor]) (rm := true) (n := 2) (ds := [.scr ns]) (outs := []) hb rfl rfl
end MV
namespace MV
open PySem PySem.Spec PyProof.Rows L2 He
theorem str_0 : strOf ['s', 'i', 'z', 'e'] = ("size" : Str) := by decide +kernel
theorem str_1 : strOf ['h', 'e', 'i', 'g', 'h', 't'] = ("height" : Str) := by decide +kernel
theorem str_2 : strOf ['c', 'o', 'l', 'l', 'i', 's', 'i', 'o', 'n'] = ("collision" : Str) := by decide +kernel
theorem str_3 : strOf ['b', 'a', 'l', 'l', 's'] = ("balls" : Str) := by decide +kernel
theorem str_4 : strOf ['o', 'd', 'd'] = ("odd" : Str) := by decide +kernel
theorem fl_0 {m : Md} {x : C_Cast} : ∀ ρ, kFld "_heights" ["Cast"] ⟨m, e_Cast x⟩ ρ = .ok ⟨m.kid, (eT eI) x⟩ ρ := fun ρ => by
  show grd (decide (("Cast" : Str) ∈ (["Cast"] : List Str))) _ = _
  rw [decide_eq_true (by decide)]; rfl
abbrev su_l_any_item : Sur Empty Drw Int := surF [.io] false (fun (o : Drw) => [eDrw o]) eI
theorem x_l_any_item {Γ : List Sl} {o : Drw} (h : outsG [.io] 0 Γ = some ((fun (o : Drw) => [eDrw o]) o)) : ∀ ρ, EnvR Γ ρ → su_l_any_item.ex o ρ := xf h
theorem rt_l_any_item {Γ : List Sl} {x : Int} {o : Drw} {s : Sv} (h1 : s.d = eI x) (h2 : resOk false s = true) (h : outsG [.io] 0 Γ = some ((fun (o : Drw) => [eDrw o]) o)) : ∀ ρ, EnvR Γ ρ → su_l_any_item.rt x o s ρ := rtf h1 h2 h
theorem tr_l_any_item (state1 : Drw) : FOk (fun (o : Drw) => [eDrw o]) eI (t_l_any_item state1) (fn_l_any_item [eDrw state1]) := by
  unfold t_l_any_item
  exact fok_run (pm := [.io]) (rm := false) (eo := (fun (o : Drw) => [eDrw o])) (er := eI) (ν := Empty) (Γ := [.vl (Sv.mk .io (eDrw state1)), .no]) (P := PF) (s_if (c_tst (c_two (c_call (c_pure (v_aS rfl (v_aE v_c rfl v_aN)) (c_kcallJ [0] (fun (o : Drw) => [.vl (Sv.mk .io (eDrw o)), .no]) (tr_l_draw state1 (8 : Int)) rfl rfl rfl rfl (fun _ => rfl) (fun o => (x_l_any_item (o := o) rfl)) (fun x => (isv x)) (fun _ => rfl) (fun v1 => (c_grd (by first | rfl | (unfold mk; repeat (first | rfl | split))) (c_pure v_c (c_ok (a := (isb (decide (v1.1 ≠ (7 : Int))))) (k_ne (x := v1.1) (y := (7 : Int)) eqt_I) (c_ok (a := (decide (v1.1 ≠ (7 : Int)))) (fun _ => rfl) (s_selA (p := (v1.1 ≠ (7 : Int))) rfl (s_ret (c_frz (c_call (c_pure (v_aS rfl (v_aE v_c rfl v_aN)) (c_kcallJ [0] (fun (o : Drw) => [.vl (Sv.mk .io (eDrw o)), .no]) (tr_l_draw v1.2 (10 : Int)) rfl rfl rfl rfl (fun _ => rfl) (fun o => (x_l_any_item (o := o) rfl)) (fun x => (isv x)) (fun _ => rfl) (fun v2 => (c_ok (a := (isv v2.1)) (fun _ => rfl) (r_ret (rt_l_any_item (x := v2.1) (o := v2.2) rfl rfl rfl))))))))) (s_nil (s_asg (c_frz (c_call (c_pure (v_aS rfl (v_aE v_c rfl v_aN)) (c_kcallJ [0] (fun (o : Drw) => [.vl (Sv.mk .io (eDrw o)), .no]) (tr_l_draw v1.2 (9 : Int)) rfl rfl rfl rfl (fun _ => rfl) (fun o => (x_l_any_item (o := o) rfl)) (fun x => (isv x)) (fun _ => rfl) (fun v3 => (c_ok (a := (isv v3.1)) (fun _ => rfl) (s_st rfl rfl (s_if (c_pure (v_tst (v_two (u := (isb (decide (v3.1 = (8 : Int))))) (v_sh rfl) v_c rfl (k_eq (x := v3.1) (y := (8 : Int)) eqt_I))) (s_selA (p := (v3.1 = (8 : Int))) rfl (s_ret (c_frz (c_two (c_call (c_pure (v_aS rfl (v_aE v_c rfl v_aN)) (c_kcallJ [0] (fun (o : Drw) => [.vl (Sv.mk .io (eDrw o)), .vl (isv v3.1)]) (tr_l_draw v3.2 (2001 : Int)) rfl rfl rfl rfl (fun _ => rfl) (fun o => (x_l_any_item (o := o) rfl)) (fun x => (isv x)) (fun _ => rfl) (fun v4 => (c_grd (by first | rfl | (unfold mk; repeat (first | rfl | split))) (c_pure v_c (c_ok (a := (isv (v4.1 - (1000 : Int)))) (fun _ => rfl) (c_ok (a := (isv (v4.1 - (1000 : Int)))) (fun _ => rfl) (r_ret (rt_l_any_item (x := (v4.1 - (1000 : Int))) (o := v4.2) rfl rfl rfl))))))))))))) (s_nil (s_ret (c_two (c_pure (v_lst (u := (Sv.mk .own ((eL eI) [(-(1 : Int)), (97 : Int), (96 : Int), (-(3 : Int)), (33 : Int), (99 : Int), (-(1000 : Int)), (1000 : Int)]))) (v_aE (v_one (u := (isv (-(1 : Int)))) v_c (fun _ => rfl)) rfl (v_aE v_c rfl (v_aE v_c rfl (v_aE (v_one (u := (isv (-(3 : Int)))) v_c (fun _ => rfl)) rfl (v_aE v_c rfl (v_aE v_c rfl (v_aE (v_one (u := (isv (-(1000 : Int)))) v_c (fun _ => rfl)) rfl (v_aE v_c rfl v_aN)))))))) (fun _ => rfl)) (c_grd (by first | rfl | (unfold mk; repeat (first | rfl | split))) (c_pure (v_sh rfl) (c_ix (fun x => (isv x)) (fun _ => rfl) (fun v5 => (r_ret (rt_l_any_item (x := v5) (o := v3.2) rfl rfl rfl)))))))))))))))))))))))))))))))))) (⟨_, _, rfl, rfl, ⟨_, _, rfl, rfl, rfl⟩⟩) fall_no
abbrev su_l_throws : Sur Empty Drw (List Int) := surF [.io, .bor, .bor] true (fun (o : Drw) => [eDrw o]) (eL eI)
theorem x_l_throws {Γ : List Sl} {o : Drw} (h : outsG [.io, .bor, .bor] 0 Γ = some ((fun (o : Drw) => [eDrw o]) o)) : ∀ ρ, EnvR Γ ρ → su_l_throws.ex o ρ := xf h
theorem rt_l_throws {Γ : List Sl} {x : (List Int)} {o : Drw} {s : Sv} (h1 : s.d = (eL eI) x) (h2 : resOk true s = true) (h : outsG [.io, .bor, .bor] 0 Γ = some ((fun (o : Drw) => [eDrw o]) o)) : ∀ ρ, EnvR Γ ρ → su_l_throws.rt x o s ρ := rtf h1 h2 h
theorem tr_l_throws (state1 : Drw) (places1 : Int) (great1 : Bool) : FOk (fun (o : Drw) => [eDrw o]) (eL eI) (t_l_throws_v3 state1 places1 great1) (fn_l_throws [eDrw state1, eI places1, eB great1]) := by
  unfold t_l_throws_v3
  exact fok_run (pm := [.io, .bor, .bor]) (rm := true) (eo := (fun (o : Drw) => [eDrw o])) (er := (eL eI)) (ν := Empty) (Γ := [.vl (Sv.mk .io (eDrw state1)), .vl (isv places1), .vl (isb great1), .no, .no, .no, .no, .no, .no, .no]) (P := PF) (s_asg (c_lc (c_r1 (c_pure (v_sh rfl) (c_int (c_rng (fun r1 => (c_lmP (f := fun place1 => place1) rfl eI rfl (t_nmC (n := 4) (v := fun x => (isv x)) rfl (fun _ => rfl)) (fun _ => rfl) (fun place1 => (v_sh rfl)) (fun l1 => (s_st rfl rfl (s_asg (c_pure (v_lst (u := (Sv.mk .own ((eL eV) ([] : List Vl)))) v_aN (fun _ => rfl)) (s_let (v := fun (x : (List Int)) => (Sv.mk .own ((eL eI) x))) (x := ([] : List Int)) rfl (fun _ => rfl) (fun heights1 => (s_for (c_r1 (c_pure (v_sh rfl) (c_int (c_rng (fun r2 => (c_grd0 (s_loop (v := fun (x : Int) => (isv x)) (G := (fun (a : (Drw × (List Int) × (List Int))) => [.vl (Sv.mk .io (eDrw a.1)), .vl (isv places1), .vl (isb great1), .vl (Sv.mk .own ((eL eI) a.2.1)), .jk, .vl (Sv.mk .own ((eL eI) a.2.2)), .jk, .no, .no, .no])) (by exact ⟨rfl, ⟨rfl, ⟨rfl, ⟨rfl, ⟨trivial, ⟨rfl, ⟨trivial, ⟨trivial, ⟨trivial, ⟨trivial, trivial⟩⟩⟩⟩⟩⟩⟩⟩⟩⟩) (t_nm (i := 4) (v := fun x => (isv x)) (fun _ => rfl) (fun _ => rfl)) (fun place2 s1 => (s_asg (c_frz (c_popAt rfl (c_two (c_pure (v_two (u := (isv ((s1.2.1.length : Int) - (1 : Int)))) (v_one (u := (isv (s1.2.1.length : Int))) (v_ow rfl) k_len) v_c rfl (fun _ => rfl)) (c_grd (by first | rfl | (unfold mk; repeat (first | rfl | split))) (c_call (c_pure (v_aS rfl (v_aE (v_one (u := (isv (s1.2.1.length : Int))) (v_ow rfl) k_len) rfl v_aN)) (c_kcallJ [0] (fun (o : Drw) => [.vl (Sv.mk .io (eDrw o)), .vl (isv places1), .vl (isb great1), .vl (Sv.mk .own ((eL eI) s1.2.1)), .vl (isv place2), .vl (Sv.mk .own ((eL eI) s1.2.2)), .jk, .no, .no, .no]) (tr_l_draw s1.1 (s1.2.1.length : Int)) rfl rfl rfl rfl (fun _ => rfl) (fun o => (x_l_throws (o := o) rfl)) (fun x => (isv x)) (fun _ => rfl) (fun v1 => (c_ok (a := (isv (((s1.2.1.length : Int) - (1 : Int)) - v1.1))) (fun _ => rfl) (c_int (c_popAtK rfl rfl (fun x => (isv x)) (fun _ => rfl) (fun v2 => (c_ok (a := (isv v2.1)) (fun _ => rfl) (s_st rfl rfl (s_last (s_expr (c_app rfl (c_frz (c_two (c_pure (v_one (u := (isv (v2.1 - place2))) (v_two (u := (isv (v2.1 - place2))) (v_sh rfl) (v_sh rfl) rfl (fun _ => rfl)) (fun _ => rfl)) (c_grd (by first | rfl | (unfold mk; repeat (first | rfl | split))) (c_pure (v_sh rfl) (c_mod (fun v3 => (c_ok (a := (isv v3)) (fun _ => rfl) (c_grd rfl (c_push (e := eI) (x := v3) rfl rfl (fun heights2 => (s_end (G := (fun (a : (Drw × (List Int) × (List Int))) => [.vl (Sv.mk .io (eDrw a.1)), .vl (isv places1), .vl (isb great1), .vl (Sv.mk .own ((eL eI) a.2.1)), .jk, .vl (Sv.mk .own ((eL eI) a.2.2)), .jk, .no, .no, .no])) (by exact ⟨rfl, ⟨rfl, ⟨rfl, ⟨rfl, ⟨trivial, ⟨rfl, ⟨trivial, ⟨trivial, ⟨trivial, ⟨trivial, trivial⟩⟩⟩⟩⟩⟩⟩⟩⟩⟩))))))))))))))))))))))))))))))))) (fun s2 => (s_asg (c_frz (c_two (c_pure (v_one (u := (isv s2.2.2.sum)) (v_ow rfl) k_sum) (c_grd (by first | rfl | (unfold mk; repeat (first | rfl | split))) (c_pure (v_sh rfl) (c_div (fun v4 => (c_ok (a := (isv v4)) (fun _ => rfl) (s_st rfl rfl (s_for (c_r1 (c_pure (v_sh rfl) (c_int (c_rng (fun r3 => (c_grd0 (s_loop (v := fun (x : Int) => (isv x)) (G := (fun (a : (Drw × (List Int) × Int)) => [.vl (Sv.mk .io (eDrw a.1)), .vl (isv places1), .vl (isb great1), .vl (Sv.mk .own ((eL eI) s2.2.1)), .jk, .vl (Sv.mk .own ((eL eI) a.2.1)), .jk, .vl (isv a.2.2), .jk, .jk])) (by exact ⟨rfl, ⟨rfl, ⟨rfl, ⟨rfl, ⟨trivial, ⟨rfl, ⟨trivial, ⟨rfl, ⟨trivial, ⟨trivial, trivial⟩⟩⟩⟩⟩⟩⟩⟩⟩⟩) (t_nm (i := 4) (v := fun x => (isv x)) (fun _ => rfl) (fun _ => rfl)) (fun place3 s3 => (s_asg (c_pure (v_frz (v_two (u := (isv ((16 : Int) - s3.2.2))) v_c (v_sh rfl) rfl (fun _ => rfl)) (fun _ => rfl)) (s_let (v := fun (x : Int) => (isv x)) (x := ((16 : Int) - s3.2.2)) rfl (fun _ => rfl) (fun room1 => (s_if (c_pure (v_bp (v_tru (v_sh rfl) rfl)) (s_selJ (p := (great1 = true)) (G := fun (a : Int) => [.vl (Sv.mk .io (eDrw s3.1)), .vl (isv places1), .vl (isb great1), .vl (Sv.mk .own ((eL eI) s2.2.1)), .vl (isv place3), .vl (Sv.mk .own ((eL eI) s3.2.1)), .jk, .vl (isv s3.2.2), .vl (isv a), .jk]) rfl (s_last (s_asg (c_frz (c_two (c_two (c_pure v_c (c_grd (by first | rfl | (unfold mk; repeat (first | rfl | split))) (c_two (c_pure (v_ow rfl) (c_grd (by first | rfl | (unfold mk; repeat (first | rfl | split))) (c_pure (v_sh rfl) (c_ix (fun x => (isv x)) (fun _ => rfl) (fun v5 => (c_ok (a := (isv ((96 : Int) - v5))) (fun _ => rfl) (c_grd (by first | rfl | (unfold mk; repeat (first | rfl | split))) (c_pure (v_sh rfl) (c_div (fun v6 => (c_ok (a := (isv v6)) (fun _ => rfl) (s_st rfl rfl (s_end (G := fun (a : Int) => [.vl (Sv.mk .io (eDrw s3.1)), .vl (isv places1), .vl (isb great1), .vl (Sv.mk .own ((eL eI) s2.2.1)), .vl (isv place3), .vl (Sv.mk .own ((eL eI) s3.2.1)), .jk, .vl (isv s3.2.2), .vl (isv a), .jk]) (by exact ⟨rfl, ⟨rfl, ⟨rfl, ⟨rfl, ⟨rfl, ⟨rfl, ⟨trivial, ⟨rfl, ⟨rfl, ⟨trivial, trivial⟩⟩⟩⟩⟩⟩⟩⟩⟩⟩)))))))))))))))))))))) (s_end (G := fun (a : Int) => [.vl (Sv.mk .io (eDrw s3.1)), .vl (isv places1), .vl (isb great1), .vl (Sv.mk .own ((eL eI) s2.2.1)), .vl (isv place3), .vl (Sv.mk .own ((eL eI) s3.2.1)), .jk, .vl (isv s3.2.2), .vl (isv a), .jk]) (by exact ⟨rfl, ⟨rfl, ⟨rfl, ⟨rfl, ⟨rfl, ⟨rfl, ⟨trivial, ⟨rfl, ⟨rfl, ⟨trivial, trivial⟩⟩⟩⟩⟩⟩⟩⟩⟩⟩)) (fun q1 => (s_asg (c_frz (c_call (c_pure (v_aS rfl (v_aE (v_two (u := (isv ((1 : Int) + q1))) v_c (v_sh rfl) rfl (fun _ => rfl)) rfl v_aN)) (c_kcallJ [0] (fun (o : Drw) => [.vl (Sv.mk .io (eDrw o)), .vl (isv places1), .vl (isb great1), .vl (Sv.mk .own ((eL eI) s2.2.1)), .vl (isv place3), .vl (Sv.mk .own ((eL eI) s3.2.1)), .jk, .vl (isv s3.2.2), .vl (isv q1), .jk]) (tr_l_draw s3.1 ((1 : Int) + q1)) rfl rfl rfl rfl (fun _ => rfl) (fun o => (x_l_throws (o := o) rfl)) (fun x => (isv x)) (fun _ => rfl) (fun v7 => (c_ok (a := (isv v7.1)) (fun _ => rfl) (s_st rfl rfl (s_set (c_frz (c_two (c_two (c_pure (v_ow rfl) (c_grd (by first | rfl | (unfold mk; repeat (first | rfl | split))) (c_pure (v_sh rfl) (c_ix (fun x => (isv x)) (fun _ => rfl) (fun v8 => (c_grd (by first | rfl | (unfold mk; repeat (first | rfl | split))) (c_two (c_pure (v_sh rfl) (c_grd (by first | rfl | (unfold mk; repeat (first | rfl | split))) (c_pure (v_sh rfl) (c_mul (fun v9 => (c_ok (a := (isv (v8 + v9))) (fun _ => rfl) (c_ok (a := (isv (v8 + v9))) (fun _ => rfl) (c_grdL rfl rfl (c_pure (v_sh rfl) (c_set (e := eI) (x := (v8 + v9)) rfl rfl (fun heights3 => (s_last (s_asg (c_pure (v_frz (v_two (u := (isv (s3.2.2 + v7.1))) (v_sh rfl) (v_sh rfl) rfl (fun _ => rfl)) (fun _ => rfl)) (s_let (v := fun (x : Int) => (isv x)) (x := (s3.2.2 + v7.1)) rfl (fun _ => rfl) (fun balls1 => (s_end (G := (fun (a : (Drw × (List Int) × Int)) => [.vl (Sv.mk .io (eDrw a.1)), .vl (isv places1), .vl (isb great1), .vl (Sv.mk .own ((eL eI) s2.2.1)), .jk, .vl (Sv.mk .own ((eL eI) a.2.1)), .jk, .vl (isv a.2.2), .jk, .jk])) (by exact ⟨rfl, ⟨rfl, ⟨rfl, ⟨rfl, ⟨trivial, ⟨rfl, ⟨trivial, ⟨rfl, ⟨trivial, ⟨trivial, trivial⟩⟩⟩⟩⟩⟩⟩⟩⟩⟩)))))))))))))))))))))))))))))))))))))))))))))) (fun s4 => (s_ret (c_mv rfl rfl (r_ret (rt_l_throws (x := s4.2.1) (o := s4.1) rfl rfl rfl)))))))))))))))))))))))))))))))))))))))))))))) (⟨_, _, rfl, rfl, ⟨_, _, rfl, rfl, ⟨_, _, rfl, rfl, ⟨_, _, rfl, rfl, ⟨_, _, rfl, rfl, ⟨_, _, rfl, rfl, ⟨_, _, rfl, rfl, ⟨_, _, rfl, rfl, ⟨_, _, rfl, rfl, ⟨_, _, rfl, rfl, rfl⟩⟩⟩⟩⟩⟩⟩⟩⟩⟩) fall_no
abbrev su_l_spoilt : Sur Empty Drw (List Int) := surF [.io, .bor] true (fun (o : Drw) => [eDrw o]) (eL eI)
theorem x_l_spoilt {Γ : List Sl} {o : Drw} (h : outsG [.io, .bor] 0 Γ = some ((fun (o : Drw) => [eDrw o]) o)) : ∀ ρ, EnvR Γ ρ → su_l_spoilt.ex o ρ := xf h
theorem rt_l_spoilt {Γ : List Sl} {x : (List Int)} {o : Drw} {s : Sv} (h1 : s.d = (eL eI) x) (h2 : resOk true s = true) (h : outsG [.io, .bor] 0 Γ = some ((fun (o : Drw) => [eDrw o]) o)) : ∀ ρ, EnvR Γ ρ → su_l_spoilt.rt x o s ρ := rtf h1 h2 h
theorem tr_l_spoilt (state1 : Drw) (heights1 : (List Int)) : FOk (fun (o : Drw) => [eDrw o]) (eL eI) (t_l_spoilt_v4 state1 heights1) (fn_l_spoilt [eDrw state1, (eL eI) heights1]) := by
  unfold t_l_spoilt_v4
  exact fok_run (pm := [.io, .bor]) (rm := true) (eo := (fun (o : Drw) => [eDrw o])) (er := (eL eI)) (ν := Empty) (Γ := [.vl (Sv.mk .io (eDrw state1)), .vl (Sv.mk .bor ((eL eI) heights1)), .no, .no, .no]) (P := PF) (s_asg (c_frz (c_call (c_pure (v_aS rfl (v_aE v_c rfl v_aN)) (c_kcallJ [0] (fun (o : Drw) => [.vl (Sv.mk .io (eDrw o)), .vl (Sv.mk .bor ((eL eI) heights1)), .no, .no, .no]) (tr_l_draw state1 (14 : Int)) rfl rfl rfl rfl (fun _ => rfl) (fun o => (x_l_spoilt (o := o) rfl)) (fun x => (isv x)) (fun _ => rfl) (fun v1 => (c_ok (a := (isv v1.1)) (fun _ => rfl) (s_st rfl rfl (s_asg (c_frz (c_call (c_pure (v_aS rfl (v_aE (v_one (u := (isv (heights1.length : Int))) (v_bo rfl) k_len) rfl v_aN)) (c_kcallJ [0] (fun (o : Drw) => [.vl (Sv.mk .io (eDrw o)), .vl (Sv.mk .bor ((eL eI) heights1)), .vl (isv v1.1), .no, .no]) (tr_l_draw v1.2 (heights1.length : Int)) rfl rfl rfl rfl (fun _ => rfl) (fun o => (x_l_spoilt (o := o) rfl)) (fun x => (isv x)) (fun _ => rfl) (fun v2 => (c_ok (a := (isv v2.1)) (fun _ => rfl) (s_st rfl rfl (s_if (c_pure (v_tst (v_two (u := (isb (decide (v1.1 = (1 : Int))))) (v_sh rfl) v_c rfl (k_eq (x := v1.1) (y := (1 : Int)) eqt_I))) (s_selA (p := (v1.1 = (1 : Int))) rfl (s_ret (c_two (c_pure (v_sl (u := (Sv.mk .own ((eL eI) (cutD heights1 none (some v2.1))))) (v_bo rfl) rfl v_noP (v_part (v_sh rfl)) (k_sl (lft_sc (fun _ => rfl)))) (c_grd (by first | rfl | (unfold mk; repeat (first | rfl | split))) (c_pure (v_sl (u := (Sv.mk .own ((eL eI) (cutD heights1 (some (v2.1 + (1 : Int))) none)))) (v_bo rfl) rfl (v_part (v_two (u := (isv (v2.1 + (1 : Int)))) (v_sh rfl) v_c rfl (fun _ => rfl))) v_noP (k_sl (lft_sc (fun _ => rfl)))) (c_cat (e := eI) (xs := (cutD heights1 none (some v2.1))) (ys := (cutD heights1 (some (v2.1 + (1 : Int))) none)) rfl rfl (fun v3 => (r_ret (rt_l_spoilt (x := v3) (o := v2.2) rfl rfl rfl))))))))) (s_nil (s_if (c_pure (v_tst (v_two (u := (isb (decide (v1.1 = (2 : Int))))) (v_sh rfl) v_c rfl (k_eq (x := v1.1) (y := (2 : Int)) eqt_I))) (s_selA (p := (v1.1 = (2 : Int))) rfl (s_ret (c_two (c_two (c_pure (v_sl (u := (Sv.mk .own ((eL eI) (cutD heights1 none (some v2.1))))) (v_bo rfl) rfl v_noP (v_part (v_sh rfl)) (k_sl (lft_sc (fun _ => rfl)))) (c_grd (by first | rfl | (unfold mk; repeat (first | rfl | split))) (c_lst (c_aEx (c_frz (c_call (c_pure (v_aS rfl v_aN) (c_kcallJ [0] (fun (o : Drw) => [.vl (Sv.mk .io (eDrw o)), .vl (Sv.mk .bor ((eL eI) heights1)), .vl (isv v1.1), .vl (isv v2.1), .no]) (tr_l_any_item v2.2) rfl rfl rfl rfl (fun _ => rfl) (fun o => (x_l_spoilt (o := o) rfl)) (fun x => (isv x)) (fun _ => rfl) (fun v4 => (c_ok (a := (isv v4.1)) (fun _ => rfl) (c_grd (by first | rfl | (unfold mk; repeat (first | rfl | split))) (c_pure v_aN (c_ok (a := (Sv.mk .own ((eL eI) [v4.1]))) (fun _ => rfl) (c_cat (e := eI) (xs := (cutD heights1 none (some v2.1))) (ys := [v4.1]) rfl rfl (fun v5 => (c_grd (by first | rfl | (unfold mk; repeat (first | rfl | split))) (c_pure (v_sl (u := (Sv.mk .own ((eL eI) (cutD heights1 (some v2.1) none)))) (v_bo rfl) rfl (v_part (v_sh rfl)) v_noP (k_sl (lft_sc (fun _ => rfl)))) (c_cat (e := eI) (xs := v5) (ys := (cutD heights1 (some v2.1) none)) rfl rfl (fun v6 => (r_ret (rt_l_spoilt (x := v6) (o := v4.2) rfl rfl rfl)))))))))))))))))))))))) (s_nil (s_asg (c_two (c_pure (v_bo rfl) (c_grd (by first | rfl | (unfold mk; repeat (first | rfl | split))) (c_pure (v_sh rfl) (c_ix (fun x => (isv x)) (fun _ => rfl) (fun v7 => (s_st rfl rfl (s_if (c_pure (v_tst (v_two (u := (isb (decide (v1.1 = (3 : Int))))) (v_sh rfl) v_c rfl (k_eq (x := v1.1) (y := (3 : Int)) eqt_I))) (s_selJ (p := (v1.1 = (3 : Int))) (G := fun (a : (Drw × Int)) => [.vl (Sv.mk .io (eDrw a.1)), .vl (Sv.mk .bor ((eL eI) heights1)), .vl (isv v1.1), .vl (isv v2.1), .vl (isv a.2)]) rfl (s_last (s_asg (c_frz (c_call (c_pure (v_aS rfl v_aN) (c_kcallJ [0] (fun (o : Drw) => [.vl (Sv.mk .io (eDrw o)), .vl (Sv.mk .bor ((eL eI) heights1)), .vl (isv v1.1), .vl (isv v2.1), .vl (isv v7)]) (tr_l_any_item v2.2) rfl rfl rfl rfl (fun _ => rfl) (fun o => (x_l_spoilt (o := o) rfl)) (fun x => (isv x)) (fun _ => rfl) (fun v8 => (c_ok (a := (isv v8.1)) (fun _ => rfl) (s_st rfl rfl (s_end (G := fun (a : (Drw × Int)) => [.vl (Sv.mk .io (eDrw a.1)), .vl (Sv.mk .bor ((eL eI) heights1)), .vl (isv v1.1), .vl (isv v2.1), .vl (isv a.2)]) (by exact ⟨rfl, ⟨rfl, ⟨rfl, ⟨rfl, ⟨rfl, trivial⟩⟩⟩⟩⟩))))))))))) (s_end (G := fun (a : (Drw × Int)) => [.vl (Sv.mk .io (eDrw a.1)), .vl (Sv.mk .bor ((eL eI) heights1)), .vl (isv v1.1), .vl (isv v2.1), .vl (isv a.2)]) (by exact ⟨rfl, ⟨rfl, ⟨rfl, ⟨rfl, ⟨rfl, trivial⟩⟩⟩⟩⟩)) (fun q1 => (s_if (c_pure (v_tst (v_chain (q := ((4 : Int) ≤ v1.1)) (q' := (v1.1 ≤ (7 : Int))) v_c (v_sh rfl) v_c rfl rfl)) (s_selJ (p := (((4 : Int) ≤ v1.1) ∧ (v1.1 ≤ (7 : Int)))) (G := fun (a : Int) => [.vl (Sv.mk .io (eDrw q1.1)), .vl (Sv.mk .bor ((eL eI) heights1)), .vl (isv v1.1), .vl (isv v2.1), .vl (isv a)]) rfl (s_last (s_asg (c_frz (c_two (c_pure (v_sh rfl) (c_grd (by first | rfl | (unfold mk; repeat (first | rfl | split))) (c_two (c_pure (v_lst (u := (Sv.mk .own ((eL eI) [(1 : Int), (-(1 : Int)), (heights1.length : Int), (-(heights1.length : Int))]))) (v_aE v_c rfl (v_aE (v_one (u := (isv (-(1 : Int)))) v_c (fun _ => rfl)) rfl (v_aE (v_frz (v_one (u := (isv (heights1.length : Int))) (v_bo rfl) k_len) (fun _ => rfl)) rfl (v_aE (v_one (u := (isv (-(heights1.length : Int)))) (v_one (u := (isv (heights1.length : Int))) (v_bo rfl) k_len) (fun _ => rfl)) rfl v_aN)))) (fun _ => rfl)) (c_grd (by first | rfl | (unfold mk; repeat (first | rfl | split))) (c_pure (v_two (u := (isv (v1.1 - (4 : Int)))) (v_sh rfl) v_c rfl (fun _ => rfl)) (c_ix (fun x => (isv x)) (fun _ => rfl) (fun v9 => (c_ok (a := (isv (q1.2 + v9))) (fun _ => rfl) (c_ok (a := (isv (q1.2 + v9))) (fun _ => rfl) (s_let (v := fun (x : Int) => (isv x)) (x := (q1.2 + v9)) rfl (fun _ => rfl) (fun item1 => (s_end (G := fun (a : Int) => [.vl (Sv.mk .io (eDrw q1.1)), .vl (Sv.mk .bor ((eL eI) heights1)), .vl (isv v1.1), .vl (isv v2.1), .vl (isv a)]) (by exact ⟨rfl, ⟨rfl, ⟨rfl, ⟨rfl, ⟨rfl, trivial⟩⟩⟩⟩⟩)))))))))))))))))) (s_end (G := fun (a : Int) => [.vl (Sv.mk .io (eDrw q1.1)), .vl (Sv.mk .bor ((eL eI) heights1)), .vl (isv v1.1), .vl (isv v2.1), .vl (isv a)]) (by exact ⟨rfl, ⟨rfl, ⟨rfl, ⟨rfl, ⟨rfl, trivial⟩⟩⟩⟩⟩)) (fun q2 => (s_ret (c_two (c_two (c_pure (v_sl (u := (Sv.mk .own ((eL eI) (cutD heights1 none (some v2.1))))) (v_bo rfl) rfl v_noP (v_part (v_sh rfl)) (k_sl (lft_sc (fun _ => rfl)))) (c_grd (by first | rfl | (unfold mk; repeat (first | rfl | split))) (c_pure (v_lst (u := (Sv.mk .own ((eL eI) [q2]))) (v_aE (v_sh rfl) rfl v_aN) (fun _ => rfl)) (c_cat (e := eI) (xs := (cutD heights1 none (some v2.1))) (ys := [q2]) rfl rfl (fun v10 => (c_grd (by first | rfl | (unfold mk; repeat (first | rfl | split))) (c_pure (v_sl (u := (Sv.mk .own ((eL eI) (cutD heights1 (some (v2.1 + (1 : Int))) none)))) (v_bo rfl) rfl (v_part (v_two (u := (isv (v2.1 + (1 : Int)))) (v_sh rfl) v_c rfl (fun _ => rfl))) v_noP (k_sl (lft_sc (fun _ => rfl)))) (c_cat (e := eI) (xs := v10) (ys := (cutD heights1 (some (v2.1 + (1 : Int))) none)) rfl rfl (fun v11 => (r_ret (rt_l_spoilt (x := v11) (o := q1.1) rfl rfl rfl)))))))))))))))))))))))))))))))))))))))))))))))))))))) (⟨_, _, rfl, rfl, ⟨_, _, rfl, rfl, ⟨_, _, rfl, rfl, ⟨_, _, rfl, rfl, ⟨_, _, rfl, rfl, rfl⟩⟩⟩⟩⟩) fall_no
abbrev su_l_draw_list : Sur Empty Drw (List Int) := surF [.io] true (fun (o : Drw) => [eDrw o]) (eL eI)
theorem x_l_draw_list {Γ : List Sl} {o : Drw} (h : outsG [.io] 0 Γ = some ((fun (o : Drw) => [eDrw o]) o)) : ∀ ρ, EnvR Γ ρ → su_l_draw_list.ex o ρ := xf h
theorem rt_l_draw_list {Γ : List Sl} {x : (List Int)} {o : Drw} {s : Sv} (h1 : s.d = (eL eI) x) (h2 : resOk true s = true) (h : outsG [.io] 0 Γ = some ((fun (o : Drw) => [eDrw o]) o)) : ∀ ρ, EnvR Γ ρ → su_l_draw_list.rt x o s ρ := rtf h1 h2 h
theorem tr_l_draw_list (state1 : Drw) : FOk (fun (o : Drw) => [eDrw o]) (eL eI) (t_l_draw_list state1) (fn_l_draw_list [eDrw state1]) := by
  unfold t_l_draw_list
  exact fok_run (pm := [.io]) (rm := true) (eo := (fun (o : Drw) => [eDrw o])) (er := (eL eI)) (ν := Empty) (Γ := [.vl (Sv.mk .io (eDrw state1)), .no, .no, .no, .no, .no, .no, .no]) (P := PF) (s_asg (c_frz (c_call (c_pure (v_aS rfl (v_aE v_c rfl v_aN)) (c_kcallJ [0] (fun (o : Drw) => [.vl (Sv.mk .io (eDrw o)), .no, .no, .no, .no, .no, .no, .no]) (tr_l_draw state1 (5 : Int)) rfl rfl rfl rfl (fun _ => rfl) (fun o => (x_l_draw_list (o := o) rfl)) (fun x => (isv x)) (fun _ => rfl) (fun v1 => (c_ok (a := (isv v1.1)) (fun _ => rfl) (s_st rfl rfl (s_if (c_pure (v_tst (v_two (u := (isb (decide (v1.1 = (4 : Int))))) (v_sh rfl) v_c rfl (k_eq (x := v1.1) (y := (4 : Int)) eqt_I))) (s_selA (p := (v1.1 = (4 : Int))) rfl (s_asg (c_two (c_pure (v_lst (u := (Sv.mk .own ((eL eI) [(3 : Int), (2 : Int), (4 : Int), (1 : Int), (0 : Int), (7 : Int), (5 : Int), (6 : Int), (8 : Int), (40 : Int)]))) (v_aE v_c rfl (v_aE v_c rfl (v_aE v_c rfl (v_aE v_c rfl (v_aE v_c rfl (v_aE v_c rfl (v_aE v_c rfl (v_aE v_c rfl (v_aE v_c rfl (v_aE v_c rfl v_aN)))))))))) (fun _ => rfl)) (c_grd (by first | rfl | (unfold mk; repeat (first | rfl | split))) (c_call (c_pure (v_aS rfl (v_aE v_c rfl v_aN)) (c_kcallJ [0] (fun (o : Drw) => [.vl (Sv.mk .io (eDrw o)), .vl (isv v1.1), .no, .no, .no, .no, .no, .no]) (tr_l_draw v1.2 (10 : Int)) rfl rfl rfl rfl (fun _ => rfl) (fun o => (x_l_draw_list (o := o) rfl)) (fun x => (isv x)) (fun _ => rfl) (fun v2 => (c_ix (fun x => (isv x)) (fun _ => rfl) (fun v3 => (s_st rfl rfl (s_ret (c_lc (c_r1 (c_pure (v_sh rfl) (c_int (c_rng (fun r1 => (c_compS (s0 := v2.2) (D := (fun (a : Drw) => [.vl (Sv.mk .io (eDrw a)), .vl (isv v1.1), .vl (isv v3), .no, .no, .no, .no, .no])) (TG := fun (place2 : Int) (a : Drw) => [.vl (Sv.mk .io (eDrw a)), .vl (isv v1.1), .vl (isv v3), .vl (isv place2), .no, .no, .no, .no]) (te := fun (place2 : Int) (s1 : Drw) => (callI (fun o => ()) (t_l_any_item s1)).bind fun v5 =>
  .next (some v5.1, v5.2)) rfl eI rfl (t_nm (i := 3) (v := fun x => (isv x)) (fun _ => rfl) (fun _ => rfl)) (fun _ _ => rfl) (fun place2 s1 => (e_yesS (c_frz (c_call (c_pure (v_aS rfl v_aN) (c_kcallJ [0] (fun (o : Drw) => [.vl (Sv.mk .io (eDrw o)), .vl (isv v1.1), .vl (isv v3), .vl (isv place2), .no, .no, .no, .no]) (tr_l_any_item s1) rfl rfl rfl rfl (fun _ => rfl) (fun o => xE) (fun x => (isv x)) (fun _ => rfl) (fun v5 => (c_ok (a := (isv v5.1)) (fun _ => rfl) (e_someS (by exact (by exact ⟨rfl, ⟨rfl, ⟨rfl, ⟨rfl, ⟨trivial, ⟨trivial, ⟨trivial, ⟨trivial, trivial⟩⟩⟩⟩⟩⟩⟩⟩))))))))))) (fun l2 => (r_ret (rt_l_draw_list (x := l2.1) (o := l2.2) rfl rfl rfl)))))))))))))))))))))) (s_nil (s_asg (c_two (c_pure (v_lst (u := (Sv.mk .own ((eL eI) [(3 : Int), (2 : Int), (4 : Int), (1 : Int), (5 : Int), (6 : Int)]))) (v_aE v_c rfl (v_aE v_c rfl (v_aE v_c rfl (v_aE v_c rfl (v_aE v_c rfl (v_aE v_c rfl v_aN)))))) (fun _ => rfl)) (c_grd (by first | rfl | (unfold mk; repeat (first | rfl | split))) (c_call (c_pure (v_aS rfl (v_aE v_c rfl v_aN)) (c_kcallJ [0] (fun (o : Drw) => [.vl (Sv.mk .io (eDrw o)), .vl (isv v1.1), .no, .no, .no, .no, .no, .no]) (tr_l_draw v1.2 (6 : Int)) rfl rfl rfl rfl (fun _ => rfl) (fun o => (x_l_draw_list (o := o) rfl)) (fun x => (isv x)) (fun _ => rfl) (fun v6 => (c_ix (fun x => (isv x)) (fun _ => rfl) (fun v7 => (s_st rfl rfl (s_asg (c_call (c_pure (v_aS rfl (v_aS rfl (v_aE (v_two (u := (isb (decide (v1.1 = (3 : Int))))) (v_sh rfl) v_c rfl (k_eq (x := v1.1) (y := (3 : Int)) eqt_I)) rfl v_aN))) (c_kcallJ [0] (fun (o : Drw) => [.vl (Sv.mk .io (eDrw o)), .vl (isv v1.1), .no, .no, .vl (isv v7), .no, .no, .no]) (tr_l_throws v6.2 v7 (decide (v1.1 = (3 : Int)))) rfl rfl rfl rfl (fun _ => rfl) (fun o => (x_l_draw_list (o := o) rfl)) (fun x => (Sv.mk .own ((eL eI) x))) (fun _ => rfl) (fun v8 => (s_st rfl rfl (s_if (c_pure (v_tst (v_two (u := (isb (decide (v1.1 = (2 : Int))))) (v_sh rfl) v_c rfl (k_eq (x := v1.1) (y := (2 : Int)) eqt_I))) (s_selJ (p := (v1.1 = (2 : Int))) (G := fun (a : (Drw × (List Int))) => [.vl (Sv.mk .io (eDrw a.1)), .vl (isv v1.1), .no, .no, .vl (isv v7), .vl (Sv.mk .own ((eL eI) a.2)), .jk, .jk]) rfl (s_asg (c_frz (c_call (c_pure (v_aS rfl (v_aS rfl v_aN)) (c_kcallJ [0] (fun (o : Drw) => [.vl (Sv.mk .io (eDrw o)), .vl (isv v1.1), .no, .no, .vl (isv v7), .vl (Sv.mk .own ((eL eI) v8.1)), .no, .no]) (tr_l_draw v8.2 v7) rfl rfl rfl rfl (fun _ => rfl) (fun o => (x_l_draw_list (o := o) rfl)) (fun x => (isv x)) (fun _ => rfl) (fun v9 => (c_ok (a := (isv v9.1)) (fun _ => rfl) (s_st rfl rfl (s_asg (c_frz (c_two (c_pure v_c (c_grd (by first | rfl | (unfold mk; repeat (first | rfl | split))) (c_two (c_pure (v_one (u := (isv v8.1.sum)) (v_ow rfl) k_sum) (c_grd (by first | rfl | (unfold mk; repeat (first | rfl | split))) (c_pure (v_sh rfl) (c_div (fun v10 => (c_ok (a := (isv ((16 : Int) - v10))) (fun _ => rfl) (c_ok (a := (isv ((16 : Int) - v10))) (fun _ => rfl) (s_let (v := fun (x : Int) => (isv x)) (x := ((16 : Int) - v10)) rfl (fun _ => rfl) (fun missing1 => (s_last (s_set (c_frz (c_two (c_two (c_pure (v_ow rfl) (c_grd (by first | rfl | (unfold mk; repeat (first | rfl | split))) (c_pure (v_sh rfl) (c_ix (fun x => (isv x)) (fun _ => rfl) (fun v11 => (c_grd (by first | rfl | (unfold mk; repeat (first | rfl | split))) (c_two (c_pure (v_sh rfl) (c_grd (by first | rfl | (unfold mk; repeat (first | rfl | split))) (c_two (c_pure (v_sh rfl) (c_grd (by first | rfl | (unfold mk; repeat (first | rfl | split))) (c_call (c_pure (v_aS rfl (v_aE v_c rfl v_aN)) (c_kcallJ [0] (fun (o : Drw) => [.vl (Sv.mk .io (eDrw o)), .vl (isv v1.1), .no, .no, .vl (isv v7), .vl (Sv.mk .own ((eL eI) v8.1)), .vl (isv v9.1), .vl (isv missing1)]) (tr_l_draw v9.2 (2 : Int)) rfl rfl rfl rfl (fun _ => rfl) (fun o => (x_l_draw_list (o := o) rfl)) (fun x => (isv x)) (fun _ => rfl) (fun v12 => (c_ok (a := (isv (missing1 + v12.1))) (fun _ => rfl) (c_mul (fun v13 => (c_ok (a := (isv (v11 + v13))) (fun _ => rfl) (c_ok (a := (isv (v11 + v13))) (fun _ => rfl) (c_grdL rfl rfl (c_pure (v_sh rfl) (c_set (e := eI) (x := (v11 + v13)) rfl rfl (fun heights1 => (s_end (G := fun (a : (Drw × (List Int))) => [.vl (Sv.mk .io (eDrw a.1)), .vl (isv v1.1), .no, .no, .vl (isv v7), .vl (Sv.mk .own ((eL eI) a.2)), .jk, .jk]) (by exact ⟨rfl, ⟨rfl, ⟨trivial, ⟨trivial, ⟨rfl, ⟨rfl, ⟨trivial, ⟨trivial, trivial⟩⟩⟩⟩⟩⟩⟩⟩))))))))))))))))))))))))))))))))))))))))))))))))))))))) (s_end (G := fun (a : (Drw × (List Int))) => [.vl (Sv.mk .io (eDrw a.1)), .vl (isv v1.1), .no, .no, .vl (isv v7), .vl (Sv.mk .own ((eL eI) a.2)), .jk, .jk]) (by exact ⟨rfl, ⟨rfl, ⟨trivial, ⟨trivial, ⟨rfl, ⟨rfl, ⟨trivial, ⟨trivial, trivial⟩⟩⟩⟩⟩⟩⟩⟩)) (fun q1 => (s_ret (c_call (c_pure (v_aS rfl (v_aS rfl v_aN)) (c_kcallJ [0] (fun (o : Drw) => [.vl (Sv.mk .io (eDrw o)), .vl (isv v1.1), .no, .no, .vl (isv v7), .vl (Sv.mk .own ((eL eI) q1.2)), .jk, .jk]) (tr_l_spoilt q1.1 q1.2) rfl rfl rfl rfl (fun _ => rfl) (fun o => (x_l_draw_list (o := o) rfl)) (fun x => (Sv.mk .own ((eL eI) x))) (fun _ => rfl) (fun v14 => (r_ret (rt_l_draw_list (x := v14.1) (o := v14.2) rfl rfl rfl)))))))))))))))))))))))))))))))))))))))) (⟨_, _, rfl, rfl, ⟨_, _, rfl, rfl, ⟨_, _, rfl, rfl, ⟨_, _, rfl, rfl, ⟨_, _, rfl, rfl, ⟨_, _, rfl, rfl, ⟨_, _, rfl, rfl, ⟨_, _, rfl, rfl, rfl⟩⟩⟩⟩⟩⟩⟩⟩) fall_no
abbrev su_l_reason : Sur Empty Unit (List Vl) := surF [.bor] true (fun _ => []) (eL eV)
theorem rt_l_reason {Γ : List Sl} {x : (List Vl)} {o : Unit} {s : Sv} (h1 : s.d = (eL eV) x) (h2 : resOk true s = true) (h : outsG [.bor] 0 Γ = some ((fun _ => []) o)) : ∀ ρ, EnvR Γ ρ → su_l_reason.rt x o s ρ := rtf h1 h2 h
theorem tr_l_reason (heights1 : (List Int)) : FOk (fun _ => []) (eL eV) (t_l_reason_v3 heights1) (fn_l_reason [(eL eI) heights1]) := by
  unfold t_l_reason_v3
  exact fok_run (pm := [.bor]) (rm := true) (eo := (fun _ => [])) (er := (eL eV)) (ν := Empty) (Γ := [.vl (Sv.mk .bor ((eL eI) heights1)), .no, .no, .no, .no, .no, .no]) (P := PF) (s_asg (c_pure (v_frz (v_one (u := (isv (heights1.length : Int))) (v_bo rfl) k_len) (fun _ => rfl)) (s_st rfl rfl (s_if (c_pure (v_or (v_tst (v_two (u := (isb (decide ((heights1.length : Int) < (1 : Int))))) (v_sh rfl) v_c rfl (fun _ => rfl))) (v_tst (v_two (u := (isb (decide ((6 : Int) < (heights1.length : Int))))) (v_sh rfl) v_c rfl (fun _ => rfl)))) (s_selA (p := (((heights1.length : Int) < (1 : Int)) ∨ ((6 : Int) < (heights1.length : Int)))) rfl (s_ret (c_pure (v_lst (u := (Sv.mk .own ((eL eV) [(eS ['s', 'i', 'z', 'e']), (eI (heights1.length : Int))]))) (v_aE (v_str str_0) rfl (v_aE (v_sh rfl) rfl v_aN)) (fun _ => rfl)) (r_ret (rt_l_reason (x := [(eS ['s', 'i', 'z', 'e']), (eI (heights1.length : Int))]) (o := ()) rfl rfl rfl)))) (s_nil (s_for (c_r1 (c_pure (v_sh rfl) (c_int (c_rng (fun r1 => (c_grd0 (s_loop (v := fun (x : Int) => (isv x)) (G := (fun (a : Unit) => [.vl (Sv.mk .bor ((eL eI) heights1)), .vl (isv (heights1.length : Int)), .jk, .no, .no, .no, .no])) (by exact ⟨rfl, ⟨rfl, ⟨trivial, ⟨trivial, ⟨trivial, ⟨trivial, ⟨trivial, trivial⟩⟩⟩⟩⟩⟩⟩) (t_nm (i := 2) (v := fun x => (isv x)) (fun _ => rfl) (fun _ => rfl)) (fun place1 s1 => (s_last (s_if (c_joinB (v := fun b => b) (G := fun _ => [.vl (Sv.mk .bor ((eL eI) heights1)), .vl (isv (heights1.length : Int)), .vl (isv place1), .no, .no, .no, .no]) (c_or (c_tst (c_two (c_two (c_pure (v_bo rfl) (c_grd (by first | rfl | (unfold mk; repeat (first | rfl | split))) (c_pure (v_sh rfl) (c_ix (fun x => (isv x)) (fun _ => rfl) (fun v1 => (c_grd (by first | rfl | (unfold mk; repeat (first | rfl | split))) (c_pure v_c (c_ok (a := (isb (decide (v1 < (0 : Int))))) (fun _ => rfl) (c_ok (a := (decide (v1 < (0 : Int)))) (fun _ => rfl) (c_sel (p := (v1 < (0 : Int))) rfl (c_valB (v := fun b => b) (a := true) (by exact ⟨rfl, ⟨rfl, ⟨rfl, ⟨trivial, ⟨trivial, ⟨trivial, ⟨trivial, trivial⟩⟩⟩⟩⟩⟩⟩)) (c_tst (c_two (c_two (c_pure (v_bo rfl) (c_grd (by first | rfl | (unfold mk; repeat (first | rfl | split))) (c_pure (v_sh rfl) (c_ix (fun x => (isv x)) (fun _ => rfl) (fun v2 => (c_grd (by first | rfl | (unfold mk; repeat (first | rfl | split))) (c_pure v_c (c_ok (a := (isb (decide ((96 : Int) < v2)))) (fun _ => rfl) (c_ok (a := (decide ((96 : Int) < v2))) (fun _ => rfl) (c_valB (v := fun b => b) (a := (decide ((96 : Int) < v2))) (by exact ⟨rfl, ⟨rfl, ⟨rfl, ⟨trivial, ⟨trivial, ⟨trivial, ⟨trivial, trivial⟩⟩⟩⟩⟩⟩⟩)))))))))))))))))))))))))))) (fun t1 => (s_selA (p := (t1 = true)) (bt _) (s_ret (c_pure (v_lst (u := (Sv.mk .own ((eL eV) [(eS ['h', 'e', 'i', 'g', 'h', 't']), (eI place1)]))) (v_aE (v_str str_1) rfl (v_aE (v_sh rfl) rfl v_aN)) (fun _ => rfl)) (r_ret (rt_l_reason (x := [(eS ['h', 'e', 'i', 'g', 'h', 't']), (eI place1)]) (o := ()) rfl rfl rfl)))) (s_nil (s_end (G := (fun (a : Unit) => [.vl (Sv.mk .bor ((eL eI) heights1)), .vl (isv (heights1.length : Int)), .jk, .no, .no, .no, .no])) (by exact ⟨rfl, ⟨rfl, ⟨trivial, ⟨trivial, ⟨trivial, ⟨trivial, ⟨trivial, trivial⟩⟩⟩⟩⟩⟩⟩))))))))) (fun s2 => (s_for (c_r1 (c_pure (v_sh rfl) (c_int (c_rng (fun r2 => (c_grd0 (s_loop (v := fun (x : Int) => (isv x)) (G := (fun (a : Unit) => [.vl (Sv.mk .bor ((eL eI) heights1)), .vl (isv (heights1.length : Int)), .jk, .jk, .jk, .jk, .no])) (by exact ⟨rfl, ⟨rfl, ⟨trivial, ⟨trivial, ⟨trivial, ⟨trivial, ⟨trivial, trivial⟩⟩⟩⟩⟩⟩⟩) (t_nm (i := 3) (v := fun x => (isv x)) (fun _ => rfl) (fun _ => rfl)) (fun second1 s3 => (s_last (s_for (c_r1 (c_pure (v_sh rfl) (c_int (c_rng (fun r3 => (c_grd0 (s_loop (v := fun (x : Int) => (isv x)) (G := (fun (a : Unit) => [.vl (Sv.mk .bor ((eL eI) heights1)), .vl (isv (heights1.length : Int)), .jk, .vl (isv second1), .jk, .jk, .no])) (by exact ⟨rfl, ⟨rfl, ⟨trivial, ⟨rfl, ⟨trivial, ⟨trivial, ⟨trivial, trivial⟩⟩⟩⟩⟩⟩⟩) (t_nm (i := 4) (v := fun x => (isv x)) (fun _ => rfl) (fun _ => rfl)) (fun first1 s4 => (s_asg (c_frz (c_two (c_two (c_two (c_two (c_pure (v_bo rfl) (c_grd (by first | rfl | (unfold mk; repeat (first | rfl | split))) (c_pure (v_sh rfl) (c_ix (fun x => (isv x)) (fun _ => rfl) (fun v3 => (c_grd (by first | rfl | (unfold mk; repeat (first | rfl | split))) (c_pure (v_sh rfl) (c_ok (a := (isv (v3 + second1))) (fun _ => rfl) (c_grd (by first | rfl | (unfold mk; repeat (first | rfl | split))) (c_two (c_pure (v_bo rfl) (c_grd (by first | rfl | (unfold mk; repeat (first | rfl | split))) (c_pure (v_sh rfl) (c_ix (fun x => (isv x)) (fun _ => rfl) (fun v4 => (c_ok (a := (isv ((v3 + second1) - v4))) (fun _ => rfl) (c_grd (by first | rfl | (unfold mk; repeat (first | rfl | split))) (c_pure (v_sh rfl) (c_ok (a := (isv (((v3 + second1) - v4) - first1))) (fun _ => rfl) (c_ok (a := (isv (((v3 + second1) - v4) - first1))) (fun _ => rfl) (s_let (v := fun (x : Int) => (isv x)) (x := (((v3 + second1) - v4) - first1)) rfl (fun _ => rfl) (fun apart1 => (s_last (s_if (c_tst (c_two (c_two (c_pure (v_one (u := (isv apart1)) (v_sh rfl) (fun _ => rfl)) (c_grd (by first | rfl | (unfold mk; repeat (first | rfl | split))) (c_pure (v_sh rfl) (c_mod (fun v5 => (c_grd (by first | rfl | (unfold mk; repeat (first | rfl | split))) (c_pure v_c (c_ok (a := (isb (decide (v5 = (0 : Int))))) (k_eq (x := v5) (y := (0 : Int)) eqt_I) (c_ok (a := (decide (v5 = (0 : Int)))) (fun _ => rfl) (s_selA (p := (v5 = (0 : Int))) rfl (s_ret (c_pure (v_lst (u := (Sv.mk .own ((eL eV) [(eS ['c', 'o', 'l', 'l', 'i', 's', 'i', 'o', 'n']), (eI first1), (eI second1)]))) (v_aE (v_str str_2) rfl (v_aE (v_sh rfl) rfl (v_aE (v_sh rfl) rfl v_aN))) (fun _ => rfl)) (r_ret (rt_l_reason (x := [(eS ['c', 'o', 'l', 'l', 'i', 's', 'i', 'o', 'n']), (eI first1), (eI second1)]) (o := ()) rfl rfl rfl)))) (s_nil (s_end (G := (fun (a : Unit) => [.vl (Sv.mk .bor ((eL eI) heights1)), .vl (isv (heights1.length : Int)), .jk, .vl (isv second1), .jk, .jk, .no])) (by exact ⟨rfl, ⟨rfl, ⟨trivial, ⟨rfl, ⟨trivial, ⟨trivial, ⟨trivial, trivial⟩⟩⟩⟩⟩⟩⟩))))))))))))))))))))))))))))))))))))))))))))))) (fun s5 => (s_end (G := (fun (a : Unit) => [.vl (Sv.mk .bor ((eL eI) heights1)), .vl (isv (heights1.length : Int)), .jk, .jk, .jk, .jk, .no])) (by exact ⟨rfl, ⟨rfl, ⟨trivial, ⟨trivial, ⟨trivial, ⟨trivial, ⟨trivial, trivial⟩⟩⟩⟩⟩⟩⟩))))))))))))) (fun s6 => (s_asg (c_frz (c_two (c_pure (v_one (u := (isv heights1.sum)) (v_bo rfl) k_sum) (c_grd (by first | rfl | (unfold mk; repeat (first | rfl | split))) (c_pure (v_sh rfl) (c_div (fun v6 => (c_ok (a := (isv v6)) (fun _ => rfl) (s_st rfl rfl (s_if (c_pure (v_tst (v_two (u := (isb (decide ((16 : Int) < v6)))) (v_sh rfl) v_c rfl (fun _ => rfl))) (s_selA (p := ((16 : Int) < v6)) rfl (s_ret (c_pure (v_lst (u := (Sv.mk .own ((eL eV) [(eS ['b', 'a', 'l', 'l', 's']), (eI v6)]))) (v_aE (v_str str_3) rfl (v_aE (v_sh rfl) rfl v_aN)) (fun _ => rfl)) (r_ret (rt_l_reason (x := [(eS ['b', 'a', 'l', 'l', 's']), (eI v6)]) (o := ()) rfl rfl rfl)))) (s_nil (s_ret (c_pure (v_lst (u := (Sv.mk .own ((eL eV) ([] : List Vl)))) v_aN (fun _ => rfl)) (r_ret (rt_l_reason (x := ([] : List Vl)) (o := ()) rfl rfl rfl))))))))))))))))))))))))))))))))))))))))))) (⟨_, _, rfl, rfl, ⟨_, _, rfl, rfl, ⟨_, _, rfl, rfl, ⟨_, _, rfl, rfl, ⟨_, _, rfl, rfl, ⟨_, _, rfl, rfl, ⟨_, _, rfl, rfl, rfl⟩⟩⟩⟩⟩⟩⟩) fall_no
abbrev su_Cast___init__ : Sur Empty Unit C_Cast := surI [.io, .bor] e_Cast
theorem x_Cast___init__ {Γ : List Sl} {d : Vl} (h : outsG [.io, .bor] 0 Γ = some [d]) : ∀ ρ, EnvR Γ ρ → su_Cast___init__.ex () ρ := xi h
theorem tr_Cast___init__ (heights1 : (List Int)) : FOkI e_Cast (t_Cast___init__ heights1) (fn_Cast___init__ [.ins "Cast" [], (eL eI) heights1]) := by
  unfold t_Cast___init__
  exact foki_run (er := e_Cast) (pm := [.io, .bor]) (ν := C_Cast) (Γ := [.vl ⟨.io, .ins "Cast" []⟩, .vl (Sv.mk .bor ((eL eI) heights1)), .no, .no, .no, .no, .no]) (P := (PN (fun (a : C_Cast) => [.vl (Sv.mk .io (e_Cast a)), .jk, .jk, .jk, .jk, .jk, .jk]))) (s_asg (c_pure (v_frz (v_one (u := (isv (heights1.length : Int))) (v_bo rfl) k_len) (fun _ => rfl)) (s_st rfl rfl (s_if (c_pure (v_not (v_tst (v_chain (q := ((1 : Int) ≤ (heights1.length : Int))) (q' := ((heights1.length : Int) ≤ (6 : Int))) v_c (v_sh rfl) v_c rfl rfl))) (s_selA (p := (¬ (((1 : Int) ≤ (heights1.length : Int)) ∧ ((heights1.length : Int) ≤ (6 : Int))))) rfl (s_raise (c_pure (v_aS rfl v_aN) (r_raise rfl rfl (x_Cast___init__ rfl)))) (s_nil (s_for (c_r1 (c_pure (v_sh rfl) (c_int (c_rng (fun r1 => (c_grd0 (s_loop (v := fun (x : Int) => (isv x)) (G := (fun (a : Unit) => [.vl ⟨.io, .ins "Cast" []⟩, .vl (Sv.mk .bor ((eL eI) heights1)), .vl (isv (heights1.length : Int)), .jk, .no, .no, .no])) (by exact ⟨rfl, ⟨rfl, ⟨rfl, ⟨trivial, ⟨trivial, ⟨trivial, ⟨trivial, trivial⟩⟩⟩⟩⟩⟩⟩) (t_nm (i := 3) (v := fun x => (isv x)) (fun _ => rfl) (fun _ => rfl)) (fun place1 s1 => (s_last (s_if (c_not (c_tst (c_join (v := fun (x : Bool) => isb x) (G := fun _ => [.vl ⟨.io, .ins "Cast" []⟩, .vl (Sv.mk .bor ((eL eI) heights1)), .vl (isv (heights1.length : Int)), .vl (isv place1), .no, .no, .no]) (c_chain (c_pure v_c (c_int (c_two (c_pure (v_bo rfl) (c_grd (by first | rfl | (unfold mk; repeat (first | rfl | split))) (c_pure (v_sh rfl) (c_ix (fun x => (isv x)) (fun _ => rfl) (fun v1 => (c_int (c_sel (p := ((0 : Int) ≤ v1)) rfl (c_pure v_c (c_int (c_val (v := fun (x : Bool) => isb x) (a := (decide (v1 ≤ (96 : Int)))) (by exact ⟨rfl, ⟨rfl, ⟨rfl, ⟨rfl, ⟨trivial, ⟨trivial, ⟨trivial, trivial⟩⟩⟩⟩⟩⟩⟩)))) (c_val (v := fun (x : Bool) => isb x) (a := false) (by exact ⟨rfl, ⟨rfl, ⟨rfl, ⟨rfl, ⟨trivial, ⟨trivial, ⟨trivial, trivial⟩⟩⟩⟩⟩⟩⟩))))))))))))) (fun j1 => (c_ok (a := j1) (fun _ => rfl) (s_selA (p := (¬ (j1 = true))) (not_dec (bt _)) (s_raise (c_pure (v_aS rfl v_aN) (r_raise rfl rfl (x_Cast___init__ rfl)))) (s_nil (s_end (G := (fun (a : Unit) => [.vl ⟨.io, .ins "Cast" []⟩, .vl (Sv.mk .bor ((eL eI) heights1)), .vl (isv (heights1.length : Int)), .jk, .no, .no, .no])) (by exact ⟨rfl, ⟨rfl, ⟨rfl, ⟨trivial, ⟨trivial, ⟨trivial, ⟨trivial, trivial⟩⟩⟩⟩⟩⟩⟩)))))))))))) (fun s2 => (s_for (c_r1 (c_pure (v_sh rfl) (c_int (c_rng (fun r2 => (c_grd0 (s_loop (v := fun (x : Int) => (isv x)) (G := (fun (a : Unit) => [.vl ⟨.io, .ins "Cast" []⟩, .vl (Sv.mk .bor ((eL eI) heights1)), .vl (isv (heights1.length : Int)), .jk, .jk, .jk, .no])) (by exact ⟨rfl, ⟨rfl, ⟨rfl, ⟨trivial, ⟨trivial, ⟨trivial, ⟨trivial, trivial⟩⟩⟩⟩⟩⟩⟩) (t_nm (i := 4) (v := fun x => (isv x)) (fun _ => rfl) (fun _ => rfl)) (fun second1 s3 => (s_last (s_for (c_r1 (c_pure (v_sh rfl) (c_int (c_rng (fun r3 => (c_grd0 (s_loop (v := fun (x : Int) => (isv x)) (G := (fun (a : Unit) => [.vl ⟨.io, .ins "Cast" []⟩, .vl (Sv.mk .bor ((eL eI) heights1)), .vl (isv (heights1.length : Int)), .jk, .vl (isv second1), .jk, .no])) (by exact ⟨rfl, ⟨rfl, ⟨rfl, ⟨trivial, ⟨rfl, ⟨trivial, ⟨trivial, trivial⟩⟩⟩⟩⟩⟩⟩) (t_nm (i := 5) (v := fun x => (isv x)) (fun _ => rfl) (fun _ => rfl)) (fun first1 s4 => (s_last (s_if (c_tst (c_two (c_two (c_two (c_two (c_two (c_pure (v_sh rfl) (c_grd (by first | rfl | (unfold mk; repeat (first | rfl | split))) (c_two (c_pure (v_bo rfl) (c_grd (by first | rfl | (unfold mk; repeat (first | rfl | split))) (c_pure (v_sh rfl) (c_ix (fun x => (isv x)) (fun _ => rfl) (fun v2 => (c_ok (a := (isv (second1 + v2))) (fun _ => rfl) (c_grd (by first | rfl | (unfold mk; repeat (first | rfl | split))) (c_pure (v_sh rfl) (c_ok (a := (isv ((second1 + v2) - first1))) (fun _ => rfl) (c_grd (by first | rfl | (unfold mk; repeat (first | rfl | split))) (c_two (c_pure (v_bo rfl) (c_grd (by first | rfl | (unfold mk; repeat (first | rfl | split))) (c_pure (v_sh rfl) (c_ix (fun x => (isv x)) (fun _ => rfl) (fun v3 => (c_ok (a := (isv (((second1 + v2) - first1) - v3))) (fun _ => rfl) (c_grd (by first | rfl | (unfold mk; repeat (first | rfl | split))) (c_pure (v_sh rfl) (c_mod (fun v4 => (c_grd (by first | rfl | (unfold mk; repeat (first | rfl | split))) (c_pure v_c (c_ok (a := (isb (decide (v4 = (0 : Int))))) (k_eq (x := v4) (y := (0 : Int)) eqt_I) (c_ok (a := (decide (v4 = (0 : Int)))) (fun _ => rfl) (s_selA (p := (v4 = (0 : Int))) rfl (s_raise (c_pure (v_aS rfl (v_aS rfl v_aN)) (r_raise rfl rfl (x_Cast___init__ rfl)))) (s_nil (s_end (G := (fun (a : Unit) => [.vl ⟨.io, .ins "Cast" []⟩, .vl (Sv.mk .bor ((eL eI) heights1)), .vl (isv (heights1.length : Int)), .jk, .vl (isv second1), .jk, .no])) (by exact ⟨rfl, ⟨rfl, ⟨rfl, ⟨trivial, ⟨rfl, ⟨trivial, ⟨trivial, trivial⟩⟩⟩⟩⟩⟩⟩))))))))))))))))))))))))))))))))))))))))) (fun s5 => (s_end (G := (fun (a : Unit) => [.vl ⟨.io, .ins "Cast" []⟩, .vl (Sv.mk .bor ((eL eI) heights1)), .vl (isv (heights1.length : Int)), .jk, .jk, .jk, .no])) (by exact ⟨rfl, ⟨rfl, ⟨rfl, ⟨trivial, ⟨trivial, ⟨trivial, ⟨trivial, trivial⟩⟩⟩⟩⟩⟩⟩))))))))))))) (fun s6 => (s_asg (c_frz (c_two (c_pure (v_one (u := (isv heights1.sum)) (v_bo rfl) k_sum) (c_grd (by first | rfl | (unfold mk; repeat (first | rfl | split))) (c_pure (v_sh rfl) (c_div (fun v5 => (c_ok (a := (isv v5)) (fun _ => rfl) (s_st rfl rfl (s_if (c_pure (v_tst (v_two (u := (isb (decide ((16 : Int) < v5)))) (v_sh rfl) v_c rfl (fun _ => rfl))) (s_selA (p := ((16 : Int) < v5)) rfl (s_raise (c_pure (v_aS rfl v_aN) (r_raise rfl rfl (x_Cast___init__ rfl)))) (s_nil (s_last (s_fld (c_pure (v_frz (v_one (u := (Sv.mk .shr ((eT eI) heights1))) (v_bo rfl) (k_tupL (lft_sc (fun _ => rfl)))) (fun _ => rfl)) (c_grd rfl (c_fld (d := (eT eI) heights1) rfl (by decide) rfl (s_end (G := (fun (a : C_Cast) => [.vl (Sv.mk .io (e_Cast a)), .jk, .jk, .jk, .jk, .jk, .jk])) ⟨rfl, ⟨trivial, ⟨trivial, ⟨trivial, ⟨trivial, ⟨trivial, ⟨trivial, trivial⟩⟩⟩⟩⟩⟩⟩))))))))))))))))))))))))))))))))))))))))))))) (⟨_, _, rfl, rfl, ⟨_, _, rfl, rfl, ⟨_, _, rfl, rfl, ⟨_, _, rfl, rfl, ⟨_, _, rfl, rfl, ⟨_, _, rfl, rfl, ⟨_, _, rfl, rfl, rfl⟩⟩⟩⟩⟩⟩⟩) (fall_init (fun _ => rfl))
abbrev su_l_whole : Sur Empty Unit Bool := surF [.bor] true (fun _ => []) eB
theorem rt_l_whole {Γ : List Sl} {x : Bool} {o : Unit} {s : Sv} (h1 : s.d = eB x) (h2 : resOk true s = true) (h : outsG [.bor] 0 Γ = some ((fun _ => []) o)) : ∀ ρ, EnvR Γ ρ → su_l_whole.rt x o s ρ := rtf h1 h2 h
theorem tr_l_whole (value1 : Int) : FOk (fun _ => []) eB (t_l_whole value1) (fn_l_whole [eI value1]) := by
  unfold t_l_whole
  exact fok_run (pm := [.bor]) (rm := true) (eo := (fun _ => [])) (er := eB) (ν := Empty) (Γ := [.vl (isv value1)]) (P := PF) (s_ret (c_pure (v_andV (v_bpV (v_one (u := (isb true)) (v_sh rfl) (fun _ => rfl))) (v_notV (v_bpV (v_one (u := (isb false)) (v_sh rfl) (fun _ => rfl))))) (r_ret (rt_l_whole (x := (decide ((true = true) ∧ (¬ (false = true))))) (o := ()) rfl rfl rfl)))) (⟨_, _, rfl, rfl, rfl⟩) fall_no
abbrev su_l_row : Sur Empty Unit (List Vl) := surF [.shr, .bor, .bor] true (fun _ => []) (eL eV)
theorem rt_l_row {Γ : List Sl} {x : (List Vl)} {o : Unit} {s : Sv} (h1 : s.d = (eL eV) x) (h2 : resOk true s = true) (h : outsG [.shr, .bor, .bor] 0 Γ = some ((fun _ => []) o)) : ∀ ρ, EnvR Γ ρ → su_l_row.rt x o s ρ := rtf h1 h2 h
theorem tr_l_row (word1 : (List Char)) (fields1 : (List Int)) (other1 : Bool) : FOk (fun _ => []) (eL eV) (t_l_row word1 fields1 other1) (fn_l_row [eS word1, (eL eI) fields1, eB other1]) := by
  unfold t_l_row
  exact fok_run (pm := [.shr, .bor, .bor]) (rm := true) (eo := (fun _ => [])) (er := (eL eV)) (ν := Empty) (Γ := [.vl (sv (eS word1)), .vl (Sv.mk .bor ((eL eI) fields1)), .vl (isb other1), .no]) (P := PF) (s_if (c_joinB (v := fun b => b) (G := fun _ => [.vl (sv (eS word1)), .vl (Sv.mk .bor ((eL eI) fields1)), .vl (isb other1), .no]) (c_or (c_pure (v_bp (v_tru (v_sh rfl) rfl)) (c_sel (p := (other1 = true)) rfl (c_valB (v := fun b => b) (a := true) (by exact ⟨rfl, ⟨rfl, ⟨rfl, ⟨trivial, trivial⟩⟩⟩⟩)) (c_tst (c_two (c_lc (c_src (c_pure (v_bo rfl) (c_ok (a := (true, (fields1).map fun x => (isv x))) k_itL (c_comp (te := fun field1 => (callO () (t_l_whole field1)).bind fun v1 =>
  if (¬ (v1 = true)) then .next (some field1) else .next none) rfl eI rfl (t_nmC (n := 3) (v := fun x => (isv x)) rfl (fun _ => rfl)) (fun _ => rfl) (fun field1 => (e_go (c_not (c_tru (c_call (c_pure (v_aS rfl v_aN) (c_kcall (tr_l_whole field1) rfl rfl rfl xE (fun x => (isb x)) (fun _ => rfl) (fun v1 => (c_ktru (b := v1) rfl (c_sel (p := (¬ (v1 = true))) (not_dec (bt _)) (c_pure (v_sh rfl) (e_some (by exact (by exact ⟨rfl, ⟨rfl, ⟨rfl, ⟨rfl, trivial⟩⟩⟩⟩)))) (e_none (by exact (by exact ⟨rfl, ⟨rfl, ⟨rfl, ⟨rfl, trivial⟩⟩⟩⟩))))))))))))) (fun l1 => (c_grd (by first | rfl | (unfold mk; repeat (first | rfl | split))) (c_pure (v_lst (u := (Sv.mk .own ((eL eV) ([] : List Vl)))) v_aN (fun _ => rfl)) (c_ok (a := (isb (decide (l1 ≠ ([] : List Int))))) (k_ne (x := l1) (y := ([] : List Int)) (eqt_L eqt_I)) (c_ok (a := (decide (l1 ≠ ([] : List Int)))) (fun _ => rfl) (c_valB (v := fun b => b) (a := (decide (l1 ≠ ([] : List Int)))) (by exact ⟨rfl, ⟨rfl, ⟨rfl, ⟨trivial, trivial⟩⟩⟩⟩))))))))))))))))) (fun t1 => (s_selA (p := (t1 = true)) (bt _) (s_ret (c_pure (v_lst (u := (Sv.mk .own ((eL eS) [['o', 'd', 'd']]))) (v_aE (v_str str_4) rfl v_aN) (fun _ => rfl)) (r_ret (rt_l_row (x := [(eS ['o', 'd', 'd'])]) (o := ()) rfl rfl rfl)))) (s_nil (s_ret (c_two (c_pure (v_lst (u := (Sv.mk .own ((eL eS) [word1]))) (v_aE (v_sh rfl) rfl v_aN) (fun _ => rfl)) (c_grd (by first | rfl | (unfold mk; repeat (first | rfl | split))) (c_pure (v_bo rfl) (c_catV rfl (lft_sc (fun _ => rfl)) (fun v2 => (r_ret (rt_l_row (x := v2) (o := ()) rfl rfl rfl)))))))))))))) (⟨_, _, rfl, rfl, ⟨_, _, rfl, rfl, ⟨_, _, rfl, rfl, ⟨_, _, rfl, rfl, rfl⟩⟩⟩⟩) fall_no
abbrev su_l_outcome : Sur Empty Unit (List Vl) := surF [.bor] true (fun _ => []) (eL eV)
theorem x_l_outcome {Γ : List Sl} {o : Unit} (h : outsG [.bor] 0 Γ = some ((fun _ => []) o)) : ∀ ρ, EnvR Γ ρ → su_l_outcome.ex o ρ := xf h
theorem rt_l_outcome {Γ : List Sl} {x : (List Vl)} {o : Unit} {s : Sv} (h1 : s.d = (eL eV) x) (h2 : resOk true s = true) (h : outsG [.bor] 0 Γ = some ((fun _ => []) o)) : ∀ ρ, EnvR Γ ρ → su_l_outcome.rt x o s ρ := rtf h1 h2 h
theorem tr_l_outcome (heights1 : (List Int)) : FOk (fun _ => []) (eL eV) (t_l_outcome_v7 heights1) (fn_l_outcome [(eL eI) heights1]) := by
  unfold t_l_outcome_v7
  exact fok_run (pm := [.bor]) (rm := true) (eo := (fun _ => [])) (er := (eL eV)) (ν := Empty) (Γ := [.vl (Sv.mk .bor ((eL eI) heights1)), .no, .no]) (P := PF) (s_then (G := (fun (a : Unit) => [.vl (Sv.mk .bor ((eL eI) heights1)), .jk, .no])) (s_try (g := (fun o => ())) (Gx := (fun (a : Unit) => [.vl (Sv.mk .bor ((eL eI) heights1)), .no, .no])) pn_ne (s_last (s_expr (c_make (c_pure (v_aS rfl v_aN) (c_kmake (tr_Cast___init__ heights1) rfl rfl (xtry (by exact ⟨rfl, ⟨trivial, ⟨trivial, trivial⟩⟩⟩)) (fun v1 => (s_end (G := (fun (a : Unit) => [.vl (Sv.mk .bor ((eL eI) heights1)), .jk, .no])) (by exact ⟨rfl, ⟨trivial, ⟨trivial, trivial⟩⟩⟩)))))))) (fun c1 fs1 o1 => (h_as rfl pn_ne (hn_N (fun _ => (.inl rfl))) hl_0 (RS.ofF (s_asg (c_pure (v_frz (v_isx) (fun _ => rfl)) (s_let (v := fun (x : Bool) => (isb x)) (x := (List.contains ([] : List Str) c1)) rfl (fun _ => rfl) (fun other1 => (s_ret (c_call (c_aEx (c_pure (v_str str_0) (c_grd (by first | rfl | (unfold mk; repeat (first | rfl | split))) (c_aEx (c_lst (c_aEx (c_xfI (fun v2 => (c_grd (by first | rfl | (unfold mk; repeat (first | rfl | split))) (c_pure v_aN (c_ok (a := (Sv.mk .own ((eL eI) [v2]))) (fun _ => rfl) (c_grd (by first | rfl | (unfold mk; repeat (first | rfl | split))) (c_aSl rfl (c_pure v_aN (c_kcallN (tr_l_row ['s', 'i', 'z', 'e'] [v2] other1) rfl rfl rfl (fun x => (Sv.mk .own ((eL eV) x))) (fun _ => rfl) (fun v3 => (r_ret (rt_l_outcome (x := v3) (o := ()) rfl rfl rfl))))))))))))))))))))))))) (h_as rfl pn_ne (hn_N (fun _ => (.inl rfl))) hl_0 (RS.ofF (s_asg (c_pure (v_frz (v_isx) (fun _ => rfl)) (s_let (v := fun (x : Bool) => (isb x)) (x := (List.contains ([] : List Str) c1)) rfl (fun _ => rfl) (fun other2 => (s_ret (c_call (c_aEx (c_pure (v_str str_1) (c_grd (by first | rfl | (unfold mk; repeat (first | rfl | split))) (c_aEx (c_lst (c_aEx (c_xfI (fun v4 => (c_grd (by first | rfl | (unfold mk; repeat (first | rfl | split))) (c_pure v_aN (c_ok (a := (Sv.mk .own ((eL eI) [v4]))) (fun _ => rfl) (c_grd (by first | rfl | (unfold mk; repeat (first | rfl | split))) (c_aSl rfl (c_pure v_aN (c_kcallN (tr_l_row ['h', 'e', 'i', 'g', 'h', 't'] [v4] other2) rfl rfl rfl (fun x => (Sv.mk .own ((eL eV) x))) (fun _ => rfl) (fun v5 => (r_ret (rt_l_outcome (x := v5) (o := ()) rfl rfl rfl))))))))))))))))))))))))) (h_as rfl pn_ne (hn_N (fun _ => (.inl rfl))) hl_0 (RS.ofF (s_asg (c_pure (v_frz (v_isx) (fun _ => rfl)) (s_let (v := fun (x : Bool) => (isb x)) (x := (List.contains ([] : List Str) c1)) rfl (fun _ => rfl) (fun other3 => (s_ret (c_call (c_aEx (c_pure (v_str str_2) (c_grd (by first | rfl | (unfold mk; repeat (first | rfl | split))) (c_aEx (c_lst (c_aEx (c_xfI (fun v6 => (c_grd (by first | rfl | (unfold mk; repeat (first | rfl | split))) (c_aEx (c_xfI (fun v7 => (c_grd (by first | rfl | (unfold mk; repeat (first | rfl | split))) (c_pure v_aN (c_ok (a := (Sv.mk .own ((eL eI) [v6, v7]))) (fun _ => rfl) (c_grd (by first | rfl | (unfold mk; repeat (first | rfl | split))) (c_aSl rfl (c_pure v_aN (c_kcallN (tr_l_row ['c', 'o', 'l', 'l', 'i', 's', 'i', 'o', 'n'] [v6, v7] other3) rfl rfl rfl (fun x => (Sv.mk .own ((eL eV) x))) (fun _ => rfl) (fun v8 => (r_ret (rt_l_outcome (x := v8) (o := ()) rfl rfl rfl))))))))))))))))))))))))))))) (h_as rfl pn_ne (hn_N (fun _ => (.inl rfl))) hl_0 (RS.ofF (s_asg (c_pure (v_frz (v_isx) (fun _ => rfl)) (s_let (v := fun (x : Bool) => (isb x)) (x := (List.contains ([] : List Str) c1)) rfl (fun _ => rfl) (fun other4 => (s_ret (c_call (c_aEx (c_pure (v_str str_3) (c_grd (by first | rfl | (unfold mk; repeat (first | rfl | split))) (c_aEx (c_lst (c_aEx (c_xfI (fun v9 => (c_grd (by first | rfl | (unfold mk; repeat (first | rfl | split))) (c_pure v_aN (c_ok (a := (Sv.mk .own ((eL eI) [v9]))) (fun _ => rfl) (c_grd (by first | rfl | (unfold mk; repeat (first | rfl | split))) (c_aSl rfl (c_pure v_aN (c_kcallN (tr_l_row ['b', 'a', 'l', 'l', 's'] [v9] other4) rfl rfl rfl (fun x => (Sv.mk .own ((eL eV) x))) (fun _ => rfl) (fun v10 => (r_ret (rt_l_outcome (x := v10) (o := ()) rfl rfl rfl))))))))))))))))))))))))) (h_end (x_l_outcome (o := ()) rfl)))))))) (fun q1 => (s_ret (c_pure (v_lst (u := (Sv.mk .own ((eL eV) ([] : List Vl)))) v_aN (fun _ => rfl)) (r_ret (rt_l_outcome (x := ([] : List Vl)) (o := ()) rfl rfl rfl)))))) (⟨_, _, rfl, rfl, ⟨_, _, rfl, rfl, ⟨_, _, rfl, rfl, rfl⟩⟩⟩) fall_no
abbrev su_l_is_list : Sur Empty Unit Bool := surF [.bor, .bor] true (fun _ => []) eB
theorem x_l_is_list {Γ : List Sl} {o : Unit} (h : outsG [.bor, .bor] 0 Γ = some ((fun _ => []) o)) : ∀ ρ, EnvR Γ ρ → su_l_is_list.ex o ρ := xf h
theorem rt_l_is_list {Γ : List Sl} {x : Bool} {o : Unit} {s : Sv} (h1 : s.d = eB x) (h2 : resOk true s = true) (h : outsG [.bor, .bor] 0 Γ = some ((fun _ => []) o)) : ∀ ρ, EnvR Γ ρ → su_l_is_list.rt x o s ρ := rtf h1 h2 h
theorem tr_l_is_list (actual1 : (List Int)) (due1 : (List Int)) : FOk (fun _ => []) eB (t_l_is_list actual1 due1) (fn_l_is_list [(eL eI) actual1, (eL eI) due1]) := by
  unfold t_l_is_list
  exact fok_run (pm := [.bor, .bor]) (rm := true) (eo := (fun _ => [])) (er := eB) (ν := Empty) (Γ := [.vl (Sv.mk .bor ((eL eI) actual1)), .vl (Sv.mk .bor ((eL eI) due1)), .no]) (P := PF) (s_if (c_pure (v_or (v_not (v_bp (v_tru (v_one (u := (isb true)) (v_bo rfl) (fun _ => rfl)) rfl))) (v_tst (v_two (u := (isb (decide ((actual1.length : Int) ≠ (due1.length : Int))))) (v_one (u := (isv (actual1.length : Int))) (v_bo rfl) k_len) (v_one (u := (isv (due1.length : Int))) (v_bo rfl) k_len) rfl (k_ne (x := (actual1.length : Int)) (y := (due1.length : Int)) eqt_I)))) (s_selA (p := ((¬ (true = true)) ∨ ((actual1.length : Int) ≠ (due1.length : Int)))) rfl (s_ret (c_pure v_c (r_ret (rt_l_is_list (x := false) (o := ()) rfl rfl rfl)))) (s_nil (s_for (c_r1 (c_pure (v_one (u := (isv (due1.length : Int))) (v_bo rfl) k_len) (c_int (c_rng (fun r1 => (c_grd0 (s_loop (v := fun (x : Int) => (isv x)) (G := (fun (a : Unit) => [.vl (Sv.mk .bor ((eL eI) actual1)), .vl (Sv.mk .bor ((eL eI) due1)), .jk])) (by exact ⟨rfl, ⟨rfl, ⟨trivial, trivial⟩⟩⟩) (t_nm (i := 2) (v := fun x => (isv x)) (fun _ => rfl) (fun _ => rfl)) (fun place1 s1 => (s_last (s_if (c_joinB (v := fun b => b) (G := fun _ => [.vl (Sv.mk .bor ((eL eI) actual1)), .vl (Sv.mk .bor ((eL eI) due1)), .vl (isv place1)]) (c_or (c_not (c_tru (c_call (c_aEx (c_two (c_pure (v_bo rfl) (c_grd (by first | rfl | (unfold mk; repeat (first | rfl | split))) (c_pure (v_sh rfl) (c_ix (fun x => (isv x)) (fun _ => rfl) (fun v1 => (c_grd (by first | rfl | (unfold mk; repeat (first | rfl | split))) (c_pure v_aN (c_kcall (tr_l_whole v1) rfl rfl rfl (x_l_is_list (o := ()) rfl) (fun x => (isb x)) (fun _ => rfl) (fun v2 => (c_ktru (b := v2) rfl (c_sel (p := (¬ (v2 = true))) (not_dec (bt _)) (c_valB (v := fun b => b) (a := true) (by exact ⟨rfl, ⟨rfl, ⟨rfl, trivial⟩⟩⟩)) (c_tst (c_two (c_two (c_pure (v_bo rfl) (c_grd (by first | rfl | (unfold mk; repeat (first | rfl | split))) (c_pure (v_sh rfl) (c_ix (fun x => (isv x)) (fun _ => rfl) (fun v3 => (c_grd (by first | rfl | (unfold mk; repeat (first | rfl | split))) (c_two (c_pure (v_bo rfl) (c_grd (by first | rfl | (unfold mk; repeat (first | rfl | split))) (c_pure (v_sh rfl) (c_ix (fun x => (isv x)) (fun _ => rfl) (fun v4 => (c_ok (a := (isb (decide (v3 ≠ v4)))) (k_ne (x := v3) (y := v4) eqt_I) (c_ok (a := (decide (v3 ≠ v4))) (fun _ => rfl) (c_valB (v := fun b => b) (a := (decide (v3 ≠ v4))) (by exact ⟨rfl, ⟨rfl, ⟨rfl, trivial⟩⟩⟩)))))))))))))))))))))))))))))))))))) (fun t1 => (s_selA (p := (t1 = true)) (bt _) (s_ret (c_pure v_c (r_ret (rt_l_is_list (x := false) (o := ()) rfl rfl rfl)))) (s_nil (s_end (G := (fun (a : Unit) => [.vl (Sv.mk .bor ((eL eI) actual1)), .vl (Sv.mk .bor ((eL eI) due1)), .jk])) (by exact ⟨rfl, ⟨rfl, ⟨trivial, trivial⟩⟩⟩))))))))) (fun s2 => (s_ret (c_pure v_c (r_ret (rt_l_is_list (x := true) (o := ()) rfl rfl rfl))))))))))))))))) (⟨_, _, rfl, rfl, ⟨_, _, rfl, rfl, ⟨_, _, rfl, rfl, rfl⟩⟩⟩) fall_no
abbrev su_Cast_heights : Sur Empty Unit (List Int) := surF [.bor] true (fun _ => []) (eL eI)
theorem rt_Cast_heights {Γ : List Sl} {x : (List Int)} {o : Unit} {s : Sv} (h1 : s.d = (eL eI) x) (h2 : resOk true s = true) (h : outsG [.bor] 0 Γ = some ((fun _ => []) o)) : ∀ ρ, EnvR Γ ρ → su_Cast_heights.rt x o s ρ := rtf h1 h2 h
theorem tr_Cast_heights (self1 : C_Cast) : FOk (fun _ => []) (eL eI) (t_Cast_heights self1) (fn_Cast_heights [e_Cast self1]) := by
  unfold t_Cast_heights
  exact fok_run (pm := [.bor]) (rm := true) (eo := (fun _ => [])) (er := (eL eI)) (ν := Empty) (Γ := [.vl (Sv.mk .bor (e_Cast self1))]) (P := PF) (s_ret (c_pure (v_one (u := (Sv.mk .own ((eL eI) self1))) (v_one (u := (Sv.mk .bor ((eT eI) self1))) (v_bo rfl) fl_0) (k_listT (lft_sc (fun _ => rfl)))) (r_ret (rt_Cast_heights (x := self1) (o := ()) rfl rfl rfl)))) (⟨_, _, rfl, rfl, rfl⟩) fall_no
abbrev su_Cast_used : Sur Empty Unit (List Int) := surF [.bor] true (fun _ => []) (eL eI)
theorem rt_Cast_used {Γ : List Sl} {x : (List Int)} {o : Unit} {s : Sv} (h1 : s.d = (eL eI) x) (h2 : resOk true s = true) (h : outsG [.bor] 0 Γ = some ((fun _ => []) o)) : ∀ ρ, EnvR Γ ρ → su_Cast_used.rt x o s ρ := rtf h1 h2 h
theorem tr_Cast_used (self1 : C_Cast) : FOk (fun _ => []) (eL eI) (t_Cast_used self1) (fn_Cast_used [e_Cast self1]) := by
  unfold t_Cast_used
  exact fok_run (pm := [.bor]) (rm := true) (eo := (fun _ => [])) (er := (eL eI)) (ν := Empty) (Γ := [.vl (Sv.mk .bor (e_Cast self1)), .no]) (P := PF) (s_ret (c_lc (c_r1 (c_pure (v_one (u := (isv (self1.length : Int))) (v_one (u := (Sv.mk .bor ((eT eI) self1))) (v_bo rfl) fl_0) k_lenT) (c_int (c_rng (fun r1 => (c_comp (te := fun place1 => (ixO self1 place1).bind fun v1 =>
  if (v1 ≠ (0 : Int)) then .next (some place1) else .next none) rfl eI rfl (t_nmC (n := 1) (v := fun x => (isv x)) rfl (fun _ => rfl)) (fun _ => rfl) (fun place1 => (e_go (c_tst (c_two (c_two (c_pure (v_one (u := (Sv.mk .bor ((eT eI) self1))) (v_bo rfl) fl_0) (c_grd (by first | rfl | (unfold mk; repeat (first | rfl | split))) (c_pure (v_sh rfl) (c_ixT (fun x => (isv x)) (fun _ => rfl) (fun v1 => (c_grd (by first | rfl | (unfold mk; repeat (first | rfl | split))) (c_pure v_c (c_ok (a := (isb (decide (v1 ≠ (0 : Int))))) (k_ne (x := v1) (y := (0 : Int)) eqt_I) (c_ok (a := (decide (v1 ≠ (0 : Int)))) (fun _ => rfl) (c_sel (p := (v1 ≠ (0 : Int))) rfl (c_pure (v_sh rfl) (e_some (by exact (by exact ⟨rfl, ⟨rfl, trivial⟩⟩)))) (e_none (by exact (by exact ⟨rfl, ⟨rfl, trivial⟩⟩)))))))))))))))))) (fun l1 => (r_ret (rt_Cast_used (x := l1) (o := ()) rfl rfl rfl))))))))))) (⟨_, _, rfl, rfl, ⟨_, _, rfl, rfl, rfl⟩⟩) fall_no
abbrev su_Cast_places : Sur Empty Unit Int := surF [.bor] true (fun _ => []) eI
theorem rt_Cast_places {Γ : List Sl} {x : Int} {o : Unit} {s : Sv} (h1 : s.d = eI x) (h2 : resOk true s = true) (h : outsG [.bor] 0 Γ = some ((fun _ => []) o)) : ∀ ρ, EnvR Γ ρ → su_Cast_places.rt x o s ρ := rtf h1 h2 h
theorem tr_Cast_places (self1 : C_Cast) : FOk (fun _ => []) eI (t_Cast_places self1) (fn_Cast_places [e_Cast self1]) := by
  unfold t_Cast_places
  exact fok_run (pm := [.bor]) (rm := true) (eo := (fun _ => [])) (er := eI) (ν := Empty) (Γ := [.vl (Sv.mk .bor (e_Cast self1))]) (P := PF) (s_ret (c_pure (v_one (u := (isv (self1.length : Int))) (v_one (u := (Sv.mk .bor ((eT eI) self1))) (v_bo rfl) fl_0) k_lenT) (r_ret (rt_Cast_places (x := (self1.length : Int)) (o := ()) rfl rfl rfl)))) (⟨_, _, rfl, rfl, rfl⟩) fall_no
abbrev su_Cast_balls : Sur Empty Unit Int := surF [.bor] true (fun _ => []) eI
theorem rt_Cast_balls {Γ : List Sl} {x : Int} {o : Unit} {s : Sv} (h1 : s.d = eI x) (h2 : resOk true s = true) (h : outsG [.bor] 0 Γ = some ((fun _ => []) o)) : ∀ ρ, EnvR Γ ρ → su_Cast_balls.rt x o s ρ := rtf h1 h2 h
theorem tr_Cast_balls (self1 : C_Cast) : FOk (fun _ => []) eI (t_Cast_balls self1) (fn_Cast_balls [e_Cast self1]) := by
  unfold t_Cast_balls
  exact fok_run (pm := [.bor]) (rm := true) (eo := (fun _ => [])) (er := eI) (ν := Empty) (Γ := [.vl (Sv.mk .bor (e_Cast self1))]) (P := PF) (s_ret (c_two (c_pure (v_one (u := (isv self1.sum)) (v_one (u := (Sv.mk .bor ((eT eI) self1))) (v_bo rfl) fl_0) k_sumT) (c_grd (by first | rfl | (unfold mk; repeat (first | rfl | split))) (c_pure (v_one (u := (isv (self1.length : Int))) (v_one (u := (Sv.mk .bor ((eT eI) self1))) (v_bo rfl) fl_0) k_lenT) (c_div (fun v1 => (r_ret (rt_Cast_balls (x := v1) (o := ()) rfl rfl rfl))))))))) (⟨_, _, rfl, rfl, rfl⟩) fall_no
abbrev su_l_faces : Sur Empty Unit Bool := surF [.bor, .bor] true (fun _ => []) eB
theorem x_l_faces {Γ : List Sl} {o : Unit} (h : outsG [.bor, .bor] 0 Γ = some ((fun _ => []) o)) : ∀ ρ, EnvR Γ ρ → su_l_faces.ex o ρ := xf h
theorem rt_l_faces {Γ : List Sl} {x : Bool} {o : Unit} {s : Sv} (h1 : s.d = eB x) (h2 : resOk true s = true) (h : outsG [.bor, .bor] 0 Γ = some ((fun _ => []) o)) : ∀ ρ, EnvR Γ ρ → su_l_faces.rt x o s ρ := rtf h1 h2 h
theorem tr_l_faces (cast1 : C_Cast) (heights1 : (List Int)) : FOk (fun _ => []) eB (t_l_faces cast1 heights1) (fn_l_faces [e_Cast cast1, (eL eI) heights1]) := by
  unfold t_l_faces
  exact fok_run (pm := [.bor, .bor]) (rm := true) (eo := (fun _ => [])) (er := eB) (ν := Empty) (Γ := [.vl (Sv.mk .bor (e_Cast cast1)), .vl (Sv.mk .bor ((eL eI) heights1)), .no, .no, .no, .no, .no]) (P := PF) (s_asg (c_pure (v_frz (v_one (u := (isv (heights1.length : Int))) (v_bo rfl) k_len) (fun _ => rfl)) (s_st rfl rfl (s_asg (c_frz (c_lc (c_r1 (c_pure (v_sh rfl) (c_int (c_rng (fun r1 => (c_comp (te := fun place1 => (ixO heights1 place1).bind fun v10 =>
  if (v10 ≠ (0 : Int)) then .next (some place1) else .next none) rfl eI rfl (t_nmC (n := 4) (v := fun x => (isv x)) rfl (fun _ => rfl)) (fun _ => rfl) (fun place1 => (e_go (c_tst (c_two (c_two (c_pure (v_bo rfl) (c_grd (by first | rfl | (unfold mk; repeat (first | rfl | split))) (c_pure (v_sh rfl) (c_ix (fun x => (isv x)) (fun _ => rfl) (fun v10 => (c_grd (by first | rfl | (unfold mk; repeat (first | rfl | split))) (c_pure v_c (c_ok (a := (isb (decide (v10 ≠ (0 : Int))))) (k_ne (x := v10) (y := (0 : Int)) eqt_I) (c_ok (a := (decide (v10 ≠ (0 : Int)))) (fun _ => rfl) (c_sel (p := (v10 ≠ (0 : Int))) rfl (c_pure (v_sh rfl) (e_some (by exact (by exact ⟨rfl, ⟨rfl, ⟨rfl, ⟨trivial, ⟨rfl, ⟨trivial, ⟨trivial, trivial⟩⟩⟩⟩⟩⟩⟩)))) (e_none (by exact (by exact ⟨rfl, ⟨rfl, ⟨rfl, ⟨trivial, ⟨rfl, ⟨trivial, ⟨trivial, trivial⟩⟩⟩⟩⟩⟩⟩)))))))))))))))))) (fun l1 => (c_ok (a := (Sv.mk .shr ((eL eI) l1))) (fun _ => rfl) (s_st rfl rfl (s_asg (c_frz (c_lc (c_src (c_pure (v_bo rfl) (c_ok (a := (true, (cast1).map fun x => (isv x))) (k_itOT (e := eI) (xs := cast1) rfl rfl) (c_lmP (f := fun height1 => height1) rfl eI rfl (t_nmC (n := 6) (v := fun x => (isv x)) rfl (fun _ => rfl)) (fun _ => rfl) (fun height1 => (v_sh rfl)) (fun l2 => (c_ok (a := (Sv.mk .shr ((eL eI) l2))) (fun _ => rfl) (s_st rfl rfl (s_if (c_joinB (v := fun b => b) (G := fun _ => [.vl (Sv.mk .bor (e_Cast cast1)), .vl (Sv.mk .bor ((eL eI) heights1)), .vl (isv (heights1.length : Int)), .vl (Sv.mk .shr ((eL eI) l1)), .no, .vl (Sv.mk .shr ((eL eI) l2)), .no]) (c_or (c_not (c_tru (c_call (c_pure (v_aS rfl (v_aS rfl v_aN)) (c_kcall (tr_l_is_list l2 heights1) rfl rfl rfl (x_l_faces (o := ()) rfl) (fun x => (isb x)) (fun _ => rfl) (fun v1 => (c_ktru (b := v1) rfl (c_sel (p := (¬ (v1 = true))) (not_dec (bt _)) (c_valB (v := fun b => b) (a := true) (by exact ⟨rfl, ⟨rfl, ⟨rfl, ⟨rfl, ⟨trivial, ⟨rfl, ⟨trivial, trivial⟩⟩⟩⟩⟩⟩⟩)) (c_not (c_tru (c_call (c_aEx (c_prop (c_pure (v_rSl rfl) (c_cls rfl rfl rfl rfl (c_kprop (tr_Cast_heights cast1) rfl (fun x => (Sv.mk .own ((eL eI) x))) (fun _ => rfl) (fun v2 => (c_grd (by first | rfl | (unfold mk; repeat (first | rfl | split))) (c_aSl rfl (c_pure v_aN (c_kcall (tr_l_is_list v2 heights1) rfl rfl rfl (x_l_faces (o := ()) rfl) (fun x => (isb x)) (fun _ => rfl) (fun v3 => (c_ktru (b := v3) rfl (c_valB (v := fun b => b) (a := (!v3)) (by exact ⟨rfl, ⟨rfl, ⟨rfl, ⟨rfl, ⟨trivial, ⟨rfl, ⟨trivial, trivial⟩⟩⟩⟩⟩⟩⟩)))))))))))))))))))))))))) (fun t1 => (s_selA (p := (t1 = true)) (bt _) (s_ret (c_pure v_c (r_ret (rt_l_faces (x := false) (o := ()) rfl rfl rfl)))) (s_nil (s_if (c_joinB (v := fun b => b) (G := fun _ => [.vl (Sv.mk .bor (e_Cast cast1)), .vl (Sv.mk .bor ((eL eI) heights1)), .vl (isv (heights1.length : Int)), .vl (Sv.mk .shr ((eL eI) l1)), .no, .vl (Sv.mk .shr ((eL eI) l2)), .no]) (c_or (c_not (c_tru (c_call (c_aEx (c_prop (c_pure (v_rSl rfl) (c_cls rfl rfl rfl rfl (c_kprop (tr_Cast_used cast1) rfl (fun x => (Sv.mk .own ((eL eI) x))) (fun _ => rfl) (fun v4 => (c_grd (by first | rfl | (unfold mk; repeat (first | rfl | split))) (c_aSl rfl (c_pure v_aN (c_kcall (tr_l_is_list v4 l1) rfl rfl rfl (x_l_faces (o := ()) rfl) (fun x => (isb x)) (fun _ => rfl) (fun v5 => (c_ktru (b := v5) rfl (c_sel (p := (¬ (v5 = true))) (not_dec (bt _)) (c_valB (v := fun b => b) (a := true) (by exact ⟨rfl, ⟨rfl, ⟨rfl, ⟨rfl, ⟨trivial, ⟨rfl, ⟨trivial, trivial⟩⟩⟩⟩⟩⟩⟩)) (c_pure (v_tst (v_two (u := (isb (decide ((cast1.length : Int) ≠ (heights1.length : Int))))) (v_one (u := (isv (cast1.length : Int))) (v_bo rfl) (k_lenOT rfl rfl)) (v_sh rfl) rfl (k_ne (x := (cast1.length : Int)) (y := (heights1.length : Int)) eqt_I))) (c_valB (v := fun b => b) (a := (decide ((cast1.length : Int) ≠ (heights1.length : Int)))) (by exact ⟨rfl, ⟨rfl, ⟨rfl, ⟨rfl, ⟨trivial, ⟨rfl, ⟨trivial, trivial⟩⟩⟩⟩⟩⟩⟩)))))))))))))))))))) (fun t2 => (s_selA (p := (t2 = true)) (bt _) (s_ret (c_pure v_c (r_ret (rt_l_faces (x := false) (o := ()) rfl rfl rfl)))) (s_nil (s_ret (c_call (c_aEx (c_lst (c_aEx (c_prop (c_pure (v_rSl rfl) (c_cls rfl rfl rfl rfl (c_kprop (tr_Cast_places cast1) rfl (fun x => (isv x)) (fun _ => rfl) (fun v6 => (c_grd (by first | rfl | (unfold mk; repeat (first | rfl | split))) (c_aEx (c_prop (c_pure (v_rSl rfl) (c_cls rfl rfl rfl rfl (c_kprop (tr_Cast_balls cast1) rfl (fun x => (isv x)) (fun _ => rfl) (fun v7 => (c_grd (by first | rfl | (unfold mk; repeat (first | rfl | split))) (c_pure v_aN (c_ok (a := (Sv.mk .own ((eL eI) [v6, v7]))) (fun _ => rfl) (c_grd (by first | rfl | (unfold mk; repeat (first | rfl | split))) (c_aEx (c_lst (c_aEx (c_pure (v_sh rfl) (c_grd (by first | rfl | (unfold mk; repeat (first | rfl | split))) (c_aEx (c_frz (c_two (c_pure (v_one (u := (isv heights1.sum)) (v_bo rfl) k_sum) (c_grd (by first | rfl | (unfold mk; repeat (first | rfl | split))) (c_pure (v_sh rfl) (c_div (fun v8 => (c_ok (a := (isv v8)) (fun _ => rfl) (c_grd (by first | rfl | (unfold mk; repeat (first | rfl | split))) (c_pure v_aN (c_ok (a := (Sv.mk .own ((eL eI) [(heights1.length : Int), v8]))) (fun _ => rfl) (c_grd (by first | rfl | (unfold mk; repeat (first | rfl | split))) (c_pure v_aN (c_kcall (tr_l_is_list [v6, v7] [(heights1.length : Int), v8]) rfl rfl rfl (x_l_faces (o := ()) rfl) (fun x => (isb x)) (fun _ => rfl) (fun v9 => (r_ret (rt_l_faces (x := v9) (o := ()) rfl rfl rfl))))))))))))))))))))))))))))))))))))))))))))))))))))))))))))))))))))))))))))))) (⟨_, _, rfl, rfl, ⟨_, _, rfl, rfl, ⟨_, _, rfl, rfl, ⟨_, _, rfl, rfl, ⟨_, _, rfl, rfl, ⟨_, _, rfl, rfl, ⟨_, _, rfl, rfl, rfl⟩⟩⟩⟩⟩⟩⟩) fall_no
abbrev su_Cast___eq__ : Sur Empty Unit Bool := surF [.bor, .bor] true (fun _ => []) eB
theorem rt_Cast___eq__ {Γ : List Sl} {x : Bool} {o : Unit} {s : Sv} (h1 : s.d = eB x) (h2 : resOk true s = true) (h : outsG [.bor, .bor] 0 Γ = some ((fun _ => []) o)) : ∀ ρ, EnvR Γ ρ → su_Cast___eq__.rt x o s ρ := rtf h1 h2 h
theorem tr_Cast___eq__ (self1 : C_Cast) (other1 : C_Cast) : FOk (fun _ => []) eB (t_Cast___eq__ self1 other1) (fn_Cast___eq__ [e_Cast self1, e_Cast other1]) := by
  unfold t_Cast___eq__
  exact fok_run (pm := [.bor, .bor]) (rm := true) (eo := (fun _ => [])) (er := eB) (ν := Empty) (Γ := [.vl (Sv.mk .bor (e_Cast self1)), .vl (Sv.mk .bor (e_Cast other1))]) (P := PF) (s_ret (c_pure (v_andV (v_bpV (v_one (u := (isb true)) (v_bo rfl) (fun _ => rfl))) (v_two (u := (isb (decide (self1 = other1)))) (v_one (u := (Sv.mk .bor ((eT eI) self1))) (v_bo rfl) fl_0) (v_one (u := (Sv.mk .bor ((eT eI) other1))) (v_bo rfl) fl_0) rfl (k_eq (x := self1) (y := other1) (eqt_T eqt_I)))) (r_ret (rt_Cast___eq__ (x := (decide ((true = true) ∧ (self1 = other1)))) (o := ()) rfl rfl rfl)))) (⟨_, _, rfl, rfl, ⟨_, _, rfl, rfl, rfl⟩⟩) fall_no
abbrev su_Cast___eq___i2 : Sur Empty Unit Bool := surF [.bor, .bor] true (fun _ => []) eB
theorem rt_Cast___eq___i2 {Γ : List Sl} {x : Bool} {o : Unit} {s : Sv} (h1 : s.d = eB x) (h2 : resOk true s = true) (h : outsG [.bor, .bor] 0 Γ = some ((fun _ => []) o)) : ∀ ρ, EnvR Γ ρ → su_Cast___eq___i2.rt x o s ρ := rtf h1 h2 h
theorem tr_Cast___eq___i2 (self1 : C_Cast) (other1 : (List Int)) : FOk (fun _ => []) eB (t_Cast___eq___v2 self1 other1) (fn_Cast___eq__ [e_Cast self1, (eL eI) other1]) := by
  unfold t_Cast___eq___v2
  exact fok_run (pm := [.bor, .bor]) (rm := true) (eo := (fun _ => [])) (er := eB) (ν := Empty) (Γ := [.vl (Sv.mk .bor (e_Cast self1)), .vl (Sv.mk .bor ((eL eI) other1))]) (P := PF) (s_ret (c_pure (v_andVF (v_one (u := (isb false)) (v_bo rfl) (fun _ => rfl))) (r_ret (rt_Cast___eq___i2 (x := false) (o := ()) rfl rfl rfl)))) (⟨_, _, rfl, rfl, ⟨_, _, rfl, rfl, rfl⟩⟩) fall_no
abbrev su_l_good : Sur Empty Unit Bool := surF [.bor] true (fun _ => []) eB
theorem x_l_good {Γ : List Sl} {o : Unit} (h : outsG [.bor] 0 Γ = some ((fun _ => []) o)) : ∀ ρ, EnvR Γ ρ → su_l_good.ex o ρ := xf h
theorem rt_l_good {Γ : List Sl} {x : Bool} {o : Unit} {s : Sv} (h1 : s.d = eB x) (h2 : resOk true s = true) (h : outsG [.bor] 0 Γ = some ((fun _ => []) o)) : ∀ ρ, EnvR Γ ρ → su_l_good.rt x o s ρ := rtf h1 h2 h
theorem tr_l_good (heights1 : (List Int)) : FOk (fun _ => []) eB (t_l_good_v3 heights1) (fn_l_good [(eL eI) heights1]) := by
  unfold t_l_good_v3
  exact fok_run (pm := [.bor]) (rm := true) (eo := (fun _ => [])) (er := eB) (ν := Empty) (Γ := [.vl (Sv.mk .bor ((eL eI) heights1)), .no, .no, .no, .no, .no, .no, .no, .no]) (P := PF) (s_asg (c_frz (c_two (c_pure (v_lst (u := (Sv.mk .own ((eL eI) [(1 : Int)]))) (v_aE v_c rfl v_aN) (fun _ => rfl)) (c_grd (by first | rfl | (unfold mk; repeat (first | rfl | split))) (c_pure (v_one (u := (isv (heights1.length : Int))) (v_bo rfl) k_len) (c_rep1 rfl (fun v1 => (c_ok (a := (Sv.mk .shr ((eL eI) v1))) (fun _ => rfl) (s_st rfl rfl (s_asg (c_pure (v_one (u := (Sv.mk .own ((eL eI) heights1))) (v_bo rfl) (k_listL (lft_sc (fun _ => rfl)))) (s_st rfl rfl (s_asg (c_frz (c_make (c_pure (v_aS rfl v_aN) (c_kmake (tr_Cast___init__ heights1) rfl rfl (x_l_good (o := ()) rfl) (fun v2 => (c_ok (a := (Sv.mk .shr (e_Cast v2))) (fun _ => rfl) (s_st rfl rfl (s_asg (c_frz (c_make (c_pure (v_aE (v_one (u := (Sv.mk .own ((eL eI) v1))) (v_sh rfl) (k_listL rfl)) rfl v_aN) (c_kmake (tr_Cast___init__ v1) rfl rfl (x_l_good (o := ()) rfl) (fun v3 => (c_ok (a := (Sv.mk .shr (e_Cast v3))) (fun _ => rfl) (s_st rfl rfl (s_set (c_frz (c_two (c_two (c_pure (v_ow rfl) (c_grd (by first | rfl | (unfold mk; repeat (first | rfl | split))) (c_pure v_c (c_ix (fun x => (isv x)) (fun _ => rfl) (fun v4 => (c_grd (by first | rfl | (unfold mk; repeat (first | rfl | split))) (c_pure v_c (c_ok (a := (isv (v4 + (1 : Int)))) (fun _ => rfl) (c_ok (a := (isv (v4 + (1 : Int)))) (fun _ => rfl) (c_grdL rfl rfl (c_pure v_c (c_set (e := eI) (x := (v4 + (1 : Int))) rfl rfl (fun given1 => (s_expr (c_app rfl (c_pure v_c (c_grd rfl (c_push (e := eI) (x := (3 : Int)) rfl rfl (fun given2 => (s_if (c_joinB (v := fun b => b) (G := fun _ => [.vl (Sv.mk .bor ((eL eI) heights1)), .vl (Sv.mk .shr ((eL eI) v1)), .vl (Sv.mk .own ((eL eI) given2)), .vl (Sv.mk .shr (e_Cast v2)), .vl (Sv.mk .shr (e_Cast v3)), .no, .no, .no, .no]) (c_or (c_not (c_tru (c_call (c_pure (v_aS rfl (v_aS rfl v_aN)) (c_kcall (tr_l_faces v2 heights1) rfl rfl rfl (x_l_good (o := ()) rfl) (fun x => (isb x)) (fun _ => rfl) (fun v5 => (c_ktru (b := v5) rfl (c_sel (p := (¬ (v5 = true))) (not_dec (bt _)) (c_valB (v := fun b => b) (a := true) (by exact ⟨rfl, ⟨rfl, ⟨rfl, ⟨rfl, ⟨rfl, ⟨trivial, ⟨trivial, ⟨trivial, ⟨trivial, trivial⟩⟩⟩⟩⟩⟩⟩⟩⟩)) (c_not (c_tru (c_call (c_pure (v_aS rfl (v_aS rfl v_aN)) (c_kcall (tr_l_faces v3 v1) rfl rfl rfl (x_l_good (o := ()) rfl) (fun x => (isb x)) (fun _ => rfl) (fun v6 => (c_ktru (b := v6) rfl (c_valB (v := fun b => b) (a := (!v6)) (by exact ⟨rfl, ⟨rfl, ⟨rfl, ⟨rfl, ⟨rfl, ⟨trivial, ⟨trivial, ⟨trivial, ⟨trivial, trivial⟩⟩⟩⟩⟩⟩⟩⟩⟩)))))))))))))))))) (fun t1 => (s_selA (p := (t1 = true)) (bt _) (s_ret (c_pure v_c (r_ret (rt_l_good (x := false) (o := ()) rfl rfl rfl)))) (s_nil (s_asg (c_prop (c_pure (v_rSl rfl) (c_cls rfl rfl rfl rfl (c_kprop (tr_Cast_heights v2) rfl (fun x => (Sv.mk .own ((eL eI) x))) (fun _ => rfl) (fun v7 => (s_st rfl rfl (s_set (c_frz (c_two (c_two (c_pure (v_ow rfl) (c_grd (by first | rfl | (unfold mk; repeat (first | rfl | split))) (c_pure v_c (c_ix (fun x => (isv x)) (fun _ => rfl) (fun v8 => (c_grd (by first | rfl | (unfold mk; repeat (first | rfl | split))) (c_pure v_c (c_ok (a := (isv (v8 + (1 : Int)))) (fun _ => rfl) (c_ok (a := (isv (v8 + (1 : Int)))) (fun _ => rfl) (c_grdL rfl rfl (c_pure v_c (c_set (e := eI) (x := (v8 + (1 : Int))) rfl rfl (fun first1 => (s_expr (c_app rfl (c_pure v_c (c_grd rfl (c_push (e := eI) (x := (3 : Int)) rfl rfl (fun first2 => (s_asg (c_prop (c_pure (v_rSl rfl) (c_cls rfl rfl rfl rfl (c_kprop (tr_Cast_used v2) rfl (fun x => (Sv.mk .own ((eL eI) x))) (fun _ => rfl) (fun v9 => (s_st rfl rfl (s_expr (c_app rfl (c_pure (v_frz (v_one (u := (isv (heights1.length : Int))) (v_bo rfl) k_len) (fun _ => rfl)) (c_grd rfl (c_push (e := eI) (x := (heights1.length : Int)) rfl rfl (fun second1 => (s_asg (c_prop (c_pure (v_rSl rfl) (c_cls rfl rfl rfl rfl (c_kprop (tr_Cast_heights v3) rfl (fun x => (Sv.mk .own ((eL eI) x))) (fun _ => rfl) (fun v10 => (s_st rfl rfl (s_expr (c_onL (d := .non) (es := []) rfl rfl rfl (s_if (c_joinB (v := fun b => b) (G := fun _ => [.vl (Sv.mk .bor ((eL eI) heights1)), .vl (Sv.mk .shr ((eL eI) v1)), .vl (Sv.mk .own ((eL eI) given2)), .vl (Sv.mk .shr (e_Cast v2)), .vl (Sv.mk .shr (e_Cast v3)), .vl (Sv.mk .own ((eL eI) first2)), .vl (Sv.mk .own ((eL eI) second1)), .vl (Sv.mk .own ((eL eI) ([] : List Int))), .no]) (c_or (c_not (c_tru (c_call (c_pure (v_aS rfl (v_aS rfl v_aN)) (c_kcall (tr_l_faces v2 heights1) rfl rfl rfl (x_l_good (o := ()) rfl) (fun x => (isb x)) (fun _ => rfl) (fun v11 => (c_ktru (b := v11) rfl (c_sel (p := (¬ (v11 = true))) (not_dec (bt _)) (c_valB (v := fun b => b) (a := true) (by exact ⟨rfl, ⟨rfl, ⟨rfl, ⟨rfl, ⟨rfl, ⟨rfl, ⟨rfl, ⟨rfl, ⟨trivial, trivial⟩⟩⟩⟩⟩⟩⟩⟩⟩)) (c_not (c_tru (c_call (c_pure (v_aS rfl (v_aS rfl v_aN)) (c_kcall (tr_l_faces v3 v1) rfl rfl rfl (x_l_good (o := ()) rfl) (fun x => (isb x)) (fun _ => rfl) (fun v12 => (c_ktru (b := v12) rfl (c_valB (v := fun b => b) (a := (!v12)) (by exact ⟨rfl, ⟨rfl, ⟨rfl, ⟨rfl, ⟨rfl, ⟨rfl, ⟨rfl, ⟨rfl, ⟨trivial, trivial⟩⟩⟩⟩⟩⟩⟩⟩⟩)))))))))))))))))) (fun t2 => (s_selA (p := (t2 = true)) (bt _) (s_ret (c_pure v_c (r_ret (rt_l_good (x := false) (o := ()) rfl rfl rfl)))) (s_nil (s_asg (c_op2 (c_pure (v_rSl rfl) (c_grd (by first | rfl | (unfold mk; repeat (first | rfl | split))) (c_pure (v_rSl rfl) (c_cls rfl rfl rfl rfl (c_cls rfl rfl rfl rfl (c_kcall (tr_Cast___eq__ v2 v3) rfl rfl rfl (x_l_good (o := ()) rfl) (fun x => (isb x)) (fun _ => rfl) (fun v13 => (s_st rfl rfl (s_if (c_pure (v_or (v_not (v_bp (v_tru (v_one (u := (isb true)) (v_sh rfl) (fun _ => rfl)) rfl))) (v_tst (v_two (u := (isb (decide (v13 ≠ (decide (heights1 = v1)))))) (v_sh rfl) (v_two (u := (isb (decide (heights1 = v1)))) (v_bo rfl) (v_sh rfl) rfl (k_eq (x := heights1) (y := v1) (eqt_L eqt_I))) rfl (k_ne (x := v13) (y := (decide (heights1 = v1))) eqt_B)))) (s_selA (p := ((¬ (true = true)) ∨ (v13 ≠ (decide (heights1 = v1))))) rfl (s_ret (c_pure v_c (r_ret (rt_l_good (x := false) (o := ()) rfl rfl rfl)))) (s_nil (s_ret (c_join (v := fun (x : Bool) => (isb x)) (G := fun _ => [.vl (Sv.mk .bor ((eL eI) heights1)), .vl (Sv.mk .shr ((eL eI) v1)), .vl (Sv.mk .own ((eL eI) given2)), .vl (Sv.mk .shr (e_Cast v2)), .vl (Sv.mk .shr (e_Cast v3)), .vl (Sv.mk .own ((eL eI) first2)), .vl (Sv.mk .own ((eL eI) second1)), .vl (Sv.mk .own ((eL eI) ([] : List Int))), .vl (isb v13)]) (c_andV (c_two (c_op2 (c_pure (v_rSl rfl) (c_grd (by first | rfl | (unfold mk; repeat (first | rfl | split))) (c_rEx (c_make (c_pure (v_aE (v_one (u := (Sv.mk .own ((eL eI) heights1))) (v_bo rfl) (k_listL (lft_sc (fun _ => rfl)))) rfl v_aN) (c_kmake (tr_Cast___init__ heights1) rfl rfl (x_l_good (o := ()) rfl) (fun v14 => (c_grd (by first | rfl | (unfold mk; repeat (first | rfl | split))) (c_cls rfl rfl rfl rfl (c_cls rfl rfl rfl rfl (c_kcall (tr_Cast___eq__ v2 v14) rfl rfl rfl (x_l_good (o := ()) rfl) (fun x => (isb x)) (fun _ => rfl) (fun v15 => (c_grd (by first | rfl | (unfold mk; repeat (first | rfl | split))) (c_pure v_c (c_ok (a := (isb (decide (v15 = true)))) (fun _ => rfl) (c_ok (fun _ => rfl) (c_sel (p := (v15 = true)) rfl (c_two (c_op2L (c_pure (v_rSl rfl) (c_grd (by first | rfl | (unfold mk; repeat (first | rfl | split))) (c_rEx (c_pure (v_one (u := (Sv.mk .own ((eL eI) heights1))) (v_bo rfl) (k_listL (lft_sc (fun _ => rfl)))) (c_grd (by first | rfl | (unfold mk; repeat (first | rfl | split))) (c_cls rfl rfl rfl rfl (c_lst2 rfl rfl (c_kcall (tr_Cast___eq___i2 v2 heights1) rfl rfl rfl (x_l_good (o := ()) rfl) (fun x => (isb x)) (fun _ => rfl) (fun v16 => (c_grd (by first | rfl | (unfold mk; repeat (first | rfl | split))) (c_pure v_c (c_ok (a := (isb (decide (v16 = false)))) (fun _ => rfl) (c_val (v := fun (x : Bool) => (isb x)) (a := (decide (v16 = false))) (by exact ⟨rfl, ⟨rfl, ⟨rfl, ⟨rfl, ⟨rfl, ⟨rfl, ⟨rfl, ⟨rfl, ⟨rfl, trivial⟩⟩⟩⟩⟩⟩⟩⟩⟩)))))))))))))))) (c_val (v := fun (x : Bool) => (isb x)) (a := false) (by exact ⟨rfl, ⟨rfl, ⟨rfl, ⟨rfl, ⟨rfl, ⟨rfl, ⟨rfl, ⟨rfl, ⟨rfl, trivial⟩⟩⟩⟩⟩⟩⟩⟩⟩)))))))))))))))))))))) (fun j1 => (r_ret (rt_l_good (x := j1) (o := ()) rfl rfl rfl))))))))))))))))))))))))))))))))))))))))))))))))))))))))))))))))))))))))))))))))))))))))))))))))))))))))))))))))))))))))))))))))))))) (⟨_, _, rfl, rfl, ⟨_, _, rfl, rfl, ⟨_, _, rfl, rfl, ⟨_, _, rfl, rfl, ⟨_, _, rfl, rfl, ⟨_, _, rfl, rfl, ⟨_, _, rfl, rfl, ⟨_, _, rfl, rfl, ⟨_, _, rfl, rfl, rfl⟩⟩⟩⟩⟩⟩⟩⟩⟩) fall_no
abbrev su_l_base : Sur Empty Unit Bool := surF [.bor] true (fun _ => []) eB
theorem x_l_base {Γ : List Sl} {o : Unit} (h : outsG [.bor] 0 Γ = some ((fun _ => []) o)) : ∀ ρ, EnvR Γ ρ → su_l_base.ex o ρ := xf h
theorem rt_l_base {Γ : List Sl} {x : Bool} {o : Unit} {s : Sv} (h1 : s.d = eB x) (h2 : resOk true s = true) (h : outsG [.bor] 0 Γ = some ((fun _ => []) o)) : ∀ ρ, EnvR Γ ρ → su_l_base.rt x o s ρ := rtf h1 h2 h
theorem tr_l_base (heights1 : (List Int)) : FOk (fun _ => []) eB (t_l_base_v9 heights1) (fn_l_base [(eL eI) heights1]) := by
  unfold t_l_base_v9
  exact fok_run (pm := [.bor]) (rm := true) (eo := (fun _ => [])) (er := eB) (ν := Empty) (Γ := [.vl (Sv.mk .bor ((eL eI) heights1)), .no]) (P := PF) (s_then (G := (fun (a : Unit) => [.vl (Sv.mk .bor ((eL eI) heights1)), .jk])) (s_try (g := (fun o => ())) (Gx := (fun (a : Unit) => [.vl (Sv.mk .bor ((eL eI) heights1)), .no])) pn_ne (s_last (s_expr (c_make (c_pure (v_aS rfl v_aN) (c_kmake (tr_Cast___init__ heights1) rfl rfl (xtry (by exact ⟨rfl, ⟨trivial, trivial⟩⟩)) (fun v1 => (s_end (G := (fun (a : Unit) => [.vl (Sv.mk .bor ((eL eI) heights1)), .jk])) (by exact ⟨rfl, ⟨trivial, trivial⟩⟩)))))))) (fun c1 fs1 o1 => (h_as rfl pn_ne (hn_N (fun _ => (.inl rfl))) hl_0 (RS.ofF (s_ret (c_pure (v_isx) (r_ret (rt_l_base (x := (List.contains (["BadSize", "BadHeight", "Collision", "TooManyBalls"] : List Str) c1)) (o := ()) rfl rfl rfl))))) (h_end (x_l_base (o := ()) rfl))))) (fun q1 => (s_ret (c_pure v_c (r_ret (rt_l_base (x := false) (o := ()) rfl rfl rfl)))))) (⟨_, _, rfl, rfl, ⟨_, _, rfl, rfl, rfl⟩⟩) fall_no
abbrev su_law : Sur Empty Unit Bool := surF [.bor] true (fun _ => []) eB
theorem x_law {Γ : List Sl} {o : Unit} (h : outsG [.bor] 0 Γ = some ((fun _ => []) o)) : ∀ ρ, EnvR Γ ρ → su_law.ex o ρ := xf h
theorem rt_law {Γ : List Sl} {x : Bool} {o : Unit} {s : Sv} (h1 : s.d = eB x) (h2 : resOk true s = true) (h : outsG [.bor] 0 Γ = some ((fun _ => []) o)) : ∀ ρ, EnvR Γ ρ → su_law.rt x o s ρ := rtf h1 h2 h
theorem tr_law (script1 : (List Int)) : FOk (fun _ => []) eB (t_law_v26 script1) (fn_law [Vl.scr script1]) := by
  unfold t_law_v26
  exact fok_run (pm := [.bor]) (rm := true) (eo := (fun _ => [])) (er := eB) (ν := Empty) (Γ := [.vl (Sv.mk .bor (Vl.scr script1)), .no, .no, .no, .no, .no]) (P := PF) (s_asg (c_call (c_pure (v_aS rfl v_aN) (c_kcall (tr_l_begin script1) rfl rfl rfl (x_law (o := ()) rfl) (fun x => (Sv.mk .own (eDrw x))) (fun _ => rfl) (fun v1 => (s_st rfl rfl (s_asg (c_frz (c_call (c_pure (v_aS rfl v_aN) (c_kcallJ [1] (fun (o : Drw) => [.vl (Sv.mk .bor (Vl.scr script1)), .vl (Sv.mk .own (eDrw o)), .no, .no, .no, .no]) (tr_l_draw_list v1) rfl rfl rfl rfl (fun _ => rfl) (fun o => (x_law (o := ()) rfl)) (fun x => (Sv.mk .own ((eL eI) x))) (fun _ => rfl) (fun v2 => (c_ok (a := (Sv.mk .shr ((eL eI) v2.1))) (fun _ => rfl) (s_st rfl rfl (s_asg (c_frz (c_call (c_pure (v_aS rfl v_aN) (c_kcall (tr_l_reason v2.1) rfl rfl rfl (x_law (o := ()) rfl) (fun x => (Sv.mk .own ((eL eV) x))) (fun _ => rfl) (fun v3 => (c_ok (a := (Sv.mk .shr ((eL eV) v3))) (fun _ => rfl) (s_st rfl rfl (s_asg (c_pure (v_frz (v_one (u := (Sv.mk .own ((eL eI) v2.1))) (v_sh rfl) (k_listL rfl)) (fun _ => rfl)) (s_st rfl rfl (s_asg (c_frz (c_call (c_pure (v_aS rfl v_aN) (c_kcall (tr_l_outcome v2.1) rfl rfl rfl (x_law (o := ()) rfl) (fun x => (Sv.mk .own ((eL eV) x))) (fun _ => rfl) (fun v4 => (c_ok (a := (Sv.mk .shr ((eL eV) v4))) (fun _ => rfl) (s_st rfl rfl (s_if (c_joinB (v := fun b => b) (G := fun _ => [.vl (Sv.mk .bor (Vl.scr script1)), .vl (Sv.mk .own (eDrw v2.2)), .vl (Sv.mk .shr ((eL eI) v2.1)), .vl (Sv.mk .shr ((eL eV) v3)), .vl (Sv.mk .shr ((eL eI) v2.1)), .vl (Sv.mk .shr ((eL eV) v4))]) (c_or (c_tst (c_two (c_pure (v_sh rfl) (c_grd (by first | rfl | (unfold mk; repeat (first | rfl | split))) (c_pure (v_sh rfl) (c_neO (fun b1 => (c_ok (a := b1) (fun _ => rfl) (c_sel (p := (b1 = true)) (bt _) (c_valB (v := fun b => b) (a := true) (by exact ⟨rfl, ⟨rfl, ⟨rfl, ⟨rfl, ⟨rfl, ⟨rfl, trivial⟩⟩⟩⟩⟩⟩)) (c_pure (v_tst (v_two (u := (isb (decide (v2.1 ≠ v2.1)))) (v_sh rfl) (v_sh rfl) rfl (k_ne (x := v2.1) (y := v2.1) (eqt_L eqt_I)))) (c_valB (v := fun b => b) (a := (decide (v2.1 ≠ v2.1))) (by exact ⟨rfl, ⟨rfl, ⟨rfl, ⟨rfl, ⟨rfl, ⟨rfl, trivial⟩⟩⟩⟩⟩⟩))))))))))))) (fun t1 => (s_selA (p := (t1 = true)) (bt _) (s_ret (c_pure v_c (r_ret (rt_law (x := false) (o := ()) rfl rfl rfl)))) (s_nil (s_if (c_joinB (v := fun b => b) (G := fun _ => [.vl (Sv.mk .bor (Vl.scr script1)), .vl (Sv.mk .own (eDrw v2.2)), .vl (Sv.mk .shr ((eL eI) v2.1)), .vl (Sv.mk .shr ((eL eV) v3)), .vl (Sv.mk .shr ((eL eI) v2.1)), .vl (Sv.mk .shr ((eL eV) v4))]) (c_or (c_not (c_tru (c_call (c_pure (v_aE v_c rfl v_aN) (c_kcall (tr_l_whole (6 : Int)) rfl rfl rfl (x_law (o := ()) rfl) (fun x => (isb x)) (fun _ => rfl) (fun v5 => (c_ktru (b := v5) rfl (c_sel (p := (¬ (v5 = true))) (not_dec (bt _)) (c_valB (v := fun b => b) (a := true) (by exact ⟨rfl, ⟨rfl, ⟨rfl, ⟨rfl, ⟨rfl, ⟨rfl, trivial⟩⟩⟩⟩⟩⟩)) (c_not (c_tru (c_call (c_pure (v_aE v_c rfl v_aN) (c_kcall (tr_l_whole (16 : Int)) rfl rfl rfl (x_law (o := ()) rfl) (fun x => (isb x)) (fun _ => rfl) (fun v6 => (c_ktru (b := v6) rfl (c_valB (v := fun b => b) (a := (!v6)) (by exact ⟨rfl, ⟨rfl, ⟨rfl, ⟨rfl, ⟨rfl, ⟨rfl, trivial⟩⟩⟩⟩⟩⟩)))))))))))))))))) (fun t2 => (s_selA (p := (t2 = true)) (bt _) (s_ret (c_pure v_c (r_ret (rt_law (x := false) (o := ()) rfl rfl rfl)))) (s_nil (s_if (c_pure (v_or (v_tst (v_two (u := (isb (decide ((6 : Int) ≠ (6 : Int))))) v_c v_c rfl (k_ne (x := (6 : Int)) (y := (6 : Int)) eqt_I))) (v_tst (v_two (u := (isb (decide ((16 : Int) ≠ (16 : Int))))) v_c v_c rfl (k_ne (x := (16 : Int)) (y := (16 : Int)) eqt_I)))) (s_selA (p := (((6 : Int) ≠ (6 : Int)) ∨ ((16 : Int) ≠ (16 : Int)))) rfl (s_ret (c_pure v_c (r_ret (rt_law (x := false) (o := ()) rfl rfl rfl)))) (s_nil (s_if (c_tst (c_two (c_pure (v_sh rfl) (c_grd (by first | rfl | (unfold mk; repeat (first | rfl | split))) (c_pure (v_lst (u := (Sv.mk .own ((eL eV) ([] : List Vl)))) v_aN (fun _ => rfl)) (c_eqO (fun b2 => (c_ok (a := b2) (fun _ => rfl) (s_selA (p := (b2 = true)) (bt _) (s_ret (c_call (c_pure (v_aS rfl v_aN) (c_kcall (tr_l_good v2.1) rfl rfl rfl (x_law (o := ()) rfl) (fun x => (isb x)) (fun _ => rfl) (fun v7 => (r_ret (rt_law (x := v7) (o := ()) rfl rfl rfl))))))) (s_nil (s_ret (c_join (v := fun (x : Bool) => (isb x)) (G := fun _ => [.vl (Sv.mk .bor (Vl.scr script1)), .vl (Sv.mk .own (eDrw v2.2)), .vl (Sv.mk .shr ((eL eI) v2.1)), .vl (Sv.mk .shr ((eL eV) v3)), .vl (Sv.mk .shr ((eL eI) v2.1)), .vl (Sv.mk .shr ((eL eV) v4))]) (c_andV (c_call (c_pure (v_aE (v_one (u := (Sv.mk .own ((eL eI) v2.1))) (v_sh rfl) (k_listL rfl)) rfl v_aN) (c_kcall (tr_l_base v2.1) rfl rfl rfl (x_law (o := ()) rfl) (fun x => (isb x)) (fun _ => rfl) (fun v8 => (c_ok (fun _ => rfl) (c_sel (p := (v8 = true)) (bt _) (c_call (c_pure (v_aE (v_lst (u := (Sv.mk .own ((eL eI) [(2 : Int), (0 : Int), (1 : Int)]))) (v_aE v_c rfl (v_aE v_c rfl (v_aE v_c rfl v_aN))) (fun _ => rfl)) rfl v_aN) (c_kcall (tr_l_good [(2 : Int), (0 : Int), (1 : Int)]) rfl rfl rfl (x_law (o := ()) rfl) (fun x => (isb x)) (fun _ => rfl) (fun v9 => (c_val (v := fun (x : Bool) => (isb x)) (a := v9) (by exact ⟨rfl, ⟨rfl, ⟨rfl, ⟨rfl, ⟨rfl, ⟨rfl, trivial⟩⟩⟩⟩⟩⟩)))))) (c_val (v := fun (x : Bool) => (isb x)) (a := false) (by exact ⟨rfl, ⟨rfl, ⟨rfl, ⟨rfl, ⟨rfl, ⟨rfl, trivial⟩⟩⟩⟩⟩⟩))))))))) (fun j1 => (r_ret (rt_law (x := j1) (o := ()) rfl rfl rfl))))))))))))))))))))))))))))))))))))))))))))))))))))))))))))))) (⟨_, _, rfl, rfl, ⟨_, _, rfl, rfl, ⟨_, _, rfl, rfl, ⟨_, _, rfl, rfl, ⟨_, _, rfl, rfl, ⟨_, _, rfl, rfl, rfl⟩⟩⟩⟩⟩⟩) fall_no
theorem main_of {ns : List Int} (h : t_law_v26 ns = .ret true ()) : fn_law [.scr ns] = .ret (.bl true) [] := by
  have := (tr_law ns).go
  rw [h] at this
  exact this
end MV
theorem PySem.Challenge.cw_datelessrolls_k00_heights_taken_holds : PySem.Challenge.rw_datelessrolls_k00_heights_taken.Holds := by
  exact law_holds_of fun _ h => MV.main_of (MV.law_ok h)
