import PyProof.Rows.All
import Wide.All
import OpenK.AllK
import Wide.FinOn
import KE.KStateDown
import HandS.ForMost
import HandS.ForExc
import HandS.Defaults
import HandS.Property
import HandS.HeadHook1
import HandS.HeadHook2
import KE.KTupSum
import HandS.ExcCtx
import HandS.Style
import HandS.IsInst
import HandS.Text
import HandS.Iter
import HandS.Zip
import HandS.CallSlots
import HandS.HotCalls
import HandS.TryMany
import HandS.ExcInit
import HandS.ExcField
import HandS.ExcIs
import HandS.Head0
import HandS.Head1
import HandS.Head2
import HandS.HeadEnd
import HandS.ClsMeth
import HandS.SortInts
import HandS.Ends
import HandS.SlotsOwn
import KE.KOpsOwn
import HandS.Conv
import HandS.NoneIn
import HandS.OwnIter
import HandS.IterVal
import PyProof.Rows.StrRev
import KE.GoesMore
import HandS.TupAny
import PyProof.CallStr
import HandS.Star
import PyProof.StrLawsTight
import PyProof.StrLawsChain
import PyProof.Rows.StrItems
import PyProof.StrLawsIn
import PySem.Challenge.RW_datelessrolls_k48_coat_counts
set_option Elab.async false
set_option linter.all false
set_option maxRecDepth 100000
set_option maxHeartbeats 0
namespace MV
open PySem PySem.Spec PyProof.Rows L2
inductive Vl where
  | non | bl (b : Bool) | int (i : Int) | str (s : Str)
  | lst (xs : List Vl) | tup (xs : List Vl)
  | ins (c : Str) (fs : List (Str × Vl))
  | scr (ns : List Int)
  | hole
inductive Md where
  | own | io | tmp | bor | shr
  deriving DecidableEq
structure Sv where
  m : Md
  d : Vl
abbrev En := List (Option Sv)
def isSc : Vl → Bool
  | .non => true
  | .bl _ => true
  | .int _ => true
  | .str _ => true
  | _ => false
def mk (m : Md) (d : Vl) : Sv := if isSc d then ⟨.shr, d⟩ else ⟨m, d⟩
def Md.kid : Md → Md
  | .bor => .bor
  | _ => .shr
mutual
def Rep (K : PySem.W.Frag) (G : Hp) : Vl → V → Prop
  | .non, v => v = .non
  | .bl b, v => v = .bl b
  | .int i, v => v = .int i
  | .str s, v => v = .str s
  | .lst xs, v => ∃ a vs, v = .ref a ∧ G a = some (.lst vs) ∧ RepL K G xs vs
  | .tup xs, v => ∃ a vs, v = .ref a ∧ G a = some (.tup vs) ∧ RepL K G xs vs
  | .ins c fs, v => ∃ a dx ws, v = .ref a ∧ G a = some (.ins (He.ga K c) dx ws) ∧ RepF K G fs ws
  | .scr ns, v => ∃ a, v = .ref a ∧ SqL K G a (ns.map V.int)
  | .hole, v => v ≠ .non
def RepL (K : PySem.W.Frag) (G : Hp) : List Vl → List V → Prop
  | [], vs => vs = []
  | x :: xs, vs => ∃ v r, vs = v :: r ∧ Rep K G x v ∧ RepL K G xs r
def RepF (K : PySem.W.Frag) (G : Hp) : List (Str × Vl) → List (Str × V) → Prop
  | [], ws => ws = []
  | (f, x) :: xs, ws => ∃ v r, ws = (f, v) :: r ∧ Rep K G x v ∧ RepF K G xs r
end
abbrev Sub (G G' : Hp) : Prop := ∀ b o, G b = some o → G' b = some o
mutual
theorem Rep.mono {K : PySem.W.Frag} {G G' : Hp} (s : Sub G G') : ∀ {d : Vl} {v : V}, Rep K G d v → Rep K G' d v
  | .non, _, h => h
  | .bl _, _, h => h
  | .int _, _, h => h
  | .str _, _, h => h
  | .lst xs, v, ⟨a, vs, e, g, r⟩ => ⟨a, vs, e, s _ _ g, RepL.mono s r⟩
  | .tup xs, v, ⟨a, vs, e, g, r⟩ => ⟨a, vs, e, s _ _ g, RepL.mono s r⟩
  | .ins c fs, v, ⟨a, dx, ws, e, g, r⟩ => ⟨a, dx, ws, e, s _ _ g, RepF.mono s r⟩
  | .scr ns, v, ⟨a, e, g⟩ => ⟨a, e, g.elim (fun h => .inl (h.elim (fun h => .inl (s _ _ h)) fun ⟨o, h⟩ => .inr ⟨o, s _ _ h⟩)) .inr⟩
  | .hole, _, h => h
theorem RepL.mono {K : PySem.W.Frag} {G G' : Hp} (s : Sub G G') : ∀ {xs : List Vl} {vs : List V}, RepL K G xs vs → RepL K G' xs vs
  | [], _, h => h
  | x :: xs, _, ⟨v, r, e, h, t⟩ => ⟨v, r, e, Rep.mono s h, RepL.mono s t⟩
theorem RepF.mono {K : PySem.W.Frag} {G G' : Hp} (s : Sub G G') : ∀ {xs : List (Str × Vl)} {vs : List (Str × V)}, RepF K G xs vs → RepF K G' xs vs
  | [], _, h => h
  | (f, x) :: xs, _, ⟨v, r, e, h, t⟩ => ⟨v, r, e, Rep.mono s h, RepF.mono s t⟩
end
section
variable {K : PySem.W.Frag} {G G' : Hp}
theorem Rep.sc {d : Vl} {v : V} (h : Rep K G d v) (s : isSc d = true) : Rep K G' d v := by
  cases d <;> first | exact h | cases s
theorem RepL.len : ∀ {xs : List Vl} {vs : List V}, RepL K G xs vs → vs.length = xs.length
  | [], _, h => by rw [show _ = [] from h]; rfl
  | x :: xs, _, ⟨v, r, e, _, t⟩ => by rw [e, List.length_cons, List.length_cons, RepL.len t]
theorem RepL.get : ∀ {xs : List Vl} {vs : List V} {i : Nat} {x : Vl}, RepL K G xs vs → xs[i]? = some x → ∃ v, vs[i]? = some v ∧ Rep K G x v
  | [], _, _, _, _, e => by simp at e
  | y :: xs, _, 0, x, ⟨v, r, e, h, t⟩, q => by
    simp at q; subst q
    exact ⟨v, by rw [e]; rfl, h⟩
  | y :: xs, _, i + 1, x, ⟨v, r, e, h, t⟩, q => by
    obtain ⟨u, h1, h2⟩ := RepL.get (i := i) t (by simpa using q)
    exact ⟨u, by rw [e]; simpa using h1, h2⟩
theorem RepL.nil : RepL K G [] [] := rfl
theorem RepL.cons {x : Vl} {v : V} {xs : List Vl} {vs : List V} (h : Rep K G x v) (t : RepL K G xs vs) : RepL K G (x :: xs) (v :: vs) := ⟨v, vs, rfl, h, t⟩
theorem RepL.app : ∀ {xs ys : List Vl} {vs ws : List V}, RepL K G xs vs → RepL K G ys ws → RepL K G (xs ++ ys) (vs ++ ws)
  | [], _, _, _, h, k => by rw [show _ = [] from h]; exact k
  | x :: xs, _, _, _, ⟨v, r, e, h, t⟩, k => by rw [e]; exact ⟨v, r ++ _, rfl, h, RepL.app t k⟩
theorem RepL.take : ∀ (n : Nat) {xs : List Vl} {vs : List V}, RepL K G xs vs → RepL K G (xs.take n) (vs.take n)
  | 0, _, _, _ => rfl
  | n + 1, [], _, h => by rw [show _ = [] from h]; rfl
  | n + 1, x :: xs, _, ⟨v, r, e, h, t⟩ => by rw [e]; exact ⟨v, r.take n, rfl, h, RepL.take n t⟩
theorem RepL.drop : ∀ (n : Nat) {xs : List Vl} {vs : List V}, RepL K G xs vs → RepL K G (xs.drop n) (vs.drop n)
  | 0, _, _, h => h
  | n + 1, [], _, h => by rw [show _ = [] from h]; rfl
  | n + 1, x :: xs, _, ⟨v, r, e, h, t⟩ => by rw [e]; exact RepL.drop n t
theorem RepL.set {x : Vl} {v : V} (hx : Rep K G x v) : ∀ (i : Nat) {xs : List Vl} {vs : List V}, RepL K G xs vs → RepL K G (xs.set i x) (vs.set i v)
  | _, [], _, h => by rw [show _ = [] from h]; rfl
  | 0, y :: xs, _, ⟨u, r, e, h, t⟩ => by rw [e]; exact ⟨v, r, rfl, hx, t⟩
  | i + 1, y :: xs, _, ⟨u, r, e, h, t⟩ => by rw [e]; exact ⟨u, r.set i v, rfl, h, RepL.set hx i t⟩
theorem RepL.eraseIdx : ∀ (i : Nat) {xs : List Vl} {vs : List V}, RepL K G xs vs → RepL K G (xs.eraseIdx i) (vs.eraseIdx i)
  | _, [], _, h => by rw [show _ = [] from h]; rfl
  | 0, y :: xs, _, ⟨u, r, e, h, t⟩ => by rw [e]; exact t
  | i + 1, y :: xs, _, ⟨u, r, e, h, t⟩ => by rw [e]; exact ⟨u, r.eraseIdx i, rfl, h, RepL.eraseIdx i t⟩
theorem RepL.rep {xs : List Vl} {vs : List V} (h : RepL K G xs vs) : ∀ k : Nat, RepL K G (List.replicate k xs).flatten (List.replicate k vs).flatten
  | 0 => rfl
  | k + 1 => by rw [List.replicate_succ, List.replicate_succ, List.flatten_cons, List.flatten_cons]; exact h.app (RepL.rep h k)
theorem RepL.scs : ∀ {xs : List Vl} {vs : List V}, RepL K G xs vs → xs.all isSc = true → RepL K G' xs vs
  | [], _, h, _ => h
  | x :: xs, _, ⟨v, r, e, h, t⟩, q => by
    rw [List.all_cons, Bool.and_eq_true] at q
    exact ⟨v, r, e, h.sc q.1, RepL.scs t q.2⟩
theorem RepF.look {f : Str} {x : Vl} : ∀ {xs : List (Str × Vl)} {ws : List (Str × V)}, RepF K G xs ws → xs.lookup f = some x → ∃ v, ws.lookup f = some v ∧ Rep K G x v
  | [], _, _, q => by simp at q
  | (g, y) :: xs, _, ⟨v, r, e, h, t⟩, q => by
    rw [e]
    rw [List.lookup_cons] at q ⊢
    cases c : f == g with
    | true => rw [c] at q; exact ⟨v, rfl, by rw [← Option.some.inj q]; exact h⟩
    | false => rw [c] at q; exact RepF.look t q
theorem RepF.lookN {f : Str} : ∀ {xs : List (Str × Vl)} {ws : List (Str × V)}, RepF K G xs ws → xs.lookup f = none → ws.lookup f = none
  | [], _, h, _ => by rw [show _ = [] from h]; rfl
  | (g, y) :: xs, _, ⟨v, r, e, h, t⟩, q => by
    rw [e]
    rw [List.lookup_cons] at q ⊢
    cases c : f == g with
    | true => rw [c] at q; cases q
    | false => rw [c] at q; exact RepF.lookN t q
theorem RepF.len : ∀ {xs : List (Str × Vl)} {vs : List (Str × V)}, RepF K G xs vs → vs.length = xs.length
  | [], _, h => by rw [show _ = [] from h]; rfl
  | (f, x) :: xs, _, ⟨v, r, e, _, t⟩ => by rw [e, List.length_cons, List.length_cons, RepF.len t]
def putFV (f : Str) (v : Vl) : List (Str × Vl) → List (Str × Vl)
  | [] => [(f, v)]
  | (g, w) :: r => if g = f then (g, v) :: r else (g, w) :: putFV f v r
theorem RepF.put {f : Str} {x : Vl} {v : V} (hx : Rep K G x v) : ∀ {xs : List (Str × Vl)} {ws : List (Str × V)}, RepF K G xs ws → RepF K G (putFV f x xs) (putF f v ws)
  | [], _, h => by rw [show _ = [] from h]; exact ⟨v, [], rfl, hx, rfl⟩
  | (g, y) :: xs, _, ⟨u, r, e, h, t⟩ => by
    rw [e]
    show RepF K G (if g = f then (g, x) :: xs else (g, y) :: putFV f x xs) (if g = f then (g, v) :: r else (g, u) :: putF f v r)
    by_cases c : g = f
    · rw [if_pos c, if_pos c]; exact ⟨v, r, rfl, hx, t⟩
    · rw [if_neg c, if_neg c]; exact ⟨u, _, rfl, h, RepF.put hx t⟩
theorem repL_of_ints : ∀ (ns : List Int), RepL K G (ns.map Vl.int) (ns.map V.int)
  | [] => rfl
  | n :: ns => ⟨.int n, _, rfl, rfl, repL_of_ints ns⟩
end
end MV
namespace MV
open PySem PySem.Spec PyProof.Rows L2
abbrev St := L2.St
abbrev Takes (X : Cx) (W : WX) : Prop := L2N.Takes X W
theorem takes_none5 {X : Cx} : Takes X (fun _ _ _ _ => False) := fun _ _ ⟨_, _, _, _, _, _, _, _, _, _, _, _, _, _, _, _, w⟩ => w.elim
theorem passAt {X : Cx} {W : WX} (tk : Takes X W) (σ : St) : PassesAt (L2N.CX X.prog X.w) X σ (WE W σ) := L2N.passAt tk σ
structure Jx where
  K : PySem.W.Frag
  H0 : Hp
  F0 : Hp
  ios : List (Nat × Addr)
  fx : Option (Nat × V)
abbrev Jx.io (J : Jx) : List Addr := J.ios.map (·.2)
def Jx.B0 (J : Jx) : Hp := fun b => if b ∈ J.io then none else J.H0 b
theorem lookup_io {l : List (Nat × Addr)} {i : Nat} {a : Addr} (h : l.lookup i = some a) : a ∈ l.map (·.2) := by
  induction l with
  | nil => cases h
  | cons x l ih =>
    rw [List.lookup_cons] at h
    cases c : i == x.1 with
    | true => rw [c] at h; rw [← Option.some.inj h]; exact List.mem_cons_self
    | false => rw [c] at h; exact List.mem_cons_of_mem _ (ih h)
abbrev Ow := Sum Nat Nat
def OwnO (K : PySem.W.Frag) (F : Hp) : Vl → HO → Prop
  | .lst xs, o => ∃ vs, o = .lst vs ∧ RepL K F xs vs
  | .ins c fs, o => ∃ dx ws, o = .ins (He.ga K c) dx ws ∧ RepF K F fs ws
  | .hole, o => ∃ vs, o = .lst vs
  | _, _ => False
def SR (J : Jx) (F B H : Hp) (O : Addr → Option Ow) (ow : Ow) (s : Sv) (v : V) : Prop := match s.m with
  | .shr => Rep J.K F s.d v
  | .bor => Rep J.K J.B0 s.d v
  | .tmp => ∃ a o, v = .ref a ∧ H a = some o ∧ OwnO J.K F s.d o ∧ ∃ i, O a = some (.inl i)
  | .own => ∃ a o, v = .ref a ∧ H a = some o ∧ OwnO J.K F s.d o ∧ O a = some ow ∧ B a = none ∧ J.H0 a = none
  | .io => ∃ a o, v = .ref a ∧ H a = some o ∧ OwnO J.K F s.d o ∧ O a = some ow ∧ B a = none ∧ ∃ i, ow = .inl i ∧ J.ios.lookup i = some a
def TOk (J : Jx) (F B H : Hp) (O : Addr → Option Ow) : List (Sv × V) → Prop
  | [] => True
  | (s, v) :: t => SR J F B H O (.inr t.length) s v ∧ TOk J F B H O t
structure Base (J : Jx) (F B H : Hp) : Prop where
  fb : Sub F B
  bh : Sub B H
  f0 : Sub J.F0 F
  new : ∀ b o, F b = some o → J.F0 b = some o ∨ J.H0 b = none
  keep : ∀ b o, J.H0 b = some o → b ∉ J.io → H b = some o
  iot : ∀ b, b ∈ J.io → ∃ o, H b = some o
def NF (J : Jx) (i : Nat) : Prop := ∀ v, J.fx ≠ some (i, v)
theorem nf_none {J : Jx} {i : Nat} (h : J.fx = none) : NF J i := fun v e => by rw [h] at e; cases e
theorem nf_ne {J : Jx} {i k : Nat} {u : V} (h : J.fx = some (k, u)) (n : (k == i) = false) : NF J i := fun v e => by
  rw [h] at e
  cases e
  simp at n
theorem nfs_ne {J : Jx} {is : List Nat} {k : Nat} {u : V} (h : J.fx = some (k, u)) (n : is.contains k = false) : ∀ i ∈ is, NF J i := fun i hi v e => by
  rw [h] at e
  cases e
  rw [List.contains_iff_mem.mpr hi] at n
  cases n
theorem Base.b0h {J : Jx} {F B H : Hp} (b : Base J F B H) : Sub J.B0 H := fun a o e => by
  unfold Jx.B0 at e
  split at e
  · cases e
  · rename_i n
    exact b.keep a o e n
structure LenOk (J : Jx) (ρ : En) (σ : St) : Prop where
  eq : ρ.length = σ.length
  fx : ∀ i v, J.fx = some (i, v) → σ[i]? = some (some v)
theorem LenOk.of {J : Jx} {ρ ρ' : En} {σ : St} (h : LenOk J ρ σ) (e : ρ'.length = ρ.length) : LenOk J ρ' σ := ⟨e.trans h.eq, h.fx⟩
theorem LenOk.set {J : Jx} {ρ : En} {σ : St} {i : Nat} {x : Option Sv} (h : LenOk J ρ σ) : LenOk J (ρ.set i x) σ := h.of List.length_set
theorem LenOk.set2 {J : Jx} {ρ : En} {σ : St} {i : Nat} {x : Option Sv} {y : Option V} (h : LenOk J ρ σ) (n : NF J i) : LenOk J (ρ.set i x) (σ.set i y) := ⟨by rw [List.length_set, List.length_set]; exact h.eq, fun j v e => by
  by_cases c : i = j
  · subst c; exact absurd e (n v)
  · rw [List.getElem?_set_ne c]; exact h.fx j v e⟩
structure IvW (J : Jx) (F B : Hp) (O : Addr → Option Ow) (ρ : En) (τ : List (Sv × V)) (σ : St) (H : Hp) : Prop where
  base : Base J F B H
  len : LenOk J ρ σ
  slot : ∀ (i : Nat) s, ρ[i]? = some (some s) → s.m ≠ .tmp ∧ ∃ v, σ[i]? = some (some v) ∧ SR J F B H O (.inl i) s v
  temp : TOk J F B H O τ
def Iv (J : Jx) (ρ : En) (τ : List (Sv × V)) (σ : St) (H : Hp) : Prop := ∃ F B O, IvW J F B O ρ τ σ H
def NoTmp (τ : List (Sv × V)) : Prop := ∀ x ∈ τ, x.1.m ≠ .tmp
section
variable {J : Jx} {F B H : Hp} {O : Addr → Option Ow} {ρ : En} {τ : List (Sv × V)} {σ : St} {ow : Ow} {s : Sv} {v : V}
theorem OwnO.mono {K : PySem.W.Frag} {F F' : Hp} (q : Sub F F') {d : Vl} {o : HO} (h : OwnO K F d o) : OwnO K F' d o := by
  cases d with
  | lst xs => obtain ⟨vs, e, r⟩ := h; exact ⟨vs, e, r.mono q⟩
  | ins c fs => obtain ⟨dx, ws, e, r⟩ := h; exact ⟨dx, ws, e, r.mono q⟩
  | hole => exact h
  | _ => exact h.elim
theorem OwnO.rep {K : PySem.W.Frag} {F G : Hp} (q : Sub F G) {d : Vl} {o : HO} {a : Addr} (h : OwnO K F d o) (g : G a = some o) : Rep K G d (.ref a) := by
  cases d with
  | lst xs => obtain ⟨vs, e, r⟩ := h; subst e; exact ⟨a, vs, rfl, g, r.mono q⟩
  | ins c fs => obtain ⟨dx, ws, e, r⟩ := h; subst e; exact ⟨a, dx, ws, rfl, g, r.mono q⟩
  | hole => exact fun z => nomatch z
  | _ => exact h.elim
theorem SR.rep (b : Base J F B H) (h : SR J F B H O ow s v) : Rep J.K H s.d v := by
  obtain ⟨m, d⟩ := s
  cases m with
  | shr => exact Rep.mono (fun _ _ e => b.bh _ _ (b.fb _ _ e)) h
  | bor => exact Rep.mono b.b0h h
  | tmp => obtain ⟨a, o, e, g, r, _⟩ := h; subst e; exact r.rep (fun _ _ e => b.bh _ _ (b.fb _ _ e)) g
  | own => obtain ⟨a, o, e, g, r, _⟩ := h; subst e; exact r.rep (fun _ _ e => b.bh _ _ (b.fb _ _ e)) g
  | io => obtain ⟨a, o, e, g, r, _⟩ := h; subst e; exact r.rep (fun _ _ e => b.bh _ _ (b.fb _ _ e)) g
theorem SR.sc {d : Vl} (h : Rep J.K H d v) (q : isSc d = true) : SR J F B H O ow ⟨.shr, d⟩ v := Rep.sc (G' := F) h q
theorem SR.mk {m : Md} {d : Vl} (h : SR J F B H O ow ⟨m, d⟩ v) (b : Base J F B H) : SR J F B H O ow (mk m d) v := by
  unfold MV.mk
  split
  · rename_i q
    exact SR.sc (h.rep b) q
  · exact h
def reg (F B : Hp) (m : Md) : Hp := match m with
  | .bor => B
  | _ => F
theorem reg_kid {d : Vl} {m : Md} (h : Rep J.K (reg F J.B0 m) d v) (H' : Hp) : SR J F B H' O ow ⟨m.kid, d⟩ v := by
  cases m <;> exact h
theorem SR.list {m : Md} {xs : List Vl} (b : Base J F B H) (h : SR J F B H O ow ⟨m, .lst xs⟩ v) : ∃ a vs, v = .ref a ∧ H a = some (.lst vs) ∧ RepL J.K (reg F J.B0 m) xs vs := by
  cases m with
  | shr => obtain ⟨a, vs, e, g, r⟩ := h; exact ⟨a, vs, e, b.bh _ _ (b.fb _ _ g), r⟩
  | bor => obtain ⟨a, vs, e, g, r⟩ := h; exact ⟨a, vs, e, b.b0h _ _ g, r⟩
  | tmp => obtain ⟨a, o, e, g, ⟨vs, eo, r⟩, _⟩ := h; subst eo; exact ⟨a, vs, e, g, r⟩
  | own => obtain ⟨a, o, e, g, ⟨vs, eo, r⟩, _⟩ := h; subst eo; exact ⟨a, vs, e, g, r⟩
  | io => obtain ⟨a, o, e, g, ⟨vs, eo, r⟩, _⟩ := h; subst eo; exact ⟨a, vs, e, g, r⟩
theorem SR.tup {m : Md} {xs : List Vl} (b : Base J F B H) (h : SR J F B H O ow ⟨m, .tup xs⟩ v) : ∃ a vs, v = .ref a ∧ H a = some (.tup vs) ∧ RepL J.K (reg F J.B0 m) xs vs := by
  cases m with
  | shr => obtain ⟨a, vs, e, g, r⟩ := h; exact ⟨a, vs, e, b.bh _ _ (b.fb _ _ g), r⟩
  | bor => obtain ⟨a, vs, e, g, r⟩ := h; exact ⟨a, vs, e, b.b0h _ _ g, r⟩
  | tmp => obtain ⟨a, o, e, g, r, _⟩ := h; exact r.elim
  | own => obtain ⟨a, o, e, g, r, _⟩ := h; exact r.elim
  | io => obtain ⟨a, o, e, g, r, _⟩ := h; exact r.elim
theorem SR.ins {m : Md} {c : Str} {fs : List (Str × Vl)} (b : Base J F B H) (h : SR J F B H O ow ⟨m, .ins c fs⟩ v) : ∃ a dx ws, v = .ref a ∧ H a = some (.ins (He.ga J.K c) dx ws) ∧ RepF J.K (reg F J.B0 m) fs ws := by
  cases m with
  | shr => obtain ⟨a, dx, ws, e, g, r⟩ := h; exact ⟨a, dx, ws, e, b.bh _ _ (b.fb _ _ g), r⟩
  | bor => obtain ⟨a, dx, ws, e, g, r⟩ := h; exact ⟨a, dx, ws, e, b.b0h _ _ g, r⟩
  | tmp => obtain ⟨a, o, e, g, ⟨dx, ws, eo, r⟩, _⟩ := h; subst eo; exact ⟨a, dx, ws, e, g, r⟩
  | own => obtain ⟨a, o, e, g, ⟨dx, ws, eo, r⟩, _⟩ := h; subst eo; exact ⟨a, dx, ws, e, g, r⟩
  | io => obtain ⟨a, o, e, g, ⟨dx, ws, eo, r⟩, _⟩ := h; subst eo; exact ⟨a, dx, ws, e, g, r⟩
theorem SR.int {m : Md} {i : Int} (b : Base J F B H) (h : SR J F B H O ow ⟨m, .int i⟩ v) : v = .int i := h.rep b
theorem TOk.imp {F' B' H' : Hp} {O' : Addr → Option Ow} : ∀ {τ : List (Sv × V)}, TOk J F B H O τ → (∀ s v k, (s, v) ∈ τ → k < τ.length → SR J F B H O (.inr k) s v → SR J F' B' H' O' (.inr k) s v) → TOk J F' B' H' O' τ
  | [], _, _ => trivial
  | (s, v) :: t, ⟨h, r⟩, f => ⟨f s v t.length List.mem_cons_self (Nat.lt_succ_self _) h, TOk.imp r fun s v k m l => f s v k (List.mem_cons_of_mem _ m) (Nat.lt_succ_of_lt l)⟩
theorem IvW.push (I : IvW J F B O ρ τ σ H) (h : SR J F B H O (.inr τ.length) s v) : Iv J ρ ((s, v) :: τ) σ H := ⟨F, B, O, I.base, I.len, I.slot, h, I.temp⟩
theorem IvW.pushSc {d : Vl} (I : IvW J F B O ρ τ σ H) (h : Rep J.K H d v) (q : isSc d = true) : Iv J ρ ((⟨.shr, d⟩, v) :: τ) σ H := I.push (SR.sc h q)
theorem IvW.drop1 {x : Sv × V} (I : IvW J F B O ρ (x :: τ) σ H) : IvW J F B O ρ τ σ H := ⟨I.base, I.len, I.slot, I.temp.2⟩
theorem Iv.drop1 {x : Sv × V} (I : Iv J ρ (x :: τ) σ H) : Iv J ρ τ σ H := let ⟨F, B, O, I⟩ := I; ⟨F, B, O, I.drop1⟩
theorem IvW.top (I : IvW J F B O ρ ((s, v) :: τ) σ H) : SR J F B H O (.inr τ.length) s v := I.temp.1
theorem upd_sub {G : Hp} {p : Addr} {o : HO} (n : G p = none) : Sub G (upd G p o) := fun b u e => by
  rw [upd_ne (ne_of_none e n)]; exact e
theorem Base.freeH0 (b : Base J F B H) {p : Addr} (np : H p = none) : J.H0 p = none := by
  cases e : J.H0 p with
  | none => rfl
  | some u =>
    by_cases q : p ∈ J.io
    · obtain ⟨u, z⟩ := b.iot p q; rw [np] at z; cases z
    · rw [b.keep _ _ e q] at np; cases np
theorem Base.freeB (b : Base J F B H) {p : Addr} (np : H p = none) : B p = none := by
  cases e : B p with
  | none => rfl
  | some u => rw [b.bh _ _ e] at np; cases np
theorem Base.freeF (b : Base J F B H) {p : Addr} (np : B p = none) : F p = none := by
  cases e : F p with
  | none => rfl
  | some u => rw [b.fb _ _ e] at np; cases np
theorem IvW.new {d : Vl} {o : HO} {p : Addr} (I : IvW J F B O ρ τ σ H) (np : H p = none) (r : OwnO J.K F d o) : Iv J ρ ((⟨.own, d⟩, .ref p) :: τ) σ (upd H p o) := by
  have nB := I.base.freeB np
  have hs := upd_sub (o := o) np
  have hO : ∀ (ow : Ow) s v, SR J F B H O ow s v → SR J F B (upd H p o) (fun b => if b = p then some (.inr τ.length) else O b) ow s v := fun ow s v h => by
    obtain ⟨m, d⟩ := s
    cases m with
    | shr => exact h
    | bor => exact h
    | tmp => obtain ⟨a, u, e, g, r, j, q⟩ := h; exact ⟨a, u, e, hs _ _ g, r, j, (if_neg (ne_of_none g np)).trans q⟩
    | own =>
      obtain ⟨a, u, e, g, r, q, n, z⟩ := h
      exact ⟨a, u, e, hs _ _ g, r, (if_neg (ne_of_none g np)).trans q, n, z⟩
    | io =>
      obtain ⟨a, u, e, g, r, q, n, z⟩ := h
      exact ⟨a, u, e, hs _ _ g, r, (if_neg (ne_of_none g np)).trans q, n, z⟩
  refine ⟨F, B, fun b => if b = p then some (.inr τ.length) else O b, ⟨I.base.fb, fun b u e => hs _ _ (I.base.bh b u e), I.base.f0, I.base.new, fun b u e q => hs _ _ (I.base.keep b u e q), fun b e => (let ⟨u, q⟩ := I.base.iot b e; ⟨u, hs _ _ q⟩)⟩, I.len, fun i s e => ?_, ?_, ?_⟩
  · obtain ⟨t, v, e1, h⟩ := I.slot i s e
    exact ⟨t, v, e1, hO _ _ _ h⟩
  · exact ⟨p, o, rfl, upd_same, r, if_pos rfl, nB, I.base.freeH0 np⟩
  · exact I.temp.imp fun s v k _ _ h => hO _ _ _ h
theorem SR.grow {o : HO} {p : Addr} {H' : Hp} {ow : Ow} {s : Sv} {v : V} (nF : F p = none) (nB : B p = none) (h : SR J F B H O ow s v) (hh : ∀ a u, H a = some u → H' a = some u) (hp : ∀ a u, H a = some u → O a = some ow → a ≠ p) : SR J (upd F p o) (upd B p o) H' O ow s v := by
  have hF := upd_sub (o := o) nF
  have hB := upd_sub (o := o) nB
  obtain ⟨m, d⟩ := s
  cases m with
  | shr => exact Rep.mono hF h
  | bor => exact h
  | tmp => obtain ⟨a, u, e, g, r, j, q⟩ := h; exact ⟨a, u, e, hh _ _ g, r.mono hF, j, q⟩
  | own =>
    obtain ⟨a, u, e, g, r, q, n, z⟩ := h
    exact ⟨a, u, e, hh _ _ g, r.mono hF, q, by rw [upd_ne (hp a u g q)]; exact n, z⟩
  | io =>
    obtain ⟨a, u, e, g, r, q, n, z⟩ := h
    exact ⟨a, u, e, hh _ _ g, r.mono hF, q, by rw [upd_ne (hp a u g q)]; exact n, z⟩
theorem Base.grow {o : HO} {p : Addr} {H' : Hp} (b : Base J F B H) (hh : ∀ a u, H a = some u → H' a = some u) (hp : H' p = some o) (h0 : J.H0 p = none) (nF : F p = none) (nB : B p = none) : Base J (upd F p o) (upd B p o) H' := by
  refine ⟨fun b' u e => ?_, fun b' u e => ?_, fun b' u e => upd_sub nF _ _ (b.f0 b' u e), fun b' u e => ?_, fun b' u e q => hh _ _ (b.keep b' u e q), fun b' e => (let ⟨u, q⟩ := b.iot b' e; ⟨u, hh _ _ q⟩)⟩
  · by_cases c : b' = p
    · subst c; rw [upd_same] at e ⊢; exact e
    · rw [upd_ne c] at e ⊢; exact b.fb b' u e
  · by_cases c : b' = p
    · subst c; rw [upd_same] at e; cases e; exact hp
    · rw [upd_ne c] at e; exact hh _ _ (b.bh b' u e)
  · by_cases c : b' = p
    · subst c; exact .inr h0
    · rw [upd_ne c] at e; exact b.new b' u e
theorem IvW.newF {d : Vl} {o : HO} {p : Addr} (I : IvW J F B O ρ τ σ H) (np : H p = none) (r : Rep J.K (upd F p o) d (.ref p)) : Iv J ρ ((⟨.shr, d⟩, .ref p) :: τ) σ (upd H p o) := by
  have nB := I.base.freeB np
  have nF := I.base.freeF nB
  have hs := upd_sub (o := o) np
  refine ⟨upd F p o, upd B p o, O, I.base.grow hs upd_same (I.base.freeH0 np) nF nB, I.len, fun i s e => ?_, r, ?_⟩
  · obtain ⟨t, v, e1, h⟩ := I.slot i s e
    exact ⟨t, v, e1, h.grow nF nB hs fun a u g _ => ne_of_none g np⟩
  · exact I.temp.imp fun s v k _ _ h => h.grow nF nB hs fun a u g _ => ne_of_none g np
theorem IvW.frz {d : Vl} {v : V} (I : IvW J F B O ρ ((⟨.own, d⟩, v) :: τ) σ H) : Iv J ρ ((⟨.shr, d⟩, v) :: τ) σ H := by
  obtain ⟨a, o, e, g, r, q, n, z⟩ := I.top
  have nF := I.base.freeF n
  have ne : ∀ ow, ow ≠ .inr τ.length → ∀ b u, H b = some u → O b = some ow → b ≠ a := fun ow h b u _ y x => by
    subst x; rw [q] at y; exact h (Option.some.inj y).symm
  refine ⟨upd F a o, upd B a o, O, I.base.grow (fun _ _ e => e) g z nF n, I.len, fun i s e => ?_, ?_, ?_⟩
  · obtain ⟨t, v, e1, h⟩ := I.slot i s e
    exact ⟨t, v, e1, h.grow nF n (fun _ _ e => e) (ne _ fun y => nomatch y)⟩
  · subst e
    exact (r.mono (upd_sub nF)).rep (fun _ _ e => e) upd_same
  · exact I.drop1.temp.imp fun s v k _ hk h => h.grow nF n (fun _ _ e => e) (ne _ fun y => Nat.ne_of_lt hk (Sum.inr.inj y))
theorem IvW.frzS {d : Vl} {i : Nat} (I : IvW J F B O ρ τ σ H) (h : ρ[i]? = some (some ⟨.own, d⟩)) : Iv J (ρ.set i (some ⟨.shr, d⟩)) τ σ H := by
  obtain ⟨_, v, e1, a, o, e, g, r, q, n, z⟩ := I.slot i _ h
  have nF := I.base.freeF n
  have ne : ∀ ow, ow ≠ .inl i → ∀ b u, H b = some u → O b = some ow → b ≠ a := fun ow h b u _ y x => by
    subst x; rw [q] at y; exact h (Option.some.inj y).symm
  refine ⟨upd F a o, upd B a o, O, I.base.grow (fun _ _ e => e) g z nF n, I.len.set, fun j s ej => ?_, ?_⟩
  · by_cases hj : i = j
    · subst hj
      have hl : i < ρ.length := (List.getElem?_eq_some_iff.mp h).1
      rw [List.getElem?_set_self hl] at ej
      cases ej
      refine ⟨(fun y => nomatch y), v, e1, ?_⟩
      subst e
      exact (r.mono (upd_sub nF)).rep (fun _ _ e => e) upd_same
    · rw [List.getElem?_set_ne hj] at ej
      obtain ⟨t, v, e2, h2⟩ := I.slot j s ej
      exact ⟨t, v, e2, h2.grow nF n (fun _ _ e => e) (ne _ fun y => hj (Sum.inl.inj y).symm)⟩
  · exact I.temp.imp fun s v k _ _ h => h.grow nF n (fun _ _ e => e) (ne _ fun y => nomatch y)
end
end MV
namespace MV
open PySem PySem.Spec PyProof.Rows L2
inductive Rs (α : Type) where
  | ok (a : α) (ρ : En)
  | exc (c : Str) (fs : List (Str × Vl)) (ρ : En)
  | bad
def bnd {α β : Type} (r : Rs α) (k : α → En → Rs β) : Rs β := match r with
  | .ok a ρ => k a ρ
  | .exc c fs ρ => .exc c fs ρ
  | .bad => .bad
def ErrR (K : PySem.W.Frag) (F : Hp) (c : Str) (fs : List (Str × Vl)) (cls : Value) (d : Option Addr) : Prop :=
  cls = .ref (He.ga K c) ∧ ((fs = [] ∧ d = none) ∨ ∃ dd ws, d = some dd ∧ F dd = some (.xd ws) ∧ ∀ f x, fs.lookup f = some x → ∃ v, ws.lookup f = some v ∧ Rep K F x v)
def Ix (J : Jx) (ρ : En) (c : Str) (fs : List (Str × Vl)) (σ : St) (H : Hp) (cls : Value) (d : Option Addr) : Prop :=
  ∃ F B O, IvW J F B O ρ [] σ H ∧ ErrR J.K F c fs cls d
def Out (J : Jx) (W : WX) (τ : List (Sv × V)) (σ : St) (r : Rs Sv) (Q : VK) : Prop := match r with
  | .ok s ρ => ∀ v H, Iv J ρ ((s, v) :: τ) σ H → Q v H
  | .exc c fs ρ => ∀ cls d H, Ix J ρ c fs σ H cls d → W cls d σ H
  | .bad => False
abbrev Sem1 := En → Rs Sv
def tE (J : Jx) (W : WX) (q : Bool) (f : Sem1) : TE := fun σ H Q => ∃ ρ τ, Iv J ρ τ σ H ∧ (q = true ∨ NoTmp τ) ∧ Out J W τ σ (f ρ) Q
structure XE (X : Cx) (J : Jx) (W : WX) (e : Expr) (q : Bool) (f : Sem1) : Prop where
  pe : PE X e (tE J W q f)
theorem _root_.L2.PE.imp {X : Cx} {e : Expr} {t t' : TE} (h : PE X e t) (i : ∀ σ H Q, t' σ H Q → t σ H Q) : PE X e t' := ⟨fun pins s σ H Q I q => h.run pins s σ H Q I (i σ H Q q)⟩
theorem NoTmp.cons {s : Sv} {v : V} {τ : List (Sv × V)} (h : NoTmp τ) (q : s.m ≠ .tmp) : NoTmp ((s, v) :: τ) := fun x hx => by
  rcases List.mem_cons.mp hx with e | e
  · rw [e]; exact q
  · exact h x e
section
variable {X : Cx} {J : Jx} {W : WX} {e a b c : Expr} {q qa qb qc : Bool} {f fa fb fc : Sem1} {pos : Pos} {τ : List (Sv × V)} {σ : St} {H : Hp} {ρ : En}
def fVar (i : Nat) : Sem1 := fun ρ => match ρ[i]? with
  | some (some ⟨.own, d⟩) => .ok ⟨.tmp, d⟩ ρ
  | some (some ⟨.io, d⟩) => .ok ⟨.tmp, d⟩ ρ
  | some (some s) => .ok s ρ
  | _ => .bad
theorem xe_var {i : Nat} {x : Str} (hN : X.N[i]? = some x) (hv : Vis X.env.scope x) (hd : (x == ("__debug__" : Str)) = false := by decide) (hcd : (x == ("__classdict__" : Str)) = false := by decide) : XE X J W (.Name x pos) true (fVar i) := by
  refine ⟨(pe_var hN hv hd hcd).imp ?_⟩
  rintro σ H Q ⟨ρ, τ, ⟨F, B, O, I⟩, _, m⟩
  unfold fVar at m
  cases e : ρ[i]? with
  | none => rw [e] at m; exact m.elim
  | some o =>
    cases o with
    | none => rw [e] at m; exact m.elim
    | some s =>
      obtain ⟨t, v, e1, r⟩ := I.slot i s e
      refine ⟨v, e1, ?_⟩
      obtain ⟨md, d⟩ := s
      rw [e] at m
      cases md with
      | own =>
        obtain ⟨p, o, ev, g, r, q, _⟩ := r
        exact m v H (I.push (s := ⟨.tmp, d⟩) ⟨p, o, ev, g, r, i, q⟩)
      | io =>
        obtain ⟨p, o, ev, g, r, q, _⟩ := r
        exact m v H (I.push (s := ⟨.tmp, d⟩) ⟨p, o, ev, g, r, i, q⟩)
      | tmp => exact absurd rfl t
      | bor => exact m v H (I.push (s := ⟨.bor, d⟩) r)
      | shr => exact m v H (I.push (s := ⟨.shr, d⟩) r)
def fMv (i : Nat) : Sem1 := fun ρ => match ρ[i]? with
  | some (some ⟨.io, d⟩) => .bad
  | some (some s) => .ok s (ρ.set i none)
  | _ => .bad
theorem SR.mv {J : Jx} {F B H : Hp} {O : Addr → Option Ow} {i k : Nat} {s : Sv} {v : V} (nio : s.m ≠ .io) (nt : s.m ≠ .tmp) (h : SR J F B H O (.inl i) s v) : ∃ O' : Addr → Option Ow, SR J F B H O' (.inr k) s v ∧ ∀ a ow, O a = some ow → ow ≠ .inl i → ow ≠ .inr k → O' a = some ow := by
  obtain ⟨m, d⟩ := s
  cases m with
  | own =>
    obtain ⟨p, o, ev, g, r, qo, n, z⟩ := h
    refine ⟨fun b => if b = p then some (.inr k) else O b, ⟨p, o, ev, g, r, if_pos rfl, n, z⟩, fun a ow e h1 h2 => ?_⟩
    by_cases c : a = p
    · subst c; rw [qo] at e; exact absurd (Option.some.inj e).symm h1
    · exact (if_neg c).trans e
  | io => exact absurd rfl nio
  | tmp => exact absurd rfl nt
  | bor => exact ⟨O, h, fun a ow e _ _ => e⟩
  | shr => exact ⟨O, h, fun a ow e _ _ => e⟩
theorem SR.owner {J : Jx} {F B H : Hp} {O O' : Addr → Option Ow} {ow : Ow} {s : Sv} {v : V} (nt : s.m ≠ .tmp) (h : SR J F B H O ow s v) (f : ∀ a, O a = some ow → O' a = some ow) : SR J F B H O' ow s v := by
  obtain ⟨m, d⟩ := s
  cases m with
  | own => obtain ⟨p, o, ev, g, r, qo, z⟩ := h; exact ⟨p, o, ev, g, r, f _ qo, z⟩
  | io => obtain ⟨p, o, ev, g, r, qo, z⟩ := h; exact ⟨p, o, ev, g, r, f _ qo, z⟩
  | tmp => exact absurd rfl nt
  | bor => exact h
  | shr => exact h
theorem xe_mv {i : Nat} {x : Str} (hN : X.N[i]? = some x) (hv : Vis X.env.scope x) (hd : (x == ("__debug__" : Str)) = false := by decide) (hcd : (x == ("__classdict__" : Str)) = false := by decide) : XE X J W (.Name x pos) false (fMv i) := by
  refine ⟨(pe_var hN hv hd hcd).imp ?_⟩
  rintro σ H Q ⟨ρ, τ, ⟨F, B, O, I⟩, c, m⟩
  have nt : NoTmp τ := c.elim (fun z => nomatch z) id
  unfold fMv at m
  cases e : ρ[i]? with
  | none => rw [e] at m; exact m.elim
  | some o =>
    cases o with
    | none => rw [e] at m; exact m.elim
    | some s =>
      obtain ⟨t, v, e1, r⟩ := I.slot i s e
      refine ⟨v, e1, ?_⟩
      rw [e] at m
      have nio : s.m ≠ .io := fun y => by
        obtain ⟨md, d⟩ := s
        cases y
        exact m
      have m : Out J W τ σ (.ok s (ρ.set i none)) Q := by
        obtain ⟨md, d⟩ := s
        cases md <;> first | exact m | exact absurd rfl nio
      obtain ⟨O', r', ho⟩ := SR.mv (k := τ.length) nio t r
      refine m v H ⟨F, B, O', I.base, I.len.set, fun j s2 e2 => ?_, r', ?_⟩
      · by_cases hj : i = j
        · subst hj
          by_cases hl : i < ρ.length
          · rw [List.getElem?_set_self hl] at e2; cases e2
          · rw [List.getElem?_eq_none (by simpa using hl)] at e2; cases e2
        · rw [List.getElem?_set_ne hj] at e2
          obtain ⟨t2, v2, e3, r2⟩ := I.slot j s2 e2
          exact ⟨t2, v2, e3, r2.owner t2 fun a z => ho a _ z (fun y => hj (Sum.inl.inj y).symm) (fun y => nomatch y)⟩
      · exact I.temp.imp fun s v k hm hk h => h.owner (nt _ hm) fun a z => ho a _ z (fun y => nomatch y) (fun y => Nat.ne_of_lt hk (Sum.inr.inj y))
def fC (d : Vl) : Sem1 := fun ρ => .ok ⟨.shr, d⟩ ρ
theorem xe_c {d : Vl} {v : V} (h : PE X e (tC v)) (r : ∀ G, Rep J.K G d v) : XE X J W e true (fC d) := by
  refine ⟨h.imp ?_⟩
  rintro σ H Q ⟨ρ, τ, ⟨F, B, O, I⟩, _, m⟩
  exact m v H (I.push (s := ⟨.shr, d⟩) (r F))
theorem xe_int {i : Int} {j p} : XE X J W (.Constant (.int i) j p) true (fC (.int i)) := xe_c pe_int (fun _ => rfl)
theorem xe_bl {i : Bool} {j p} : XE X J W (.Constant (.bool i) j p) true (fC (.bl i)) := xe_c pe_bl (fun _ => rfl)
theorem xe_str {i : Str} {j p} : XE X J W (.Constant (.str i) j p) true (fC (.str i)) := xe_c pe_str (fun _ => rfl)
theorem xe_glob {x : Str} {d : Vl} {v : V} {u : Value} (hg : Gl X x) (hm : X.mg x = some u) (r : RelV v u) (rd : ∀ G, Rep J.K G d v) (hd : (x == ("__debug__" : Str)) = false := by decide) : XE X J W (.Name x pos) true (fC d) := xe_c (pe_glob hg hm r hd) rd
abbrev K1 := Sv → En → Rs Sv
abbrev K2 := Sv → Sv → En → Rs Sv
def fOne (fa : Sem1) (k : K1) : Sem1 := fun ρ => bnd (fa ρ) k
def Md.isT : Md → Bool
  | .tmp => true
  | _ => false
def grd {α : Type} (b : Bool) (r : Rs α) : Rs α := match b with
  | true => r
  | false => .bad
def held (m : Md) (q : Bool) : Bool := q || !m.isT
def fTwo (qb : Bool) (fa fb : Sem1) (k : K2) : Sem1 := fun ρ => bnd (fa ρ) fun a ρ1 => grd (held a.m qb) (bnd (fb ρ1) fun b ρ2 => k a b ρ2)
def Ok1 (J : Jx) (W : WX) (r : V → Hp → VK → Prop) (k : K1) : Prop := ∀ ρ τ σ H (s : Sv) v Q, Iv J ρ ((s, v) :: τ) σ H → Out J W τ σ (k s ρ) Q → r v H Q
def Ok2 (J : Jx) (W : WX) (r : R2) (k : K2) : Prop := ∀ ρ τ σ H (s t : Sv) v u Q, Iv J ρ ((t, u) :: (s, v) :: τ) σ H → Out J W τ σ (k s t ρ) Q → r v u H Q
theorem tE_one (ok : ∀ ρ τ H (s : Sv) v, Iv J ρ ((s, v) :: τ) σ H → ∀ {r : V → Hp → VK → Prop} {k : K1} {Q : VK}, Ok1 J W r k → Out J W τ σ (k s ρ) Q → r v H Q := fun _ _ _ _ _ I _ _ _ o h => o _ _ _ _ _ _ _ I h)
    {r : V → Hp → VK → Prop} {k : K1} (hk : Ok1 J W r k) {Q : VK} (h : tE J W q (fOne fa k) σ H Q) : tE J W q fa σ H fun v H1 => r v H1 Q := by
  obtain ⟨ρ, τ, I, c, m⟩ := h
  refine ⟨ρ, τ, I, c, ?_⟩
  unfold fOne at m
  cases e : fa ρ with
  | ok s ρ1 => rw [e] at m; exact fun v H1 I1 => hk _ _ _ _ _ _ _ I1 m
  | exc cc fs ρ1 => rw [e] at m; exact m
  | bad => rw [e] at m; exact m
theorem grd_out {s : Sv} {r : Rs Sv} {Q : VK} (m : Out J W τ σ (grd (held s.m qb) r) Q) : Out J W τ σ r Q ∧ (qb = true ∨ s.m ≠ .tmp) := by
  obtain ⟨md, d⟩ := s
  cases qb with
  | true => exact ⟨m, .inl rfl⟩
  | false => cases md <;> first | exact m.elim | exact ⟨m, .inr (fun z => nomatch z)⟩
theorem tE_two {r : R2} {k : K2} (hk : Ok2 J W r k) {Q : VK} (h : tE J W (qa && qb) (fTwo qb fa fb k) σ H Q) : tE J W qa fa σ H fun x H1 => tE J W qb fb σ H1 fun y H2 => r x y H2 Q := by
  obtain ⟨ρ, τ, I, c, m⟩ := h
  refine ⟨ρ, τ, I, c.imp (fun z => (Bool.and_eq_true_iff.mp z).1) id, ?_⟩
  unfold fTwo at m
  cases e : fa ρ with
  | ok s ρ1 =>
    rw [e] at m
    intro v H1 I1
    have m2 : Out J W τ σ (bnd (fb ρ1) fun b ρ2 => k s b ρ2) Q ∧ (qb = true ∨ s.m ≠ .tmp) := grd_out m
    obtain ⟨m2, hq⟩ := m2
    refine ⟨ρ1, (s, v) :: τ, I1, ?_, ?_⟩
    · rcases c with z | z
      · exact .inl (Bool.and_eq_true_iff.mp z).2
      · rcases hq with y | y
        · exact .inl y
        · exact .inr (z.cons y)
    · cases e2 : fb ρ1 with
      | ok t ρ2 => rw [e2] at m2; exact fun u H2 I2 => hk _ _ _ _ _ _ _ _ _ I2 m2
      | exc cc fs ρ2 => rw [e2] at m2; exact m2
      | bad => rw [e2] at m2; exact m2
  | exc cc fs ρ1 => rw [e] at m; exact m
  | bad => rw [e] at m; exact m
theorem xe_op {op : Operator} {r : R2} {k : K2} (ho : OpR X (binaryOp op) r) (hk : Ok2 J W r k) (ha : XE X J W a qa fa) (hb : XE X J W b qb fb) : XE X J W (.BinOp a op b pos) (qa && qb) (fTwo qb fa fb k) :=
  ⟨(pe_op ho ha.pe hb.pe).imp fun _ _ _ h => tE_two hk h⟩
theorem xe_un {op : UnaryOp} {r : V → Hp → VK → Prop} {k : K1} (ho : UnR X (unaryOp op) r) (hk : Ok1 J W r k) (ha : XE X J W a qa fa) : XE X J W (.UnaryOp op a pos) qa (fOne fa k) :=
  ⟨(pe_un ho ha.pe).imp fun _ _ _ h => tE_one (fun _ _ _ _ _ I _ _ _ o h => o _ _ _ _ _ _ _ I h) hk h⟩
theorem xe_cmp {op : CmpOp} {r : R2} {k : K2} (ho : OpR X (compareOp op) r) (hk : Ok2 J W r k) (ha : XE X J W a qa fa) (hb : XE X J W b qb fb) (hm : behindInMarks op b = false) : XE X J W (.Compare a [op] [b] pos) (qa && qb) (fTwo qb fa fb k) :=
  ⟨(pe_cmpR ho ha.pe hb.pe hm).imp fun _ _ _ h => tE_two hk h⟩
theorem xe_ix {r : R2} {k : K2} (hr : IxR X r) (hk : Ok2 J W r k) (ha : XE X J W a qa fa) (hb : XE X J W b qb fb) (hs : PlainIx b) : XE X J W (.Subscript a b pos) (qa && qb) (fTwo qb fa fb k) :=
  ⟨(pe_ix hr ha.pe hb.pe hs).imp fun _ _ _ h => tE_two hk h⟩
def kS (g : Vl → Vl → Option Vl) : K2 := fun s t ρ => match g s.d t.d with
  | some d => if isSc d then .ok ⟨.shr, d⟩ ρ else .bad
  | none => .bad
def kS1 (g : Vl → Option Vl) : K1 := fun s ρ => match g s.d with
  | some d => if isSc d then .ok ⟨.shr, d⟩ ρ else .bad
  | none => .bad
theorem ok_S {r : R2} {g : Vl → Vl → Option Vl} (h : ∀ (H : Hp) d1 d2 d v1 v2 (Q : VK), Rep J.K H d1 v1 → Rep J.K H d2 v2 → g d1 d2 = some d → (∀ v, Rep J.K H d v → Q v H) → r v1 v2 H Q) : Ok2 J W r (kS g) := by
  rintro ρ τ σ H s t v u Q ⟨F, B, O, I⟩ m
  unfold kS at m
  cases e : g s.d t.d with
  | none => rw [e] at m; exact m.elim
  | some d =>
    rw [e] at m
    have m' : Out J W τ σ (if isSc d then .ok ⟨.shr, d⟩ ρ else .bad) Q := m
    by_cases q : isSc d = true
    · rw [if_pos q] at m'
      exact h H _ _ d v u Q (I.drop1.top.rep I.base) (I.top.rep I.base) e fun w rw => m' w H (I.drop1.drop1.pushSc rw q)
    · rw [if_neg q] at m'; exact m'.elim
theorem ok_S1 {r : V → Hp → VK → Prop} {g : Vl → Option Vl} (h : ∀ (H : Hp) d1 d v1 (Q : VK), Rep J.K H d1 v1 → g d1 = some d → (∀ v, Rep J.K H d v → Q v H) → r v1 H Q) : Ok1 J W r (kS1 g) := by
  rintro ρ τ σ H s v Q ⟨F, B, O, I⟩ m
  unfold kS1 at m
  cases e : g s.d with
  | none => rw [e] at m; exact m.elim
  | some d =>
    rw [e] at m
    have m' : Out J W τ σ (if isSc d then .ok ⟨.shr, d⟩ ρ else .bad) Q := m
    by_cases q : isSc d = true
    · rw [if_pos q] at m'
      exact h H _ d v Q (I.top.rep I.base) e fun w rw => m' w H (I.drop1.pushSc rw q)
    · rw [if_neg q] at m'; exact m'.elim
def gI (f : Int → Int → Int) : Vl → Vl → Option Vl
  | .int i, .int j => some (.int (f i j))
  | _, _ => none
def gIc (c : Int → Int → Bool) (f : Int → Int → Int) : Vl → Vl → Option Vl
  | .int i, .int j => if c i j then some (.int (f i j)) else none
  | _, _ => none
def gB (f : Int → Int → Bool) : Vl → Vl → Option Vl
  | .int i, .int j => some (.bl (f i j))
  | _, _ => none
theorem ok_I {f : Int → Int → Int} : Ok2 J W (rI0 fun i j => .int (f i j)) (kS (gI f)) := ok_S fun H d1 d2 d v1 v2 Q r1 r2 e q => by
  cases d1 <;> cases d2 <;> first | (cases e; exact ⟨_, _, r1, r2, q _ rfl⟩) | cases e
theorem ok_B {f : Int → Int → Bool} : Ok2 J W (rI0 fun i j => .bl (f i j)) (kS (gB f)) := ok_S fun H d1 d2 d v1 v2 Q r1 r2 e q => by
  cases d1 <;> cases d2 <;> first | (cases e; exact ⟨_, _, r1, r2, q _ rfl⟩) | cases e
theorem ok_Ic {C : Int → Int → Prop} {c : Int → Int → Bool} {f : Int → Int → Int} (hc : ∀ i j, c i j = true → C i j) : Ok2 J W (rI C fun i j => .int (f i j)) (kS (gIc c f)) := ok_S fun H d1 d2 d v1 v2 Q r1 r2 e q => by
  cases d1 with
  | int i =>
    cases d2 with
    | int j =>
      have e' : (if c i j then some (Vl.int (f i j)) else none) = some d := e
      by_cases z : c i j = true
      · rw [if_pos z] at e'; cases e'; exact ⟨_, _, r1, r2, hc _ _ z, q _ rfl⟩
      · rw [if_neg z] at e'; cases e'
    | _ => cases e
  | _ => cases d2 <;> cases e
end
end MV
namespace MV
open PySem PySem.Spec PyProof.Rows L2
section
variable {X : Cx} {J : Jx} {W : WX} {e a b c : Expr} {es : List Expr} {q qa qb qc qr : Bool} {f fa fb fc : Sem1} {pos : Pos} {τ : List (Sv × V)} {σ : St} {H : Hp} {ρ : En}
abbrev SemB := En → Rs Bool
def OutB (J : Jx) (W : WX) (τ : List (Sv × V)) (σ : St) (r : Rs Bool) (Q : Bool → Hp → Prop) : Prop := match r with
  | .ok b ρ => ∀ H, Iv J ρ τ σ H → Q b H
  | .exc c fs ρ => ∀ cls d H, Ix J ρ c fs σ H cls d → W cls d σ H
  | .bad => False
def tT (J : Jx) (W : WX) (q : Bool) (f : SemB) : TT := fun σ H Q => ∃ ρ τ, Iv J ρ τ σ H ∧ (q = true ∨ NoTmp τ) ∧ OutB J W τ σ (f ρ) Q
structure XT (X : Cx) (J : Jx) (W : WX) (e : Expr) (q : Bool) (f : SemB) : Prop where
  pt : PT X e (tT J W q f)
structure XW (X : Cx) (J : Jx) (W : WX) (e : Expr) (q : Bool) (f : SemB) : Prop where
  pw : PW X e (tT J W q f)
theorem _root_.L2.PT.imp {X : Cx} {e : Expr} {t t' : TT} (h : PT X e t) (i : ∀ σ H Q, t' σ H Q → t σ H Q) : PT X e t' := ⟨fun pins s σ H Q I q => h.run pins s σ H Q I (i σ H Q q)⟩
theorem _root_.L2.PW.imp {X : Cx} {e : Expr} {t t' : TT} (h : PW X e t) (i : ∀ σ H Q, t' σ H Q → t σ H Q) : PW X e t' := ⟨fun w pins s σ H Q I q => h.run w pins s σ H Q I (i σ H Q q)⟩
def tru : Vl → Option Bool
  | .non => some false
  | .bl b => some b
  | .int i => some (i != 0)
  | .lst xs => some (!xs.isEmpty)
  | .tup xs => some (!xs.isEmpty)
  | .str s => if s.length ≤ sizeLine then some (s.length != 0) else none
  | _ => none
def kBl : Sv → En → Rs Bool := fun s ρ => match s.d with
  | .bl b => .ok b ρ
  | _ => .bad
def fTst (f : Sem1) : SemB := fun ρ => bnd (f ρ) kBl
def kTru : Sv → En → Rs Bool := fun s ρ => match tru s.d with
  | some b => .ok b ρ
  | none => .bad
def fTru (f : Sem1) : SemB := fun ρ => bnd (f ρ) kTru
theorem tT_tst {Q : Bool → Hp → Prop} (h : tT J W q (fTst f) σ H Q) : tE J W q f σ H fun x H1 => ∃ k, x = .bl k ∧ Q k H1 := by
  obtain ⟨ρ, τ, I, c, m⟩ := h
  refine ⟨ρ, τ, I, c, ?_⟩
  unfold fTst at m
  cases e : f ρ with
  | ok s ρ1 =>
    rw [e] at m
    rintro v H1 ⟨F, B, O, I1⟩
    have m : OutB J W τ σ (kBl s ρ1) Q := m
    obtain ⟨md, d⟩ := s
    cases d with
    | bl k => exact ⟨k, I1.top.rep I1.base, m H1 ⟨F, B, O, I1.drop1⟩⟩
    | _ => exact m.elim
  | exc cc fs ρ1 => rw [e] at m; exact m
  | bad => rw [e] at m; exact m
theorem xt_cmp {op : CmpOp} {r : R2} {k : K2} (ho : OpR X (compareOp op) r) (hk : Ok2 J W r k) (ha : XE X J W a qa fa) (hb : XE X J W b qb fb) (hm : behindInMarks op b = false) : XT X J W (.Compare a [op] [b] pos) (qa && qb) (fTst (fTwo qb fa fb k)) :=
  ⟨(pt_cmpR ho ha.pe hb.pe hm).imp fun _ _ _ h => tE_two hk (tT_tst h)⟩
theorem nat_ne (n : Nat) : (n != 0) = (((n : Nat) : Int) != 0) := by
  cases n with
  | zero => rfl
  | succ n =>
    have h1 : (n + 1 != 0) = true := by simp
    have h2 : ((((n + 1 : Nat)) : Int) != 0) = true := by
      rw [bne_iff_ne]; omega
    rw [h1, h2]
theorem tru_rep {K : PySem.W.Frag} {d : Vl} {k : Bool} {v : V} (h : tru d = some k) (r : Rep K H d v) : TruV K v H k := by
  cases d with
  | non => cases h; cases r; exact rfl
  | bl b => cases h; cases r; exact rfl
  | int i => cases h; cases r; exact rfl
  | str s =>
    have h' : (if s.length ≤ sizeLine then some (s.length != 0) else none) = some k := h
    by_cases z : s.length ≤ sizeLine
    · rw [if_pos z] at h'; cases h'; cases r; exact ⟨z, nat_ne s.length⟩
    · rw [if_neg z] at h'; cases h'
  | lst xs =>
    cases h
    obtain ⟨p, vs, e, g, r⟩ := r
    subst e
    refine .inl ⟨vs, SqL.of g, ?_⟩
    cases xs with
    | nil => rw [show vs = [] from r]; rfl
    | cons x xs => obtain ⟨v, t, e, _⟩ := r; rw [e]; rfl
  | tup xs =>
    cases h
    obtain ⟨p, vs, e, g, r⟩ := r
    subst e
    refine .inr (.inl ⟨vs, SqT.of g, ?_⟩)
    cases xs with
    | nil => rw [show vs = [] from r]; rfl
    | cons x xs => obtain ⟨v, t, e, _⟩ := r; rw [e]; rfl
  | _ => cases h
theorem xt_tru (hK : J.K = X.K) (h : XE X J W e q f) (he : ∀ whole, isTrue e X.env whole = (do let v ← whole; standAt e.pos; holding [v] (truthy v)) := by intro _; rfl) : XT X J W e q (fTru f) := by
  refine ⟨(pt_truth h.pe he).imp fun σ H Q h => ?_⟩
  obtain ⟨ρ, τ, I, c, m⟩ := h
  refine ⟨ρ, τ, I, c, ?_⟩
  unfold fTru at m
  cases e : f ρ with
  | ok s ρ1 =>
    rw [e] at m
    rintro v H1 ⟨F, B, O, I1⟩
    have m : OutB J W τ σ (kTru s ρ1) Q := m
    unfold kTru at m
    cases z : tru s.d with
    | none => rw [z] at m; exact m.elim
    | some k =>
      rw [z] at m
      have r := I1.top.rep I1.base
      rw [hK] at r
      exact ⟨k, tru_rep z r, m H1 ⟨F, B, O, I1.drop1⟩⟩
  | exc cc fs ρ1 => rw [e] at m; exact m
  | bad => rw [e] at m; exact m
def fAnd (fa fb : SemB) : SemB := fun ρ => bnd (fa ρ) fun x ρ1 => match x with
  | true => fb ρ1
  | false => .ok false ρ1
def fOr (fa fb : SemB) : SemB := fun ρ => bnd (fa ρ) fun x ρ1 => match x with
  | true => .ok true ρ1
  | false => fb ρ1
def fNot (fa : SemB) : SemB := fun ρ => bnd (fa ρ) fun x ρ1 => .ok (!x) ρ1
variable {ga gb : SemB} {rest : List Expr}
theorem qand (c : (qa && qb) = true ∨ NoTmp τ) : (qa = true ∨ NoTmp τ) ∧ (qb = true ∨ NoTmp τ) :=
  ⟨c.imp (fun z => (Bool.and_eq_true_iff.mp z).1) id, c.imp (fun z => (Bool.and_eq_true_iff.mp z).2) id⟩
theorem xw_and1 (ha : XT X J W a qa ga) : XW X J W (.BoolOp .And [a] pos) qa ga := ⟨pw_and1 ha.pt⟩
theorem xw_or1 (ha : XT X J W a qa ga) : XW X J W (.BoolOp .Or [a] pos) qa ga := ⟨pw_or1 ha.pt⟩
theorem xw_and (ha : XT X J W a qa ga) (hb : XW X J W (.BoolOp .And (b :: rest) pos) qb gb) : XW X J W (.BoolOp .And (a :: b :: rest) pos) (qa && qb) (fAnd ga gb) := by
  refine ⟨(pw_and ha.pt hb.pw).imp fun σ H Q h => ?_⟩
  obtain ⟨ρ, τ, I, c, m⟩ := h
  refine ⟨ρ, τ, I, (qand c).1, ?_⟩
  unfold fAnd at m
  cases e : ga ρ with
  | ok x ρ1 =>
    rw [e] at m
    intro H1 I1
    cases x with
    | true => rw [if_pos rfl]; exact ⟨ρ1, τ, I1, (qand c).2, m⟩
    | false => rw [if_neg Bool.false_ne_true]; exact m H1 I1
  | exc cc fs ρ1 => rw [e] at m; exact m
  | bad => rw [e] at m; exact m
theorem xw_or (ha : XT X J W a qa ga) (hb : XW X J W (.BoolOp .Or (b :: rest) pos) qb gb) : XW X J W (.BoolOp .Or (a :: b :: rest) pos) (qa && qb) (fOr ga gb) := by
  refine ⟨(pw_or ha.pt hb.pw).imp fun σ H Q h => ?_⟩
  obtain ⟨ρ, τ, I, c, m⟩ := h
  refine ⟨ρ, τ, I, (qand c).1, ?_⟩
  unfold fOr at m
  cases e : ga ρ with
  | ok x ρ1 =>
    rw [e] at m
    intro H1 I1
    cases x with
    | false => rw [if_neg Bool.false_ne_true]; exact ⟨ρ1, τ, I1, (qand c).2, m⟩
    | true => rw [if_pos rfl]; exact m H1 I1
  | exc cc fs ρ1 => rw [e] at m; exact m
  | bad => rw [e] at m; exact m
theorem XW.xt (h : XW X J W a qa ga) : XT X J W a qa ga := ⟨h.pw.pt⟩
theorem xt_not (ha : XT X J W a qa ga) : XT X J W (.UnaryOp .Not a pos) qa (fNot ga) := by
  refine ⟨(pt_not ha.pt).imp fun σ H Q h => ?_⟩
  obtain ⟨ρ, τ, I, c, m⟩ := h
  refine ⟨ρ, τ, I, c, ?_⟩
  unfold fNot at m
  cases e : ga ρ with
  | ok x ρ1 => rw [e] at m; exact fun H1 I1 => m H1 I1
  | exc cc fs ρ1 => rw [e] at m; exact m
  | bad => rw [e] at m; exact m
def fAndV (fa fb : Sem1) : Sem1 := fun ρ => bnd (bnd (fa ρ) kBl) fun x ρ1 => match x with
  | true => fb ρ1
  | false => .ok ⟨.shr, .bl false⟩ ρ1
theorem tE_bl {k : Bool → En → Rs Sv} {R : Bool → Hp → Prop} {Q : VK} (I : Iv J ρ τ σ H) (c : q = true ∨ NoTmp τ) (m : Out J W τ σ (bnd (bnd (fa ρ) kBl) k) Q)
    (h : ∀ x ρ1 H1, Iv J ρ1 τ σ H1 → Out J W τ σ (k x ρ1) Q → R x H1) : tE J W q fa σ H fun x H1 => ∃ c, x = .bl c ∧ R c H1 := by
  refine ⟨ρ, τ, I, c, ?_⟩
  cases e : fa ρ with
  | ok s ρ1 =>
    rw [e] at m
    rintro v H1 ⟨F, B, O, I1⟩
    have m : Out J W τ σ (bnd (kBl s ρ1) k) Q := m
    obtain ⟨md, d⟩ := s
    cases d with
    | bl x => exact ⟨x, I1.top.rep I1.base, h x ρ1 H1 ⟨F, B, O, I1.drop1⟩ m⟩
    | _ => exact m.elim
  | exc cc fs ρ1 => rw [e] at m; exact m
  | bad => rw [e] at m; exact m
theorem xe_one1 {op} (h : XE X J W a qa fa) : XE X J W (.BoolOp op [a] pos) qa fa := ⟨pe_one h.pe⟩
theorem out_sc {d : Vl} {Q : VK} {v : V} (m : Out J W τ σ (.ok ⟨.shr, d⟩ ρ) Q) (I : Iv J ρ τ σ H) (r : Rep J.K H d v) (z : isSc d = true) : Q v H := by
  obtain ⟨F, B, O, I⟩ := I
  exact m v H (I.pushSc r z)
theorem xe_and (ha : XE X J W a qa fa) (hb : XE X J W (.BoolOp .And (b :: rest) pos) qb fb) : XE X J W (.BoolOp .And (a :: b :: rest) pos) (qa && qb) (fAndV fa fb) := by
  refine ⟨(pe_and ha.pe hb.pe).imp fun σ H Q h => ?_⟩
  obtain ⟨ρ, τ, I, c, m⟩ := h
  refine tE_bl (R := fun c H1 => if c = true then tE J W qb fb σ H1 Q else Q (.bl false) H1) I (qand c).1 m fun x ρ1 H1 I1 m1 => ?_
  cases x with
  | true => rw [if_pos rfl]; exact ⟨ρ1, τ, I1, (qand c).2, m1⟩
  | false => rw [if_neg Bool.false_ne_true]; exact out_sc (v := .bl false) m1 I1 rfl rfl
def kI (k : Int → En → Rs Sv) : K1 := fun s ρ => match s.d with
  | .int i => k i ρ
  | _ => .bad
theorem tE_int {k : Int → En → Rs Sv} {R Q : VK} (I : Iv J ρ τ σ H) (c : q = true ∨ NoTmp τ) (m : Out J W τ σ (bnd (fa ρ) (kI k)) Q)
    (h : ∀ i ρ1 H1, Iv J ρ1 τ σ H1 → Out J W τ σ (k i ρ1) Q → R (.int i) H1) : tE J W q fa σ H R := by
  refine ⟨ρ, τ, I, c, ?_⟩
  cases e : fa ρ with
  | ok s ρ1 =>
    rw [e] at m
    rintro v H1 ⟨F, B, O, I1⟩
    have m : Out J W τ σ (kI k s ρ1) Q := m
    obtain ⟨md, d⟩ := s
    cases d with
    | int x =>
      have hv : v = .int x := I1.top.rep I1.base
      subst hv
      exact h x ρ1 H1 ⟨F, B, O, I1.drop1⟩ m
    | _ => exact m.elim
  | exc cc fs ρ1 => rw [e] at m; exact m
  | bad => rw [e] at m; exact m
def fChain (p p' : Int → Int → Bool) (fa fb fc : Sem1) : Sem1 := fun ρ => bnd (fa ρ) (kI fun i ρ1 => bnd (fb ρ1) (kI fun j ρ2 => match p i j with
  | true => bnd (fc ρ2) (kI fun k ρ3 => .ok ⟨.shr, .bl (p' j k)⟩ ρ3)
  | false => .ok ⟨.shr, .bl false⟩ ρ2))
theorem tE_chain {p p' : Int → Int → Bool} {Q : VK} (h : tE J W (qa && (qb && qc)) (fChain p p' fa fb fc) σ H Q) :
    tChain (rI0 fun i j => .bl (p i j)) (rI0 fun i j => .bl (p' i j)) (tE J W qa fa) (tE J W qb fb) (tE J W qc fc) σ H Q := by
  obtain ⟨ρ, τ, I, cc, m⟩ := h
  refine tE_int I (qand cc).1 m fun i ρ1 H1 I1 m1 => tE_int I1 (qand (qand cc).2).1 m1 fun j ρ2 H2 I2 m2 => ?_
  refine ⟨i, j, rfl, rfl, _, rfl, ?_⟩
  cases z : p i j with
  | true =>
    rw [z] at m2
    rw [if_pos rfl]
    exact tE_int I2 (qand (qand cc).2).2 m2 fun k ρ3 H3 I3 m3 => ⟨j, k, rfl, rfl, out_sc (v := .bl (p' j k)) m3 I3 rfl rfl⟩
  | false =>
    rw [z] at m2
    rw [if_neg Bool.false_ne_true]
    exact out_sc (v := .bl false) m2 I2 rfl rfl
theorem xt_chain {op op' : CmpOp} {p p' : Int → Int → Bool} (ho : OpR X (compareOp op) (rI0 fun i j => .bl (p i j))) (ho' : OpR X (compareOp op') (rI0 fun i j => .bl (p' i j))) (ha : XE X J W a qa fa) (hb : XE X J W b qb fb) (hc : XE X J W c qc fc)
    (hm : lastMarks [op, op'] [b, c] = false := by with_unfolding_all rfl) : XT X J W (.Compare a [op, op'] [b, c] pos) (qa && (qb && qc)) (fTst (fChain p p' fa fb fc)) := ⟨(pt_chain ho ho' ha.pe hb.pe hc.pe hm).imp fun _ _ _ h => tE_chain (tT_tst h)⟩
end
end MV
namespace MV
open PySem PySem.Spec PyProof.Rows L2
section
variable {X : Cx} {J : Jx} {W : WX} {e a b c : Expr} {es : List Expr} {q qa qb qc qr : Bool} {f fa fb fc : Sem1} {pos : Pos} {τ : List (Sv × V)} {σ : St} {H : Hp} {ρ : En}
def lft (m : Md) (xs : List Vl) : Bool := (match m with | .bor => false | _ => true) || xs.all isSc
theorem lft_rep {F : Hp} {m : Md} {xs : List Vl} {vs : List V} (h : lft m xs = true) (r : RepL J.K (reg F J.B0 m) xs vs) : RepL J.K F xs vs := by
  cases m with
  | bor => exact r.scs h
  | _ => exact r
theorem kid_out {d : Vl} {m : Md} {v : V} {Q : VK} {F B : Hp} {O : Addr → Option Ow} (I : IvW J F B O ρ τ σ H) (r : Rep J.K (reg F J.B0 m) d v) (h : Out J W τ σ (.ok (mk m.kid d) ρ) Q) : Q v H :=
  h v H (I.push ((reg_kid r H).mk I.base))
def rAddA : R2 := fun x y H Q => (rI0 fun i j => .int (i + j)) x y H Q ∨ (∃ i j, x = .str i ∧ y = .str j ∧ i.length + j.length ≤ sizeLine ∧ Q (.str (i ++ j)) H) ∨ rCat x y H Q
theorem op_addA : OpR X (binaryOp .Add) rAddA := op_add.or (op_add_str.or op_cat)
def kAdd : K2 := fun s t ρ => match s.d, t.d with
  | .int i, .int j => .ok ⟨.shr, .int (i + j)⟩ ρ
  | .str i, .str j => grd (decide (i.length + j.length ≤ sizeLine)) (.ok ⟨.shr, .str (i ++ j)⟩ ρ)
  | .lst xs, .lst ys => grd (lft s.m xs && lft t.m ys && decide (xs.length + ys.length ≤ sizeLine)) (.ok ⟨.own, .lst (xs ++ ys)⟩ ρ)
  | _, _ => .bad
theorem out_grd {b : Bool} {r : Rs Sv} {Q : VK} (m : Out J W τ σ (grd b r) Q) : b = true ∧ Out J W τ σ r Q := by
  cases b with
  | true => exact ⟨rfl, m⟩
  | false => exact m.elim
theorem ok_add : Ok2 J W rAddA kAdd := by
  rintro ρ τ σ H ⟨ms, ds⟩ ⟨mt, dt⟩ v u Q ⟨F, B, O, I⟩ m
  cases ds with
  | int i =>
    cases dt with
    | int j => exact .inl ⟨i, j, I.drop1.top.rep I.base, I.top.rep I.base, out_sc m ⟨F, B, O, I.drop1.drop1⟩ rfl rfl⟩
    | _ => exact m.elim
  | str i =>
    cases dt with
    | str j =>
      obtain ⟨h, m⟩ := out_grd (b := decide (i.length + j.length ≤ sizeLine)) m
      exact .inr (.inl ⟨i, j, I.drop1.top.rep I.base, I.top.rep I.base, of_decide_eq_true h, out_sc m ⟨F, B, O, I.drop1.drop1⟩ rfl rfl⟩)
    | _ => exact m.elim
  | lst xs =>
    cases dt with
    | lst ys =>
      obtain ⟨h, m⟩ := out_grd (b := lft ms xs && lft mt ys && decide (xs.length + ys.length ≤ sizeLine)) m
      rw [Bool.and_eq_true, Bool.and_eq_true] at h
      obtain ⟨p1, vs, e1, g1, r1⟩ := I.drop1.top.list I.base
      obtain ⟨p2, ws, e2, g2, r2⟩ := I.top.list I.base
      have n1 := r1.len
      have n2 := r2.len
      refine .inr (.inr ⟨p1, p2, vs, ws, e1, e2, g1, g2, by rw [n1, n2]; exact of_decide_eq_true h.2, fun p np => m _ _ (I.drop1.drop1.new np ⟨_, rfl, ?_⟩)⟩)
      exact (lft_rep h.1.1 r1).app (lft_rep h.1.2 r2)
    | _ => exact m.elim
  | _ => cases dt <;> exact m.elim
theorem xe_add (ha : XE X J W a qa fa) (hb : XE X J W b qb fb) : XE X J W (.BinOp a .Add b pos) (qa && qb) (fTwo qb fa fb kAdd) := xe_op op_addA ok_add ha hb
theorem xe_sub (ha : XE X J W a qa fa) (hb : XE X J W b qb fb) : XE X J W (.BinOp a .Sub b pos) (qa && qb) (fTwo qb fa fb (kS (gI fun i j => i - j))) := xe_op op_sub ok_I ha hb
def cDiv (i j : Int) : Bool := decide (j ≠ 0) && decide (j.natAbs < 1073741824)
def cMod (i j : Int) : Bool := decide (j ≠ 0)
def cMul (i j : Int) : Bool := (decide (-(2 ^ 64) < i) && decide (i < 2 ^ 64)) || (decide (-(2 ^ 64) < j) && decide (j < 2 ^ 64))
theorem xe_fdiv (ha : XE X J W a qa fa) (hb : XE X J W b qb fb) : XE X J W (.BinOp a .FloorDiv b pos) (qa && qb) (fTwo qb fa fb (kS (gIc cDiv Int.fdiv))) :=
  xe_op op_fdivN (ok_Ic (C := CDivN) (c := cDiv) fun i j h => by
    have h : (decide (j ≠ 0) && decide (j.natAbs < 1073741824)) = true := h
    rw [Bool.and_eq_true] at h
    exact ⟨of_decide_eq_true h.1, of_decide_eq_true h.2⟩) ha hb
theorem xe_mod (ha : XE X J W a qa fa) (hb : XE X J W b qb fb) : XE X J W (.BinOp a .Mod b pos) (qa && qb) (fTwo qb fa fb (kS (gIc cMod Int.fmod))) :=
  xe_op op_modN (ok_Ic (c := cMod) fun i j h => of_decide_eq_true h) ha hb
def rMulA : R2 := fun x y H Q => (rI CMul fun i j => .int (i * j)) x y H Q ∨ rRep x y H Q
theorem op_mulA : OpR X (binaryOp .Mult) rMulA := op_mul.or op_rep
def cRep (n : Nat) (k : Int) : Bool := decide (-(2 ^ 63) ≤ k) && decide (k < 2 ^ 63) && decide (n * k.toNat ≤ sizeLine)
def kMul : K2 := fun s t ρ => match s.d, t.d with
  | .int i, .int j => grd (cMul i j) (.ok ⟨.shr, .int (i * j)⟩ ρ)
  | .lst xs, .int k => grd (lft s.m xs && cRep xs.length k) (.ok ⟨.own, .lst (List.replicate k.toNat xs).flatten⟩ ρ)
  | _, _ => .bad
theorem ok_mul : Ok2 J W rMulA kMul := by
  rintro ρ τ σ H ⟨ms, ds⟩ ⟨mt, dt⟩ v u Q ⟨F, B, O, I⟩ m
  cases ds with
  | int i =>
    cases dt with
    | int j =>
      obtain ⟨h, m⟩ := out_grd (b := cMul i j) m
      refine .inl ⟨i, j, I.drop1.top.rep I.base, I.top.rep I.base, ?_, out_sc m ⟨F, B, O, I.drop1.drop1⟩ rfl rfl⟩
      have h : ((decide (-(2 ^ 64) < i) && decide (i < 2 ^ 64)) || (decide (-(2 ^ 64) < j) && decide (j < 2 ^ 64))) = true := h
      rw [Bool.or_eq_true, Bool.and_eq_true, Bool.and_eq_true] at h
      exact h.imp (fun z => ⟨of_decide_eq_true z.1, of_decide_eq_true z.2⟩) fun z => ⟨of_decide_eq_true z.1, of_decide_eq_true z.2⟩
    | _ => exact m.elim
  | lst xs =>
    cases dt with
    | int k =>
      obtain ⟨h, m⟩ := out_grd (b := lft ms xs && cRep xs.length k) m
      rw [Bool.and_eq_true] at h
      have h2 : (decide (-(2 ^ 63) ≤ k) && decide (k < 2 ^ 63) && decide (xs.length * k.toNat ≤ sizeLine)) = true := h.2
      rw [Bool.and_eq_true, Bool.and_eq_true] at h2
      obtain ⟨p1, vs, e1, g1, r1⟩ := I.drop1.top.list I.base
      have hu : u = .int k := I.top.rep I.base
      have n1 := r1.len
      exact .inr ⟨p1, k, vs, e1, hu, g1, of_decide_eq_true h2.1.1, of_decide_eq_true h2.1.2, by rw [n1]; exact of_decide_eq_true h2.2, fun p np => m _ _ (I.drop1.drop1.new np ⟨_, rfl, (lft_rep h.1 r1).rep _⟩)⟩
    | _ => exact m.elim
  | _ => cases dt <;> exact m.elim
theorem xe_mul (ha : XE X J W a qa fa) (hb : XE X J W b qb fb) : XE X J W (.BinOp a .Mult b pos) (qa && qb) (fTwo qb fa fb kMul) := xe_op op_mulA ok_mul ha hb
abbrev bLt : Int → Int → Bool := fun i j => decide (i < j)
abbrev bLe : Int → Int → Bool := fun i j => decide (i ≤ j)
abbrev bGt : Int → Int → Bool := fun i j => decide (j < i)
abbrev bGe : Int → Int → Bool := fun i j => decide (j ≤ i)
mutual
def toD : Vl → PyData
  | .non => .none
  | .bl b => .bool b
  | .int i => .int i
  | .str s => .str s
  | .lst xs => .list (toDs xs)
  | .tup xs => .tuple (toDs xs)
  | .ins _ _ => .dict []
  | .scr _ => .dict []
  | .hole => .dict []
def toDs : List Vl → List PyData
  | [] => []
  | x :: xs => toD x :: toDs xs
end
mutual
theorem rep_dp {K : PySem.W.Frag} : ∀ {d : Vl} {v : V}, PyData.canLay0 (toD d) = true → Rep K H d v → Dp K H v (toD d)
  | .non, _, _, r => by cases r; exact .non
  | .bl b, _, _, r => by cases r; exact .bl b
  | .int i, _, _, r => by cases r; exact .int i
  | .str s, _, _, r => by cases r; exact .str s
  | .lst xs, _, h, ⟨p, vs, e, g, r⟩ => by subst e; exact .lst (SqL.of g) (reps_dp (by simpa [toD, PyData.canLay0] using h) r)
  | .tup xs, _, h, ⟨p, vs, e, g, r⟩ => by subst e; exact .tup (SqT.of g) (reps_dp (by simpa [toD, PyData.canLay0] using h) r)
  | .ins _ _, _, h, _ => by simp [toD, PyData.canLay0] at h
  | .scr _, _, h, _ => by simp [toD, PyData.canLay0] at h
  | .hole, _, h, _ => by simp [toD, PyData.canLay0] at h
theorem reps_dp {K : PySem.W.Frag} : ∀ {ds : List Vl} {vs : List V}, PyData.canLayAll0 (toDs ds) = true → RepL K H ds vs → DpAll K H vs (toDs ds)
  | [], _, _, r => by rw [show _ = [] from r]; exact .nil
  | d :: ds, _, h, ⟨v, t, e, r1, r2⟩ => by
    subst e
    have h' : PyData.canLay0 (toD d) = true ∧ PyData.canLayAll0 (toDs ds) = true := by simpa [toDs, PyData.canLayAll0] using h
    exact .cons (rep_dp h'.1 r1) (reps_dp h'.2 r2)
end
def veq (d e : Vl) : Bool := PyData.eqv (toD d) (toD e)
def cEq (d e : Vl) : Bool := SeqAt.shaped (toD d) && SeqAt.shaped (toD e)
def gEq (d e : Vl) : Option Vl := if cEq d e then some (.bl (veq d e)) else none
def gNe (d e : Vl) : Option Vl := if cEq d e then some (.bl (!veq d e)) else none
theorem ok_Eq (hK : J.K = X.K) : Ok2 J W (rEqD X.K) (kS gEq) := ok_S fun H d1 d2 d v1 v2 Q r1 r2 e q => by
  unfold gEq at e
  by_cases z : cEq d1 d2 = true
  · rw [if_pos z] at e
    cases e
    have z' : (SeqAt.shaped (toD d1) && SeqAt.shaped (toD d2)) = true := z
    rw [Bool.and_eq_true] at z'
    rw [hK] at r1 r2
    exact ⟨_, _, rep_dp (SeqAt.canLay_of_shaped z'.1) r1, rep_dp (SeqAt.canLay_of_shaped z'.2) r2, z'.1, z'.2, q _ rfl⟩
  · rw [if_neg z] at e; cases e
theorem ok_Ne (hK : J.K = X.K) : Ok2 J W (rNeD X.K) (kS gNe) := ok_S fun H d1 d2 d v1 v2 Q r1 r2 e q => by
  unfold gNe at e
  by_cases z : cEq d1 d2 = true
  · rw [if_pos z] at e
    cases e
    have z' : (SeqAt.shaped (toD d1) && SeqAt.shaped (toD d2)) = true := z
    rw [Bool.and_eq_true] at z'
    rw [hK] at r1 r2
    exact ⟨_, _, rep_dp (SeqAt.canLay_of_shaped z'.1) r1, rep_dp (SeqAt.canLay_of_shaped z'.2) r2, z'.1, z'.2, q _ rfl⟩
  · rw [if_neg z] at e; cases e
def eqF : Vl → Vl → Bool
  | .non, .non => true
  | .bl a, .bl b => a == b
  | .bl a, .int b => (if a then 1 else 0) == b
  | .int a, .bl b => a == (if b then 1 else 0)
  | .int a, .int b => a == b
  | .str a, .str b => a == b
  | _, _ => false
def rInA (K : PySem.W.Frag) (neg : Bool) : R2 := fun x y H Q => rIn K neg x y H Q ∨ ∃ i j, x = .str i ∧ y = .str j ∧ Q (.bl (if neg then !(!(Builtin.Str.occurrences j i 0 j.length 1).isEmpty) else (!(Builtin.Str.occurrences j i 0 j.length 1).isEmpty))) H
def inS (i j : Str) : Bool := !(Builtin.Str.occurrences j i 0 j.length 1).isEmpty
def gIn (neg : Bool) (d e : Vl) : Option Vl := match e with
  | .lst xs => if isSc d && xs.all isSc then some (.bl (if neg then !(xs.any fun y => eqF y d) else xs.any fun y => eqF y d)) else none
  | .tup xs => if isSc d && xs.all isSc then some (.bl (if neg then !(xs.any fun y => eqF y d) else xs.any fun y => eqF y d)) else none
  | .str j => (match d with
    | .str i => some (.bl (if neg then !inS i j else inS i j))
    | _ => none)
  | _ => none
theorem rep_flat {K : PySem.W.Frag} {d : Vl} {v : V} (r : Rep K H d v) (h : isSc d = true) : flatV v = true := by
  cases d with
  | non => rw [show v = .non from r]; rfl
  | bl b => rw [show v = .bl b from r]; rfl
  | int b => rw [show v = .int b from r]; rfl
  | str b => rw [show v = .str b from r]; rfl
  | _ => cases h
theorem rep_eqF {K : PySem.W.Frag} {d e : Vl} {v u : V} (r : Rep K H d v) (h : isSc d = true) (r' : Rep K H e u) (h' : isSc e = true) : eqV v u = eqF d e := by
  cases d with
  | non => rw [show v = .non from r]; cases e <;> first | (rw [show u = _ from r']; rfl) | cases h'
  | bl b => rw [show v = .bl b from r]; cases e <;> first | (rw [show u = _ from r']; rfl) | cases h'
  | int b => rw [show v = .int b from r]; cases e <;> first | (rw [show u = _ from r']; rfl) | cases h'
  | str b => rw [show v = .str b from r]; cases e <;> first | (rw [show u = _ from r']; rfl) | cases h'
  | _ => cases h
theorem rep_any {K : PySem.W.Frag} {d : Vl} {v : V} (r : Rep K H d v) (h : isSc d = true) : ∀ {xs : List Vl} {vs : List V}, RepL K H xs vs → xs.all isSc = true → vs.all flatV = true ∧ (vs.any fun y => eqV y v) = (xs.any fun y => eqF y d)
  | [], _, e, _ => by rw [show _ = [] from e]; exact ⟨rfl, rfl⟩
  | x :: xs, _, ⟨w, t, e, r1, r2⟩, z => by
    subst e
    rw [List.all_cons, Bool.and_eq_true] at z
    obtain ⟨i1, i2⟩ := rep_any r h r2 z.2
    refine ⟨by rw [List.all_cons, rep_flat r1 z.1, i1]; rfl, ?_⟩
    rw [List.any_cons, List.any_cons, rep_eqF r1 z.1 r h, i2]
theorem ok_In (hK : J.K = X.K) (neg : Bool) : Ok2 J W (rInA X.K neg) (kS (gIn neg)) := ok_S fun H d1 d2 d v1 v2 Q r1 r2 e q => by
  rw [hK] at r1 r2
  cases d2 with
  | lst xs =>
    have e' : (if isSc d1 && xs.all isSc then some (Vl.bl (if neg then !(xs.any fun y => eqF y d1) else xs.any fun y => eqF y d1)) else none) = some d := e
    by_cases z : (isSc d1 && xs.all isSc) = true
    · rw [if_pos z] at e'
      cases e'
      rw [Bool.and_eq_true] at z
      obtain ⟨p, vs, ev, g, r⟩ := r2
      obtain ⟨i1, i2⟩ := rep_any r1 z.1 r z.2
      exact .inl ⟨p, vs, ev, .inl (SqL.of g), rep_flat r1 z.1, i1, q _ (by show _ = _; unfold inV; rw [i2])⟩
    · rw [if_neg z] at e'; cases e'
  | tup xs =>
    have e' : (if isSc d1 && xs.all isSc then some (Vl.bl (if neg then !(xs.any fun y => eqF y d1) else xs.any fun y => eqF y d1)) else none) = some d := e
    by_cases z : (isSc d1 && xs.all isSc) = true
    · rw [if_pos z] at e'
      cases e'
      rw [Bool.and_eq_true] at z
      obtain ⟨p, vs, ev, g, r⟩ := r2
      obtain ⟨i1, i2⟩ := rep_any r1 z.1 r z.2
      exact .inl ⟨p, vs, ev, .inr (SqT.of g), rep_flat r1 z.1, i1, q _ (by show _ = _; unfold inV; rw [i2])⟩
    · rw [if_neg z] at e'; cases e'
  | str j =>
    cases d1 with
    | str i => cases e; exact .inr ⟨i, j, r1, r2, q _ rfl⟩
    | _ => cases e
  | _ => cases e
theorem op_notInA : OpR X (compareOp .NotIn) (rInA X.K true) := OpR.or op_notIn_seq op_notin_str
end
end MV
namespace MV
open PySem PySem.Spec PyProof.Rows L2
section
variable {X : Cx} {J : Jx} {W : WX} {e a b c : Expr} {es : List Expr} {q qa qb qc qr : Bool} {f fa fb fc : Sem1} {pos : Pos} {τ : List (Sv × V)} {σ : St} {H : Hp} {ρ : En}
theorem RepL.atI {K : PySem.W.Frag} {G : Hp} {xs : List Vl} {vs : List V} (r : RepL K G xs vs) {i : Int} {d : Vl} (h : atI xs i = some d) : ∃ v, L2.atI vs i = some v ∧ Rep K G d v := by
  unfold L2.atI at h ⊢
  rw [r.len]
  cases e : ixN xs.length i with
  | none => rw [e] at h; cases h
  | some j =>
    rw [e] at h
    obtain ⟨v, h1, h2⟩ := r.get (i := j) (x := d) h
    exact ⟨v, h1, h2⟩
def kIx : K2 := fun s t ρ => match s.d, t.d with
  | .lst xs, .int i => (match atI xs i with
    | some d => .ok (mk s.m.kid d) ρ
    | none => .bad)
  | .tup xs, .int i => (match atI xs i with
    | some d => .ok (mk s.m.kid d) ρ
    | none => .bad)
  | .str z, .int i => grd (decide (z.length ≤ sizeLine)) (match atI z.cps.toList i with
    | some c => .ok ⟨.shr, .str ⟨#[c]⟩⟩ ρ
    | none => .bad)
  | _, _ => .bad
theorem ok_ix : Ok2 J W (rIx X.K) kIx := by
  rintro ρ τ σ H ⟨ms, ds⟩ ⟨mt, dt⟩ v u Q ⟨F, B, O, I⟩ m
  cases ds with
  | lst xs =>
    cases dt with
    | int i =>
      have hu : u = .int i := I.top.rep I.base
      obtain ⟨p, vs, e1, g1, r1⟩ := I.drop1.top.list I.base
      have m : Out J W τ σ (match atI xs i with | some d => .ok (mk ms.kid d) ρ | none => .bad) Q := m
      cases z : atI xs i with
      | none => rw [z] at m; exact m.elim
      | some d =>
        rw [z] at m
        obtain ⟨w, h1, h2⟩ := r1.atI z
        exact .inl ⟨p, vs, i, w, e1, hu, SqL.of g1, h1, kid_out I.drop1.drop1 h2 m⟩
    | _ => exact m.elim
  | tup xs =>
    cases dt with
    | int i =>
      have hu : u = .int i := I.top.rep I.base
      obtain ⟨p, vs, e1, g1, r1⟩ := I.drop1.top.tup I.base
      have m : Out J W τ σ (match atI xs i with | some d => .ok (mk ms.kid d) ρ | none => .bad) Q := m
      cases z : atI xs i with
      | none => rw [z] at m; exact m.elim
      | some d =>
        rw [z] at m
        obtain ⟨w, h1, h2⟩ := r1.atI z
        exact .inr (.inl ⟨p, vs, i, w, e1, hu, SqT.of g1, h1, kid_out I.drop1.drop1 h2 m⟩)
    | _ => exact m.elim
  | str y =>
    cases dt with
    | int i =>
      have hu : u = .int i := I.top.rep I.base
      have hv : v = .str y := I.drop1.top.rep I.base
      obtain ⟨h, m⟩ := out_grd (b := decide (y.length ≤ sizeLine)) m
      cases z : atI y.cps.toList i with
      | none => rw [z] at m; exact m.elim
      | some d =>
        rw [z] at m
        exact .inr (.inr ⟨y, i, d, hv, hu, of_decide_eq_true h, z, out_sc m ⟨F, B, O, I.drop1.drop1⟩ rfl rfl⟩)
    | _ => exact m.elim
  | _ => cases dt <;> exact m.elim
theorem xe_idx (ha : XE X J W a qa fa) (hb : XE X J W b qb fb) (hs : PlainIx b := by exact (fun _ _ => rfl)) : XE X J W (.Subscript a b pos) (qa && qb) (fTwo qb fa fb kIx) := xe_ix ix_seq ok_ix ha hb hs
abbrev SemO := En → Rs (Option Int)
def OutO (J : Jx) (W : WX) (τ : List (Sv × V)) (σ : St) (r : Rs (Option Int)) (Q : Option Int → Hp → Prop) : Prop := match r with
  | .ok o ρ => ∀ H, Iv J ρ τ σ H → Q o H
  | .exc c fs ρ => ∀ cls d H, Ix J ρ c fs σ H cls d → W cls d σ H
  | .bad => False
def tO (J : Jx) (W : WX) (q : Bool) (f : SemO) : TO := fun σ H Q => ∃ ρ τ, Iv J ρ τ σ H ∧ (q = true ∨ NoTmp τ) ∧ OutO J W τ σ (f ρ) Q
structure XO (X : Cx) (J : Jx) (W : WX) (e : Option Expr) (q : Bool) (f : SemO) : Prop where
  po : PO X e (tO J W q f)
def fNoP : SemO := fun ρ => .ok none ρ
def kPart : Sv → En → Rs (Option Int) := fun s ρ => match s.d with
  | .int i => .ok (some i) ρ
  | _ => .bad
def fPart (fa : Sem1) : SemO := fun ρ => bnd (fa ρ) kPart
theorem xo_none : XO X J W none true fNoP := by
  refine ⟨⟨fun pins s σ H Q I h => (po_none (X := X)).run pins s σ H Q I ?_⟩⟩
  obtain ⟨ρ, τ, I, c, m⟩ := h
  exact m H I
theorem xo_some (ha : XE X J W a qa fa) : XO X J W (some a) qa (fPart fa) := by
  refine ⟨⟨fun pins s σ H Q I h => (po_some ha.pe).run pins s σ H Q I ?_⟩⟩
  obtain ⟨ρ, τ, I, c, m⟩ := h
  refine ⟨ρ, τ, I, c, ?_⟩
  unfold fPart at m
  cases e : fa ρ with
  | ok s ρ1 =>
    rw [e] at m
    rintro v H1 ⟨F, B, O, I1⟩
    have m : OutO J W τ σ (kPart s ρ1) Q := m
    obtain ⟨md, d⟩ := s
    cases d with
    | int x => exact ⟨x, I1.top.rep I1.base, m H1 ⟨F, B, O, I1.drop1⟩⟩
    | _ => exact m.elim
  | exc cc fs ρ1 => rw [e] at m; exact m
  | bad => rw [e] at m; exact m
def cutD {α : Type} (xs : List α) (lo hi : Option Int) : List α := (xs.drop (HT.sIx xs.length 0 lo)).take (HT.sIx xs.length xs.length hi - HT.sIx xs.length 0 lo)
theorem RepL.cut {K : PySem.W.Frag} {G : Hp} {xs : List Vl} {vs : List V} (r : RepL K G xs vs) (lo hi : Option Int) : RepL K G (cutD xs lo hi) (cutV vs lo hi) := by
  unfold cutD cutV
  rw [r.len]
  exact (r.drop _).take _
def kSl (s : Sv) (lo hi : Option Int) (ρ : En) : Rs Sv := match s.d with
  | .lst xs => grd (lft s.m xs) (.ok ⟨.own, .lst (cutD xs lo hi)⟩ ρ)
  | .scr ns => .ok ⟨.own, .lst (cutD (ns.map Vl.int) lo hi)⟩ ρ
  | .str z => grd (decide (z.length ≤ sizeLine)) (.ok ⟨.shr, .str (cutS z lo hi)⟩ ρ)
  | _ => .bad
def fSl (ql qh : Bool) (fa : Sem1) (fl fh : SemO) : Sem1 := fun ρ => bnd (fa ρ) fun s ρ1 => grd (held s.m (ql && qh)) (bnd (fl ρ1) fun l ρ2 => bnd (fh ρ2) fun h ρ3 => kSl s l h ρ3)
def rSlA (K : PySem.W.Frag) : V → Option Int → Option Int → Hp → VK → Prop := fun x lo hi H Q => rSlL K x lo hi H Q ∨ rSlS x lo hi H Q
theorem sl_A : SlR X (rSlA X.K) := sl_list.or sl_str
theorem sl_ok {s : Sv} {v : V} {lo hi : Option Int} {Q : VK} (hK : J.K = X.K) (I : Iv J ρ ((s, v) :: τ) σ H) (m : Out J W τ σ (kSl s lo hi ρ) Q) : rSlA X.K v lo hi H Q := by
  obtain ⟨F, B, O, I⟩ := I
  obtain ⟨md, d⟩ := s
  cases d with
  | lst xs =>
    obtain ⟨h, m⟩ := out_grd (b := lft md xs) m
    obtain ⟨p, vs, e, g, r⟩ := I.top.list I.base
    exact .inl ⟨p, vs, e, SqL.of g, fun y ny => m _ _ (I.drop1.new ny ⟨_, rfl, (lft_rep h r).cut lo hi⟩)⟩
  | scr ns =>
    obtain ⟨p, e, g⟩ := I.top.rep I.base
    exact .inl ⟨p, _, e, hK ▸ g, fun y ny => m _ _ (I.drop1.new ny ⟨_, rfl, (repL_of_ints ns).cut lo hi⟩)⟩
  | str z =>
    obtain ⟨h, m⟩ := out_grd (b := decide (z.length ≤ sizeLine)) m
    exact .inr ⟨z, I.top.rep I.base, of_decide_eq_true h, out_sc m ⟨F, B, O, I.drop1⟩ rfl rfl⟩
  | _ => exact m.elim
theorem xe_sl {lo hi : Option Expr} {ql qh : Bool} {fl fh : SemO} {p2 : Pos} (hK : J.K = X.K) (ha : XE X J W a qa fa) (hl : XO X J W lo ql fl) (hu : XO X J W hi qh fh) : XE X J W (.Subscript a (.Slice lo hi none p2) pos) (qa && (ql && qh)) (fSl ql qh fa fl fh) := by
  refine ⟨(pe_slice sl_A ha.pe hl.po hu.po).imp fun σ H Q h => ?_⟩
  obtain ⟨ρ, τ, I, c, m⟩ := h
  refine ⟨ρ, τ, I, (qand c).1, ?_⟩
  unfold fSl at m
  cases e : fa ρ with
  | ok s ρ1 =>
    rw [e] at m
    intro v H1 I1
    obtain ⟨m, hq⟩ := grd_out (s := s) (qb := ql && qh) m
    have c2 : (ql && qh) = true ∨ NoTmp ((s, v) :: τ) := by
      rcases c with z | z
      · exact .inl (Bool.and_eq_true_iff.mp z).2
      · exact hq.imp id fun y => z.cons y
    refine ⟨ρ1, _, I1, (qand c2).1, ?_⟩
    cases e2 : fl ρ1 with
    | ok l ρ2 =>
      rw [e2] at m
      intro H2 I2
      refine ⟨ρ2, _, I2, (qand c2).2, ?_⟩
      have m : Out J W τ σ (bnd (fh ρ2) fun h ρ3 => kSl s l h ρ3) Q := m
      cases e3 : fh ρ2 with
      | ok h ρ3 => rw [e3] at m; exact fun H3 I3 => sl_ok hK I3 m
      | exc cc fs ρ1 => rw [e3] at m; exact m
      | bad => rw [e3] at m; exact m
    | exc cc fs ρ1 => rw [e2] at m; exact m
    | bad => rw [e2] at m; exact m
  | exc cc fs ρ1 => rw [e] at m; exact m
  | bad => rw [e] at m; exact m
def fFrz (fa : Sem1) : Sem1 := fun ρ => bnd (fa ρ) fun s ρ1 => match s.m with
  | .own => .ok ⟨.shr, s.d⟩ ρ1
  | .shr => .ok s ρ1
  | _ => .bad
theorem xe_frz (ha : XE X J W a qa fa) : XE X J W a qa (fFrz fa) := by
  refine ⟨ha.pe.imp fun σ H Q h => ?_⟩
  obtain ⟨ρ, τ, I, c, m⟩ := h
  refine ⟨ρ, τ, I, c, ?_⟩
  unfold fFrz at m
  cases e : fa ρ with
  | ok s ρ1 =>
    rw [e] at m
    rintro v H1 ⟨F, B, O, I1⟩
    obtain ⟨md, d⟩ := s
    cases md with
    | own => exact m v H1 I1.frz
    | shr => exact m v H1 ⟨F, B, O, I1⟩
    | _ => exact m.elim
  | exc cc fs ρ1 => rw [e] at m; exact m
  | bad => rw [e] at m; exact m
inductive Ar where
  | ex (s : Sv)
  | sl (i : Nat)
def Stk (σ : St) : List Ar → List V → List (Sv × V) → List (Sv × V) → Prop
  | [], [], τ, τ' => τ' = τ
  | .ex s :: as, v :: vs, τ, τ' => Stk σ as vs ((s, v) :: τ) τ'
  | .sl i :: as, v :: vs, τ, τ' => σ[i]? = some (some v) ∧ Stk σ as vs τ τ'
  | _, _, _, _ => False
abbrev SemA := En → Rs (List Ar)
def OutA (J : Jx) (W : WX) (τ : List (Sv × V)) (σ : St) (r : Rs (List Ar)) (Q : List V → Hp → Prop) : Prop := match r with
  | .ok as ρ => ∀ vs τ' H, Stk σ as vs τ τ' → Iv J ρ τ' σ H → Q vs H
  | .exc c fs ρ => ∀ cls d H, Ix J ρ c fs σ H cls d → W cls d σ H
  | .bad => False
def tA (J : Jx) (W : WX) (q : Bool) (f : SemA) : TA := fun σ H Q => ∃ ρ τ, Iv J ρ τ σ H ∧ (q = true ∨ NoTmp τ) ∧ OutA J W τ σ (f ρ) Q
structure XA (X : Cx) (J : Jx) (W : WX) (es : List Expr) (q : Bool) (f : SemA) : Prop where
  pa : PA X es (tA J W q f)
theorem _root_.L2.PA.imp {X : Cx} {es : List Expr} {t t' : TA} (h : PA X es t) (i : ∀ σ H Q, t' σ H Q → t σ H Q) : PA X es t' := ⟨fun pos pins s σ H Q I q => h.run pos pins s σ H Q I (i σ H Q q)⟩
def aNil : SemA := fun ρ => .ok [] ρ
def aEx (fa : Sem1) (fr : SemA) : SemA := fun ρ => bnd (fa ρ) fun s ρ1 => grd (!s.m.isT) (bnd (fr ρ1) fun as ρ2 => .ok (.ex s :: as) ρ2)
def asg (ρ : En) (i : Nat) : Bool := match ρ[i]? with
  | some (some _) => true
  | _ => false
def aSl (i : Nat) (fr : SemA) : SemA := fun ρ => grd (asg ρ i) (bnd (fr ρ) fun as ρ2 => .ok (.sl i :: as) ρ2)
theorem xa_nil : XA X J W [] true aNil := ⟨pa_nil.imp fun σ H Q ⟨ρ, τ, I, c, m⟩ => m [] τ H rfl I⟩
theorem xa_ex {fr : SemA} (ha : XE X J W a qa fa) (hr : XA X J W es qr fr) (hs : starEach (a :: es) X.env = (false, eval a X.env) :: starEach es X.env := by rfl) : XA X J W (a :: es) (qa && qr) (aEx fa fr) := by
  refine ⟨(pa_cons ha.pe hr.pa hs).imp fun σ H Q h => ?_⟩
  obtain ⟨ρ, τ, I, c, m⟩ := h
  refine ⟨ρ, τ, I, (qand c).1, ?_⟩
  unfold aEx at m
  cases e : fa ρ with
  | ok s ρ1 =>
    rw [e] at m
    intro v H1 I1
    have m2 : OutA J W τ σ (bnd (fr ρ1) fun as ρ2 => .ok (.ex s :: as) ρ2) Q ∧ s.m ≠ .tmp := by
      obtain ⟨md, d⟩ := s
      cases md <;> first | exact m.elim | exact ⟨m, fun z => nomatch z⟩
    refine ⟨ρ1, _, I1, (qand c).2.imp id fun z => z.cons m2.2, ?_⟩
    have m := m2.1
    cases e2 : fr ρ1 with
    | ok as ρ2 => rw [e2] at m; exact fun vs τ' H2 k I2 => m (v :: vs) τ' H2 k I2
    | exc cc fs ρ1 => rw [e2] at m; exact m
    | bad => rw [e2] at m; exact m
  | exc cc fs ρ1 => rw [e] at m; exact m
  | bad => rw [e] at m; exact m
theorem xa_sl {fr : SemA} {i : Nat} {x : Str} {p : Pos} (hN : X.N[i]? = some x) (hv : Vis X.env.scope x) (hr : XA X J W es qr fr) (hs : starEach (.Name x p :: es) X.env = (false, eval (.Name x p) X.env) :: starEach es X.env := by rfl)
    (hd : (x == ("__debug__" : Str)) = false := by decide) (hcd : (x == ("__classdict__" : Str)) = false := by decide) : XA X J W (.Name x p :: es) qr (aSl i fr) := by
  refine ⟨(pa_cons (pe_var hN hv hd hcd) hr.pa hs).imp fun σ H Q h => ?_⟩
  obtain ⟨ρ, τ, ⟨F, B, O, I⟩, c, m⟩ := h
  unfold aSl asg at m
  cases e : ρ[i]? with
  | none => rw [e] at m; exact m.elim
  | some o =>
    cases o with
    | none => rw [e] at m; exact m.elim
    | some s =>
      rw [e] at m
      obtain ⟨_, v, e1, _⟩ := I.slot i s e
      refine ⟨v, e1, ρ, τ, ⟨F, B, O, I⟩, c, ?_⟩
      have m : OutA J W τ σ (bnd (fr ρ) fun as ρ2 => .ok (.sl i :: as) ρ2) Q := m
      cases e2 : fr ρ with
      | ok as ρ2 => rw [e2] at m; exact fun vs τ' H2 k I2 => m (v :: vs) τ' H2 ⟨e1, k⟩ I2
      | exc cc fs ρ1 => rw [e2] at m; exact m
      | bad => rw [e2] at m; exact m
def frzAll : List Ar → Option (List Vl)
  | [] => some []
  | .ex ⟨.shr, d⟩ :: as => (frzAll as).map (d :: ·)
  | _ => none
theorem frzAll_rep {F B : Hp} {O : Addr → Option Ow} : ∀ {as : List Ar} {ds : List Vl} {vs : List V} {τ τ' : List (Sv × V)}, frzAll as = some ds → Stk σ as vs τ τ' → IvW J F B O ρ τ' σ H → IvW J F B O ρ τ σ H ∧ RepL J.K F ds vs
  | [], _, [], _, _, e, k, I => by
    cases e
    rw [show _ = _ from k] at I
    exact ⟨I, rfl⟩
  | [], _, _ :: _, _, _, _, k, _ => k.elim
  | .ex ⟨.shr, d⟩ :: as, _, v :: vs, τ, τ', e, k, I => by
    have e' : (frzAll as).map (d :: ·) = some _ := e
    obtain ⟨ds, e1, e2⟩ := Option.map_eq_some_iff.mp e'
    subst e2
    obtain ⟨I1, r⟩ := frzAll_rep e1 (show Stk σ as vs ((⟨.shr, d⟩, v) :: τ) τ' from k) I
    exact ⟨I1.drop1, v, vs, rfl, I1.top, r⟩
  | .ex ⟨.shr, d⟩ :: as, _, [], _, _, _, k, _ => k.elim
  | .ex ⟨.own, d⟩ :: as, _, _, _, _, e, _, _ => by cases e
  | .ex ⟨.io, d⟩ :: as, _, _, _, _, e, _, _ => by cases e
  | .ex ⟨.tmp, d⟩ :: as, _, _, _, _, e, _, _ => by cases e
  | .ex ⟨.bor, d⟩ :: as, _, _, _, _, e, _, _ => by cases e
  | .sl i :: as, _, _, _, _, e, _, _ => by cases e
def kLst (as : List Ar) (ρ : En) : Rs Sv := match frzAll as with
  | some ds => grd (decide (ds.length ≤ 1000)) (.ok ⟨.own, .lst ds⟩ ρ)
  | none => .bad
def fLst (f : SemA) : Sem1 := fun ρ => bnd (f ρ) kLst
theorem thousand {n : Nat} (h : n ≤ 1000) : n ≤ sizeLine := Nat.le_trans h (by decide)
theorem xe_lst {f : SemA} (h : XA X J W es q f) : XE X J W (.List es pos) q (fLst f) := by
  refine ⟨(pe_lst h.pa).imp fun σ H Q h => ?_⟩
  obtain ⟨ρ, τ, I, c, m⟩ := h
  refine ⟨ρ, τ, I, c, ?_⟩
  unfold fLst at m
  cases e : f ρ with
  | ok as ρ1 =>
    rw [e] at m
    rintro vs τ' H1 k ⟨F, B, O, I1⟩
    have m : Out J W τ σ (kLst as ρ1) Q := m
    unfold kLst at m
    cases z : frzAll as with
    | none => rw [z] at m; exact m.elim
    | some ds =>
      rw [z] at m
      obtain ⟨h, m⟩ := out_grd (b := decide (ds.length ≤ 1000)) m
      obtain ⟨I2, r⟩ := frzAll_rep z k I1
      exact ⟨by rw [r.len]; exact thousand (of_decide_eq_true h), fun p np => m _ _ (I2.new np ⟨_, rfl, r⟩)⟩
  | exc cc fs ρ1 => rw [e] at m; exact m
  | bad => rw [e] at m; exact m
theorem xe_bi1 {x : Str} {id : String} {r : List V → Hp → VK → Prop} {k : K1} {p : Pos} (hc : CallR X (.builtin id) r) (hk : Ok1 J W (fun v => r [v]) k) (hg : Gl X x) (hm : X.mg x = none) (hv : bootBuiltins x = some (.builtin id)) (ha : XE X J W a qa fa)
    (hn : x ≠ "__name__" := by decide) (hdb : (x == ("__debug__" : Str)) = false := by decide) (he : starEach [a] X.env = (false, eval a X.env) :: starEach [] X.env := by rfl) (hpl : (backTo pos (starEach [] X.env)).any (·.1) = false := by rfl) : XE X J W (.Call (.Name x p) [a] [] pos) qa (fOne fa k) :=
  ⟨(pe_callB hc hg hm hv (pa_cons ha.pe pa_nil he) hn hdb he hpl).imp fun σ H Q h => tE_one (fun _ _ _ _ _ I _ _ _ o h => o _ _ _ _ _ _ _ I h) hk h⟩
theorem xe_ty1 {x : Str} {T : String} {r : List V → Hp → VK → Prop} {k : K1} {p : Pos} (hc : CallR X (.type T) r) (hk : Ok1 J W (fun v => r [v]) k) (hg : Gl X x) (hm : X.mg x = none) (hv : bootBuiltins x = some (.type T)) (ha : XE X J W a qa fa)
    (hn : x ≠ "__name__" := by decide) (hdb : (x == ("__debug__" : Str)) = false := by decide) (he : starEach [a] X.env = (false, eval a X.env) :: starEach [] X.env := by rfl) (hpl : (backTo pos (starEach [] X.env)).any (·.1) = false := by rfl) : XE X J W (.Call (.Name x p) [a] [] pos) qa (fOne fa k) :=
  ⟨(pe_callTy hc hg hm hv (pa_cons ha.pe pa_nil he) hn hdb he hpl).imp fun σ H Q h => tE_one (fun _ _ _ _ _ I _ _ _ o h => o _ _ _ _ _ _ _ I h) hk h⟩
def gLen : Vl → Option Vl
  | .lst xs => some (.int xs.length)
  | .tup xs => some (.int xs.length)
  | .str s => if s.length ≤ sizeLine then some (.int s.length) else none
  | _ => none
theorem ok_len : Ok1 J W (fun v H Q => ∃ x n, [v] = [x] ∧ LenV X.K x H n ∧ Q (.int n) H) (kS1 gLen) := ok_S1 fun H d1 d v Q r e q => by
  cases d1 with
  | lst xs =>
    cases e
    obtain ⟨p, vs, e, g, r⟩ := r
    subst e
    exact ⟨_, vs.length, rfl, .inl ⟨vs, SqL.of g, rfl⟩, q _ (by rw [r.len]; rfl)⟩
  | tup xs =>
    cases e
    obtain ⟨p, vs, e, g, r⟩ := r
    subst e
    exact ⟨_, vs.length, rfl, .inr ⟨vs, SqT.of g, rfl⟩, q _ (by rw [r.len]; rfl)⟩
  | str s =>
    have e' : (if s.length ≤ sizeLine then some (Vl.int s.length) else none) = some d := e
    by_cases z : s.length ≤ sizeLine
    · rw [if_pos z] at e'
      cases e'
      have hv : v = .str s := r
      subst hv
      exact ⟨_, s.length, rfl, ⟨z, rfl⟩, q _ rfl⟩
    · rw [if_neg z] at e'; cases e'
  | _ => cases e
def gInt : Vl → Option Vl
  | .int i => some (.int i)
  | .bl b => some (.int (if b then 1 else 0))
  | _ => none
theorem ok_int : Ok1 J W (fun v H Q => (∃ i, [v] = [V.int i] ∧ Q (.int i) H) ∨ ∃ k, [v] = [V.bl k] ∧ Q (.int (if k then 1 else 0)) H) (kS1 gInt) := ok_S1 fun H d1 d v Q r e q => by
  cases d1 with
  | int i => cases e; exact .inl ⟨i, by rw [show v = .int i from r], q _ rfl⟩
  | bl i => cases e; exact .inr ⟨i, by rw [show v = .bl i from r], q _ rfl⟩
  | _ => cases e
def gAbs : Vl → Option Vl
  | .int i => some (.int (if i < 0 then -i else i))
  | _ => none
theorem ok_abs : Ok1 J W (fun v H Q => ∃ i, [v] = [V.int i] ∧ Q (.int (if i < 0 then -i else i)) H) (kS1 gAbs) := ok_S1 fun H d1 d v Q r e q => by
  cases d1 with
  | int i => cases e; exact ⟨i, by rw [show v = .int i from r], q _ rfl⟩
  | _ => cases e
def maxL : List Int → Int
  | [] => 0
  | [n] => n
  | n :: ns => max n (maxL ns)
theorem maxL_cons (n : Int) (ns : List Int) (h : ns ≠ []) : maxL (n :: ns) = max n (maxL ns) := by
  cases ns with
  | nil => exact absurd rfl h
  | cons _ _ => rfl
theorem maxL_mem : ∀ {ns : List Int}, ns ≠ [] → maxL ns ∈ ns ∧ ∀ n ∈ ns, n ≤ maxL ns
  | [], h => absurd rfl h
  | [n], _ => ⟨List.mem_singleton.mpr rfl, fun m hm => by rw [List.mem_singleton.mp hm]; exact Int.le_refl _⟩
  | n :: m :: ns, _ => by
    obtain ⟨h1, h2⟩ := maxL_mem (ns := m :: ns) (List.cons_ne_nil _ _)
    rw [maxL_cons _ _ (List.cons_ne_nil _ _)]
    refine ⟨?_, fun k hk => ?_⟩
    · rcases Int.le_total n (maxL (m :: ns)) with h | h
      · rw [Int.max_eq_right h]; exact List.mem_cons_of_mem _ h1
      · rw [Int.max_eq_left h]; exact List.mem_cons_self
    · rcases List.mem_cons.mp hk with e | e
      · rw [e]; exact Int.le_max_left _ _
      · exact Int.le_trans (h2 k e) (Int.le_max_right _ _)
def kTupOf : K1 := fun s ρ => match s.d with
  | .lst xs => grd (lft s.m xs) (.ok ⟨.shr, .tup xs⟩ ρ)
  | .tup xs => (match s.m with
    | .shr => .ok ⟨.shr, .tup xs⟩ ρ
    | _ => .bad)
  | _ => .bad
theorem ok_tupOf : Ok1 J W (fun v H Q => ∃ p ys, [v] = [V.ref p] ∧ ((SqL X.K H p ys ∧ ∀ l, H l = none → Q (.ref l) (upd H l (.tup ys))) ∨ (SqT X.K H p ys ∧ Q (.ref p) H))) kTupOf := by
  rintro ρ τ σ H ⟨md, d⟩ v Q ⟨F, B, O, I⟩ m
  cases d with
  | lst xs =>
    obtain ⟨h, m⟩ := out_grd (b := lft md xs) m
    obtain ⟨p, vs, e, g, r⟩ := I.top.list I.base
    exact ⟨p, vs, by rw [e], .inl ⟨SqL.of g, fun l nl => m _ _ (I.drop1.newF nl ⟨l, vs, rfl, upd_same, (lft_rep h r).mono (upd_sub (I.base.freeF (I.base.freeB nl)))⟩)⟩⟩
  | tup xs =>
    cases md with
    | shr =>
      obtain ⟨p, vs, e, g, r⟩ := I.top.tup I.base
      have t := I.top
      subst e
      exact ⟨p, vs, rfl, .inr ⟨SqT.of g, m _ _ ⟨F, B, O, I.base, I.len, I.slot, t, I.drop1.temp⟩⟩⟩
    | _ => exact m.elim
  | _ => exact m.elim
end
end MV
namespace MV
open PySem PySem.Spec PyProof.Rows L2
inductive Sr where
  | next (ρ : En)
  | brk (ρ : En)
  | cont (ρ : En)
  | ret (s : Sv) (ρ : En)
  | exc (c : Str) (fs : List (Str × Vl)) (ρ : En)
  | bad
abbrev SemS := En → Sr
def bndS {α : Type} (r : Rs α) (k : α → En → Sr) : Sr := match r with
  | .ok a ρ => k a ρ
  | .exc c fs ρ => .exc c fs ρ
  | .bad => .bad
def grdS (b : Bool) (r : Sr) : Sr := match b with
  | true => r
  | false => .bad
def OutS (J : Jx) (W : WX) (τ : List (Sv × V)) (r : Sr) (D : Ends) : Prop := match r with
  | .next ρ => ∀ σ H, Iv J ρ τ σ H → D.nx σ H
  | .brk ρ => ∀ σ H, Iv J ρ τ σ H → D.bk σ H
  | .cont ρ => ∀ σ H, Iv J ρ τ σ H → D.ct σ H
  | .ret s ρ => ∀ v σ H, Iv J ρ ((s, v) :: τ) σ H → D.rt v H
  | .exc c fs ρ => ∀ cls d σ H, Ix J ρ c fs σ H cls d → W cls d σ H
  | .bad => False
def tS (J : Jx) (W : WX) (f : SemS) : TS := fun D σ H => ∃ ρ τ, Iv J ρ τ σ H ∧ NoTmp τ ∧ OutS J W τ (f ρ) D
structure XS (X : Cx) (J : Jx) (W : WX) (st : Stmt) (f : SemS) : Prop where
  ps : PS X st (tS J W f)
structure XB (X : Cx) (J : Jx) (W : WX) (sts : List Stmt) (f : SemS) : Prop where
  pss : PSs X sts (tS J W f)
theorem _root_.L2.PS.imp {X : Cx} {e : Stmt} {t t' : TS} (h : PS X e t) (i : ∀ σ H Q, t' Q σ H → t Q σ H) : PS X e t' := ⟨fun pins s σ H Q I q => h.run pins s σ H Q I (i σ H Q q)⟩
theorem _root_.L2.PSs.imp {X : Cx} {e : List Stmt} {t t' : TS} (h : PSs X e t) (i : ∀ σ H Q, t' Q σ H → t Q σ H) : PSs X e t' := ⟨fun pins s σ H Q I q => h.run pins s σ H Q I (i σ H Q q)⟩
theorem outS_grd {J : Jx} {W : WX} {τ : List (Sv × V)} {b : Bool} {r : Sr} {D : Ends} (m : OutS J W τ (grdS b r) D) : b = true ∧ OutS J W τ r D := by
  cases b with
  | true => exact ⟨rfl, m⟩
  | false => exact m.elim
section
variable {X : Cx} {J : Jx} {W : WX} {e a b c : Expr} {es : List Expr} {st : Stmt} {sts body orelse : List Stmt} {q qa qb qc qr : Bool} {fa fb fc : Sem1} {f g : SemS} {gc : SemB} {pos : Pos} {τ : List (Sv × V)} {σ : St} {H : Hp} {ρ : En}
theorem outS_bnd {r : Rs Sv} {k : Sv → En → Sr} {D : Ends} {Q : VK} (m : OutS J W τ (bndS r k) D) (h : ∀ s ρ1, OutS J W τ (k s ρ1) D → ∀ v H1, Iv J ρ1 ((s, v) :: τ) σ H1 → Q v H1) : Out J W τ σ r Q := by
  cases r with
  | ok s ρ1 => exact fun v H1 I1 => h s ρ1 m v H1 I1
  | exc c fs ρ1 => exact fun cls d H1 => m cls d σ H1
  | bad => exact m
theorem outS_bndB {r : Rs Bool} {k : Bool → En → Sr} {D : Ends} {Q : Bool → Hp → Prop} (m : OutS J W τ (bndS r k) D) (h : ∀ s ρ1, OutS J W τ (k s ρ1) D → ∀ H1, Iv J ρ1 τ σ H1 → Q s H1) : OutB J W τ σ r Q := by
  cases r with
  | ok s ρ1 => exact fun H1 I1 => h s ρ1 m H1 I1
  | exc c fs ρ1 => exact fun cls d H1 => m cls d σ H1
  | bad => exact m
def sNil : SemS := fun ρ => .next ρ
def sSeq (f g : SemS) : SemS := fun ρ => match f ρ with
  | .next ρ1 => g ρ1
  | r => r
theorem xb_nil : XB X J W [] sNil := ⟨pss_nil.imp fun σ H D ⟨ρ, τ, I, c, m⟩ => m σ H I⟩
theorem xb_cons (h1 : XS X J W st f) (h2 : XB X J W sts g) : XB X J W (st :: sts) (sSeq f g) := by
  refine ⟨(pss_cons h1.ps h2.pss).imp fun σ H D h => ?_⟩
  obtain ⟨ρ, τ, I, c, m⟩ := h
  refine ⟨ρ, τ, I, c, ?_⟩
  unfold sSeq at m
  cases e : f ρ with
  | next ρ1 => rw [e] at m; exact fun σ1 H1 I1 => ⟨ρ1, τ, I1, c, m⟩
  | brk ρ1 => rw [e] at m; exact m
  | cont ρ1 => rw [e] at m; exact m
  | ret s ρ1 => rw [e] at m; exact m
  | exc cc fs ρ1 => rw [e] at m; exact m
  | bad => rw [e] at m; exact m
theorem xb_one (h1 : XS X J W st f) : XB X J W [st] f := ⟨pss_one h1.ps⟩
def sExpr (fa : Sem1) : SemS := fun ρ => bndS (fa ρ) fun _ ρ1 => .next ρ1
theorem xs_expr (ha : XE X J W a qa fa) (hs : swapsWith a none pos.line X.env = pure false := by rfl) : XS X J W (.Expr a pos) (sExpr fa) := by
  refine ⟨(ps_expr ha.pe hs).imp fun σ H D h => ?_⟩
  obtain ⟨ρ, τ, I, c, m⟩ := h
  exact ⟨ρ, τ, I, .inr c, outS_bnd m fun s ρ1 m1 v H1 I1 => m1 σ H1 I1.drop1⟩
def sRet (fa : Sem1) : SemS := fun ρ => bndS (fa ρ) fun s ρ1 => .ret s ρ1
theorem xs_ret (ha : XE X J W a qa fa) : XS X J W (.Return (some a) pos) (sRet fa) := by
  refine ⟨(ps_ret ha.pe).imp fun σ H D h => ?_⟩
  obtain ⟨ρ, τ, I, c, m⟩ := h
  exact ⟨ρ, τ, I, .inr c, outS_bnd m fun s ρ1 m1 v H1 I1 => m1 v σ H1 I1⟩
def sIf (gc : SemB) (f g : SemS) : SemS := fun ρ => bndS (gc ρ) fun x ρ1 => match x with
  | true => f ρ1
  | false => g ρ1
theorem xs_if (hc : XT X J W c qc gc) (hf : XB X J W body f) (hg : XB X J W orelse g) : XS X J W (.If c body orelse pos) (sIf gc f g) := by
  refine ⟨(ps_if hc.pt hf.pss hg.pss).imp fun σ H D h => ?_⟩
  obtain ⟨ρ, τ, I, cc, m⟩ := h
  refine ⟨ρ, τ, I, .inr cc, outS_bndB m fun x ρ1 m1 H1 I1 => ?_⟩
  cases x with
  | true => rw [if_pos rfl]; exact ⟨ρ1, τ, I1, cc, m1⟩
  | false => rw [if_neg Bool.false_ne_true]; exact ⟨ρ1, τ, I1, cc, m1⟩
def noIo (ρ : En) (i : Nat) : Bool := match ρ[i]? with
  | some (some ⟨.io, _⟩) => false
  | _ => true
def sto (m : Md) : Bool := match m with
  | .own => true
  | .bor => true
  | .shr => true
  | _ => false
theorem SR.reown {F B H : Hp} {O : Addr → Option Ow} {k k' : Nat} {s : Sv} {v : V} (h : SR J F B H O (.inr k) s v) : ∃ O' : Addr → Option Ow, SR J F B H O' (.inr k') s v ∧ ∀ a ow, O a = some ow → ow ≠ .inr k → O' a = some ow := by
  obtain ⟨m, d⟩ := s
  cases m with
  | own =>
    obtain ⟨p, o, ev, g, r, qo, n, z⟩ := h
    refine ⟨fun b => if b = p then some (.inr k') else O b, ⟨p, o, ev, g, r, if_pos rfl, n, z⟩, fun a ow e h1 => ?_⟩
    by_cases c : a = p
    · subst c; rw [qo] at e; exact absurd (Option.some.inj e).symm h1
    · exact (if_neg c).trans e
  | io =>
    obtain ⟨p, o, ev, g, r, qo, n, i, z, _⟩ := h
    cases z
  | tmp => exact ⟨O, h, fun a ow e _ => e⟩
  | bor => exact ⟨O, h, fun a ow e _ => e⟩
  | shr => exact ⟨O, h, fun a ow e _ => e⟩
theorem SR.move {F B H : Hp} {O O' : Addr → Option Ow} {ow : Ow} {s : Sv} {v : V} {k : Nat} (h : SR J F B H O ow s v) (no : ow ≠ .inr k) (f : ∀ a ow, O a = some ow → ow ≠ .inr k → O' a = some ow) : SR J F B H O' ow s v := by
  obtain ⟨m, d⟩ := s
  cases m with
  | own => obtain ⟨p, o, ev, g, r, qo, z⟩ := h; exact ⟨p, o, ev, g, r, f _ _ qo no, z⟩
  | io => obtain ⟨p, o, ev, g, r, qo, z⟩ := h; exact ⟨p, o, ev, g, r, f _ _ qo no, z⟩
  | tmp => obtain ⟨p, o, ev, g, r, i, qo⟩ := h; exact ⟨p, o, ev, g, r, i, f _ _ qo (fun z => nomatch z)⟩
  | bor => exact h
  | shr => exact h
theorem Iv.store {i : Nat} {s : Sv} {v : V} (nf : NF J i) (I : Iv J ρ ((s, v) :: τ) σ H) (h : sto s.m = true) : Iv J (ρ.set i (some s)) τ (σ.set i (some v)) H := by
  obtain ⟨F, B, O, I⟩ := I
  have nio : s.m ≠ .io := fun y => by rw [y] at h; cases h
  have ntm : s.m ≠ .tmp := fun y => by rw [y] at h; cases h
  -- the owner is now the slot
  have own : ∃ O' : Addr → Option Ow, SR J F B H O' (.inl i) s v ∧ ∀ a ow, O a = some ow → ow ≠ .inr τ.length → O' a = some ow := by
    have t := I.top
    obtain ⟨md, d⟩ := s
    cases md with
    | own =>
      obtain ⟨p, o, ev, g, r, qo, n, z⟩ := t
      refine ⟨fun b => if b = p then some (.inl i) else O b, ⟨p, o, ev, g, r, if_pos rfl, n, z⟩, fun a ow e h1 => ?_⟩
      by_cases c : a = p
      · subst c; rw [qo] at e; exact absurd (Option.some.inj e).symm h1
      · exact (if_neg c).trans e
    | io => exact absurd rfl nio
    | tmp => exact absurd rfl ntm
    | bor => exact ⟨O, t, fun _ _ e _ => e⟩
    | shr => exact ⟨O, t, fun _ _ e _ => e⟩
  obtain ⟨O', r', ho⟩ := own
  refine ⟨F, B, O', I.base, I.len.set2 nf, fun j s2 e2 => ?_, ?_⟩
  · by_cases hj : i = j
    · subst hj
      by_cases hl : i < ρ.length
      · rw [List.getElem?_set_self hl] at e2
        cases e2
        exact ⟨ntm, v, List.getElem?_set_self (by rw [← I.len.eq]; exact hl), r'⟩
      · rw [List.getElem?_eq_none (by simpa using hl)] at e2; cases e2
    · rw [List.getElem?_set_ne hj] at e2
      obtain ⟨t2, v2, e3, r2⟩ := I.slot j s2 e2
      exact ⟨t2, v2, by rw [List.getElem?_set_ne hj]; exact e3, r2.move (fun y => nomatch y) ho⟩
  · exact I.drop1.temp.imp fun s v k hm hk h => h.move (fun y => Nat.ne_of_lt hk (Sum.inr.inj y)) ho
def stS (i : Nat) (s : Sv) (ρ : En) : Sr := grdS (noIo ρ i && sto s.m) (.next (ρ.set i (some s)))
def sAsg (i : Nat) (fa : Sem1) : SemS := fun ρ => bndS (fa ρ) (stS i)
theorem stS_ok {i : Nat} {s : Sv} {v : V} {D : Ends} (nf : NF J i) (m : OutS J W τ (stS i s ρ) D) (I : Iv J ρ ((s, v) :: τ) σ H) : D.nx (σ.set i (some v)) H := by
  obtain ⟨h, m⟩ := outS_grd m
  rw [Bool.and_eq_true] at h
  exact m _ _ (Iv.store nf I h.2)
theorem xs_asg {i : Nat} {x : Str} {p : Pos} (hN : X.N.Nodup) (hi : X.N[i]? = some x) (hx : Loc X.env.scope x) (ha : XE X J W a qa fa) (hs : swapsWith a (some (.Name x p)) pos.line X.env = pure false := by rfl) (hf : X.fn x = true ∨ X.env.scope.names.lookup x = some .local := by first | exact .inl rfl | exact .inr rfl | assumption) (nf : NF J i := by first | exact nf_none (by assumption) | exact nf_ne (by assumption) rfl) :
    XS X J W (.Assign [.Name x p] a pos) (sAsg i fa) := by
  refine ⟨(ps_set hN hi hx ha.pe hs hf).imp fun σ H D h => ?_⟩
  obtain ⟨ρ, τ, I, c, m⟩ := h
  exact ⟨ρ, τ, I, .inr c, outS_bnd m fun s ρ1 m1 v H1 I1 => stS_ok nf m1 I1⟩
def frzR (i : Nat) (ρ : En) : Option En := match ρ[i]? with
  | some (some ⟨.own, d⟩) => some (ρ.set i (some ⟨.shr, d⟩))
  | some (some ⟨.shr, _⟩) => some ρ
  | _ => none
def sFz (i : Nat) (f : SemS) : SemS := fun ρ => match frzR i ρ with
  | some ρ1 => f ρ1
  | none => .bad
theorem frzR_ok {i : Nat} {ρ1 : En} (h : frzR i ρ = some ρ1) (I : Iv J ρ τ σ H) : Iv J ρ1 τ σ H := by
  obtain ⟨F, B, O, I⟩ := I
  unfold frzR at h
  cases e : ρ[i]? with
  | none => rw [e] at h; cases h
  | some o =>
    cases o with
    | none => rw [e] at h; cases h
    | some s =>
      obtain ⟨md, d⟩ := s
      rw [e] at h
      cases md with
      | own => cases h; exact I.frzS e
      | shr => cases h; exact ⟨F, B, O, I⟩
      | _ => cases h
theorem xs_fz {i : Nat} (h : XS X J W st f) : XS X J W st (sFz i f) := by
  refine ⟨h.ps.imp fun σ H D h => ?_⟩
  obtain ⟨ρ, τ, I, c, m⟩ := h
  unfold sFz at m
  cases e : frzR i ρ with
  | none => rw [e] at m; exact m.elim
  | some ρ1 => rw [e] at m; exact ⟨ρ1, τ, frzR_ok e I, c, m⟩
def kIS (k : Int → En → Sr) : Sv → En → Sr := fun s ρ => match s.d with
  | .int i => k i ρ
  | _ => .bad
theorem IvW.mut {F B : Hp} {O : Addr → Option Ow} {i : Nat} {m : Md} {d : Vl} (I : IvW J F B O ρ τ σ H) (nt : NoTmp τ) (h : ρ[i]? = some (some ⟨m, d⟩)) (hm : m = .own ∨ m = .io) :
    ∃ a o, σ[i]? = some (some (.ref a)) ∧ H a = some o ∧ OwnO J.K F d o ∧ ∀ d' o', OwnO J.K F d' o' → IvW J F B O (ρ.set i (some ⟨m, d'⟩)) τ σ (upd H a o') := by
  obtain ⟨t, v, e1, r⟩ := I.slot i _ h
  have r' : ∃ a o, v = .ref a ∧ H a = some o ∧ OwnO J.K F d o ∧ O a = some (.inl i) ∧ B a = none ∧ (m = .own → J.H0 a = none) ∧ (m = .io → ∃ j, (Sum.inl i : Ow) = .inl j ∧ J.ios.lookup j = some a) := by
    rcases hm with e | e
    · subst e
      obtain ⟨a, o, e, g, r, q, n, z⟩ := r
      exact ⟨a, o, e, g, r, q, n, (fun _ => z), (fun y => nomatch y)⟩
    · subst e
      obtain ⟨a, o, e, g, r, q, n, z⟩ := r
      obtain ⟨i2, z1, z2⟩ := z
      exact ⟨a, o, e, g, r, q, n, (fun y => nomatch y), (fun _ => ⟨i2, z1, z2⟩)⟩
  obtain ⟨a, o, ev, g, ro, q, n, z1, z2⟩ := r'
  subst ev
  refine ⟨a, o, e1, g, ro, fun d' o' rn => ?_⟩
  have nF := I.base.freeF n
  have keep : ∀ (ow : Ow) s v, ow ≠ .inl i → s.m ≠ .tmp → SR J F B H O ow s v → SR J F B (upd H a o') O ow s v := fun ow s v no nt h => by
    have ne : ∀ b, O b = some ow → b ≠ a := fun b y x => by subst x; rw [q] at y; exact no (Option.some.inj y).symm
    obtain ⟨md, d⟩ := s
    cases md with
    | shr => exact h
    | bor => exact h
    | tmp => exact absurd rfl nt
    | own => obtain ⟨b, u, e, g, r, q, z⟩ := h; exact ⟨b, u, e, by rw [upd_ne (ne b q)]; exact g, r, q, z⟩
    | io => obtain ⟨b, u, e, g, r, q, z⟩ := h; exact ⟨b, u, e, by rw [upd_ne (ne b q)]; exact g, r, q, z⟩
  refine ⟨⟨I.base.fb, fun b u e => ?_, I.base.f0, I.base.new, fun b u e y => ?_, fun b y => ?_⟩, I.len.set, fun j s2 e2 => ?_, ?_⟩
  · rw [upd_ne (ne_of_none e n)]; exact I.base.bh b u e
  · have ne : b ≠ a := fun x => by
      subst x
      rcases hm with x | x
      · rw [z1 x] at e; cases e
      · obtain ⟨_, _, q⟩ := z2 x; exact y (lookup_io q)
    rw [upd_ne ne]; exact I.base.keep b u e y
  · by_cases x : b = a
    · subst x; exact ⟨o', upd_same⟩
    · rw [upd_ne x]; exact I.base.iot b y
  · by_cases hj : i = j
    · subst hj
      have hl : i < ρ.length := (List.getElem?_eq_some_iff.mp h).1
      rw [List.getElem?_set_self hl] at e2
      cases e2
      refine ⟨t, _, e1, ?_⟩
      rcases hm with e | e
      · subst e; exact ⟨a, o', rfl, upd_same, rn, q, n, z1 rfl⟩
      · subst e; exact ⟨a, o', rfl, upd_same, rn, q, n, z2 rfl⟩
    · rw [List.getElem?_set_ne hj] at e2
      obtain ⟨t2, v2, e3, r2⟩ := I.slot j s2 e2
      exact ⟨t2, v2, e3, keep _ _ _ (fun y => hj (Sum.inl.inj y).symm) t2 r2⟩
  · exact I.temp.imp fun s v k hk _ h => keep _ _ _ (fun y => nomatch y) (nt _ hk) h
def mutb (m : Md) : Bool := match m with
  | .own => true
  | .io => true
  | _ => false
theorem mutb_or {m : Md} (h : mutb m = true) : m = .own ∨ m = .io := by
  cases m <;> first | exact .inl rfl | exact .inr rfl | cases h
def isL (ρ : En) (i : Nat) : Bool := match ρ[i]? with
  | some (some ⟨m, .lst _⟩) => true
  | _ => false
def onL (i : Nat) (k : List Vl → Option (Vl × List Vl)) (ρ : En) : Rs Sv := match ρ[i]? with
  | some (some ⟨m, .lst xs⟩) => grd (mutb m) (match k xs with
    | some (d, ys) => .ok (mk .shr d) (ρ.set i (some ⟨m, .lst ys⟩))
    | none => .bad)
  | _ => .bad
theorem onL_ok {F B : Hp} {O : Addr → Option Ow} {i : Nat} {k : List Vl → Option (Vl × List Vl)} {Q : VK} (I : IvW J F B O ρ τ σ H) (nt : NoTmp τ) (m : Out J W τ σ (onL i k ρ) Q) :
    ∃ a vs xs d ys, σ[i]? = some (some (.ref a)) ∧ H a = some (.lst vs) ∧ RepL J.K F xs vs ∧ k xs = some (d, ys) ∧ ∀ ws v, RepL J.K F ys ws → Rep J.K F d v → Q v (upd H a (.lst ws)) := by
  unfold onL at m
  cases e : ρ[i]? with
  | none => rw [e] at m; exact m.elim
  | some o =>
    cases o with
    | none => rw [e] at m; exact m.elim
    | some s =>
      obtain ⟨md, d⟩ := s
      rw [e] at m
      cases d with
      | lst xs =>
        obtain ⟨h, m⟩ := out_grd (b := mutb md) m
        obtain ⟨a, o, e1, g, ⟨vs, eo, r⟩, nw⟩ := I.mut nt e (mutb_or h)
        subst eo
        cases z : k xs with
        | none => rw [z] at m; exact m.elim
        | some p =>
          obtain ⟨d, ys⟩ := p
          rw [z] at m
          refine ⟨a, vs, xs, d, ys, e1, g, r, z, fun ws v rw' rd => ?_⟩
          have I2 := nw (.lst ys) (.lst ws) ⟨ws, rfl, rw'⟩
          have m : Out J W τ σ (.ok (mk .shr d) (ρ.set i (some ⟨md, .lst ys⟩))) Q := m
          exact m v _ (I2.push ((show SR J F B (upd H a (.lst ws)) O (.inr τ.length) ⟨.shr, d⟩ v from rd).mk I2.base))
      | _ => exact m.elim
theorem isL_ok {F B : Hp} {O : Addr → Option Ow} {i : Nat} (I : IvW J F B O ρ τ σ H) (h : isL ρ i = true) : ∃ a vs, σ[i]? = some (some (.ref a)) ∧ H a = some (.lst vs) := by
  unfold isL at h
  cases e : ρ[i]? with
  | none => rw [e] at h; cases h
  | some o =>
    cases o with
    | none => rw [e] at h; cases h
    | some s =>
      obtain ⟨md, d⟩ := s
      rw [e] at h
      cases d with
      | lst xs =>
        obtain ⟨_, v, e1, r⟩ := I.slot i _ e
        obtain ⟨a, vs, ev, g, _⟩ := r.list I.base
        subst ev
        exact ⟨a, vs, e1, g⟩
      | _ => cases h
def kApp (d : Vl) (xs : List Vl) : Option (Vl × List Vl) := if xs.length < sizeLine then some (.non, xs ++ [d]) else none
def isShr : Md → Bool
  | .shr => true
  | _ => false
def fApp (i : Nat) (fa : Sem1) : Sem1 := fun ρ => grd (isL ρ i) (bnd (fa ρ) fun s ρ1 => grd (isShr s.m) (onL i (kApp s.d) ρ1))
theorem xe_app {i : Nat} {x : Str} {px apos : Pos} (hN : X.N[i]? = some x) (hv : Vis X.env.scope x) (ha : XE X J W a qa fa) (hd : (x == ("__debug__" : Str)) = false := by decide) (hcd : (x == ("__classdict__" : Str)) = false := by decide)
    (hst : starEach [a] X.env = (false, eval a X.env) :: starEach [] X.env := by rfl) (hpe : PE X (.Call (.Attribute (.Name x px) "append" apos) [a] [] pos) (tBM X.K "list" rAppend (tVar i) (tCons (tE J W qa fa) tNil)) := by exact (pe_bm PySem.F.plainAttrs_list PySem.F.slot_list_append PySem.F.type_list_append mt_append (pe_var (by assumption) (by assumption)) (pa_cons (XE.pe (by assumption)) pa_nil))) :
    XE X J W (.Call (.Attribute (.Name x px) "append" apos) [a] [] pos) false (fApp i fa) := by
  refine ⟨hpe.imp fun σ H Q h => ?_⟩
  obtain ⟨ρ, τ, ⟨F, B, O, I⟩, c, m⟩ := h
  have nt : NoTmp τ := c.elim (fun z => nomatch z) id
  obtain ⟨h, m⟩ := out_grd (b := isL ρ i) m
  obtain ⟨p, vs, e1, g⟩ := isL_ok I h
  refine ⟨.ref p, e1, .inl ⟨rfl, _, SqL.of g⟩, ρ, τ, ⟨F, B, O, I⟩, .inr nt, ?_⟩
  cases e : fa ρ with
  | ok s ρ1 =>
    rw [e] at m
    rintro v H1 ⟨F1, B1, O1, I1⟩
    obtain ⟨h2, m⟩ := out_grd (b := isShr s.m) m
    obtain ⟨md, d⟩ := s
    cases md with
    | shr =>
      obtain ⟨p2, vs2, xs, d2, ys, e2, g2, r, k, f⟩ := onL_ok I1.drop1 nt m
      rw [e1] at e2
      cases e2
      have k' : (if xs.length < sizeLine then some (Vl.non, xs ++ [d]) else none) = some (d2, ys) := k
      by_cases z : xs.length < sizeLine
      · rw [if_pos z] at k'
        cases k'
        exact ⟨p, vs2, v, rfl, rfl, g2, by rw [r.len]; exact z, f _ .non (r.app (.cons I1.top .nil)) rfl⟩
      · rw [if_neg z] at k'; cases k'
    | _ => cases h2
  | exc cc fs ρ1 => rw [e] at m; exact m
  | bad => rw [e] at m; exact m
def kSet (k : Int) (d : Vl) (xs : List Vl) : Option (Vl × List Vl) := (ixN xs.length k).map fun j => (.non, xs.set j d)
def sSet (i : Nat) (fk fv : Sem1) : SemS := fun ρ => bndS (fv ρ) fun s ρ1 => grdS (isShr s.m && isL ρ1 i) (bndS (fk ρ1) (kIS fun k ρ2 => match onL i (kSet k s.d) ρ2 with
  | .ok _ ρ3 => .next ρ3
  | _ => .bad))
theorem xs_set {i : Nat} {x : Str} {p ps' : Pos} (hN : X.N[i]? = some x) (hv : Vis X.env.scope x) (hb : XE X J W b qb fb) (ha : XE X J W a qa fa) (hd : (x == ("__debug__" : Str)) = false := by decide) (hcd : (x == ("__classdict__" : Str)) = false := by decide)
    (has : ∀ v, assign (.Subscript (.Name x p) b ps') X.env v = (do
      let ov ← holding [v] (eval (.Name x p) X.env)
      let iv ← holding [v, ov] (eval b X.env)
      standAt ps'
      holding [v, ov, iv] (setItem ov iv v)
      release [v, ov, iv] []) := by intro _; rfl)
    (hs : swapsWithSole [.Subscript (.Name x p) b ps'] a pos.line X.env = pure false := by rfl) (hw : swappedStores [.Subscript (.Name x p) b ps'] a X.env = pure none := by rfl)
    (h1 : (assignEach [.Subscript (.Name x p) b ps'] X.env).map (·.2) = [assign (.Subscript (.Name x p) b ps') X.env] := by rfl) :
    XS X J W (.Assign [.Subscript (.Name x p) b ps'] a pos) (sSet i fb fa) := by
  refine ⟨(ps_asg ha.pe (pg_sub (pe_var hN hv hd hcd) hb.pe set_list has) hs hw h1).imp fun σ H D h => ?_⟩
  obtain ⟨ρ, τ, I, c, m⟩ := h
  refine ⟨ρ, τ, I, .inr c, outS_bnd m fun s ρ1 m1 v H1 ⟨F, B, O, I1⟩ => ?_⟩
  obtain ⟨h, m1⟩ := outS_grd m1
  rw [Bool.and_eq_true] at h
  obtain ⟨md, d⟩ := s
  cases md with
  | shr =>
    obtain ⟨p1, vs, e1, g⟩ := isL_ok I1 h.2
    refine ⟨.ref p1, e1, ρ1, _, ⟨F, B, O, I1⟩, .inr (c.cons (fun z => nomatch z)), ?_⟩
    cases e : fb ρ1 with
    | ok t ρ2 =>
      rw [e] at m1
      rintro u H2 ⟨F2, B2, O2, I2⟩
      obtain ⟨mt, dt⟩ := t
      cases dt with
      | int k =>
        have hu : u = .int k := I2.top.rep I2.base
        have m1 : OutS J W τ (match onL i (kSet k d) ρ2 with | .ok _ ρ3 => .next ρ3 | _ => .bad) D := m1
        have rd : Rep J.K F2 d v := I2.drop1.top
        have mm : Out J W τ σ (onL i (kSet k d) ρ2) (fun _ H => D.nx σ H) := by
          cases z : onL i (kSet k d) ρ2 with
          | ok _ ρ3 => rw [z] at m1; exact fun v H I => m1 σ H I.drop1
          | exc cc fs ρ1 => rw [z] at m1; exact m1.elim
          | bad => rw [z] at m1; exact m1.elim
        obtain ⟨p2, vs2, xs, d2, ys, e2, g2, r, kk, f⟩ := onL_ok I2.drop1.drop1 c mm
        rw [e1] at e2
        cases e2
        obtain ⟨j, j1, j2⟩ := Option.map_eq_some_iff.mp (show (ixN xs.length k).map _ = some (d2, ys) from kk)
        cases j2
        exact ⟨p1, vs2, k, j, rfl, hu, g2, by rw [r.len]; exact j1, f _ .non (r.set rd j) rfl⟩
      | _ => exact m1.elim
    | exc cc fs ρ1 => rw [e] at m1; exact fun cls d H => m1 cls d σ H
    | bad => rw [e] at m1; exact m1
  | _ => cases h.1
end
end MV
namespace MV
open PySem PySem.Spec PyProof.Rows L2
section
variable {X : Cx} {J : Jx} {W : WX} {e a b c tg iter elt : Expr} {es : List Expr} {st : Stmt} {sts body orelse : List Stmt} {q qa qb qc qr qe : Bool} {fa fb fc : Sem1} {f g : SemS} {gc : SemB} {pos : Pos} {τ τ1 : List (Sv × V)} {σ : St} {H : Hp} {ρ : En}
theorem TOk.below {F B H : Hp} {O : Addr → Option Ow} : ∀ {l τ : List (Sv × V)}, TOk J F B H O (l ++ τ) → TOk J F B H O τ
  | [], _, h => h
  | x :: l, _, h => TOk.below (l := l) h.2
theorem Iv.under {s : Sv} {v : V} {l : List (Sv × V)} (I : Iv J ρ ((s, v) :: (l ++ τ)) σ H) : Iv J ρ ((s, v) :: τ) σ H := by
  obtain ⟨F, B, O, I⟩ := I
  obtain ⟨O', r, ho⟩ := I.top.reown (k' := τ.length)
  refine ⟨F, B, O', I.base, I.len, fun i s e => ?_, r, ?_⟩
  · obtain ⟨t, v, e1, h⟩ := I.slot i s e
    exact ⟨t, v, e1, h.move (fun z => nomatch z) ho⟩
  · refine (TOk.below I.drop1.temp).imp fun s v k _ hk h => h.move (fun z => ?_) ho
    have := Sum.inr.inj z
    rw [List.length_append] at this
    omega
theorem Iv.dropL {l : List (Sv × V)} (I : Iv J ρ (l ++ τ) σ H) : Iv J ρ τ σ H := by
  obtain ⟨F, B, O, I⟩ := I
  exact ⟨F, B, O, I.base, I.len, I.slot, TOk.below I.temp⟩
structure Wk (J : Jx) (τ : List (Sv × V)) (items : List Sv) (I : It) : Prop where
  go : ∀ pre k ρ σ H, k < items.length → Iv J ρ (pre ++ τ) σ H → I.go k H
  stop : ∀ pre k ρ σ H, items.length ≤ k → Iv J ρ (pre ++ τ) σ H → I.stop k H
  yld : ∀ pre k s ρ σ H x H', items[k]? = some s → Iv J ρ (pre ++ τ) σ H → I.yld k H x H' → Iv J ρ ((s, x) :: (pre ++ τ)) σ H'
abbrev SemI := En → Rs (Bool × List Sv)
def OutI (J : Jx) (W : WX) (τ : List (Sv × V)) (σ : St) (r : Rs (Bool × List Sv)) (R : It → Hp → Prop) : Prop := match r with
  | .ok items ρ => ∀ l I H, Iv J ρ (l ++ τ) σ H → Wk J (l ++ τ) items.2 I → (items.1 = true → NoTmp l) → R I H
  | .exc c fs ρ => ∀ cls d H, Ix J ρ c fs σ H cls d → W cls d σ H
  | .bad => False
def tI (J : Jx) (W : WX) (q : Bool) (f : SemI) : TI := fun σ H R => ∃ ρ τ, Iv J ρ τ σ H ∧ (q = true ∨ NoTmp τ) ∧ OutI J W τ σ (f ρ) R
structure XI (X : Cx) (J : Jx) (W : WX) (tg iter : Expr) (q : Bool) (f : SemI) : Prop where
  pi : PI X tg iter (tI J W q f)
theorem _root_.L2.PI.imp {X : Cx} {tg e : Expr} {t t' : TI} (h : PI X tg e t) (i : ∀ σ H Q, t' σ H Q → t σ H Q) : PI X tg e t' := ⟨fun pins s σ H Q I q => h.run pins s σ H Q I (i σ H Q q)⟩
def kItL : Sv → En → Rs (Bool × List Sv) := fun s ρ => match s.d with
  | .lst xs => .ok (!s.m.isT, xs.map (mk s.m.kid)) ρ
  | _ => .bad
def iSrc (fa : Sem1) (k : Sv → En → Rs (Bool × List Sv)) : SemI := fun ρ => bnd (fa ρ) k
theorem outI_bnd {α : Type} {r : Rs Sv} {k : Sv → En → Rs (Bool × List Sv)} {R : It → Hp → Prop} {Q : VK} (m : OutI J W τ σ (bnd r k) R) (h : ∀ s ρ1, OutI J W τ σ (k s ρ1) R → ∀ v H1, Iv J ρ1 ((s, v) :: τ) σ H1 → Q v H1) : Out J W τ σ r Q := by
  cases r with
  | ok s ρ1 => exact fun v H1 I1 => h s ρ1 m v H1 I1
  | exc c fs ρ1 => exact m
  | bad => exact m
theorem cv_list {K : PySem.W.Frag} {R : It → Hp → Prop} (h : tI J W qa (iSrc fa kItL) σ H R) : iList K (tE J W qa fa) σ H R := by
  obtain ⟨ρ, τ, I, c, m⟩ := h
  refine ⟨ρ, τ, I, c, outI_bnd (α := Unit) m fun s ρ1 m1 v H1 ⟨F, B, O, I1⟩ => ?_⟩
  obtain ⟨md, d⟩ := s
  cases d with
  | lst xs =>
    obtain ⟨p, vs, ev, g, r⟩ := I1.top.list I1.base
    subst ev
    refine ⟨p, rfl, ⟨vs, SqL.of g⟩, m1 [(⟨md, .lst xs⟩, .ref p)] _ _ ⟨F, B, O, I1⟩ ⟨fun pre k ρ σ H hk I => ?_, fun pre k ρ σ H hk I => ?_, fun pre k s ρ σ H x H' hs I hy => ?_⟩ ?_⟩
    · obtain ⟨F, B, O, I⟩ := I
      obtain ⟨p', vs, ev, g, r⟩ := SR.list I.base (show SR J F B H O _ ⟨md, .lst xs⟩ (.ref p) from (TOk.below (l := pre) I.temp).1)
      cases ev
      rw [List.length_map] at hk
      exact ⟨vs, vs[k]'(by rw [r.len]; exact hk), SqL.of g, by simp⟩
    · obtain ⟨F, B, O, I⟩ := I
      obtain ⟨p', vs, ev, g, r⟩ := SR.list I.base (show SR J F B H O _ ⟨md, .lst xs⟩ (.ref p) from (TOk.below (l := pre) I.temp).1)
      cases ev
      rw [List.length_map] at hk
      exact ⟨vs, SqL.of g, by rw [r.len]; exact hk⟩
    · obtain ⟨F, B, O, I⟩ := I
      obtain ⟨p', vs, ev, g, r⟩ := SR.list I.base (show SR J F B H O _ ⟨md, .lst xs⟩ (.ref p) from (TOk.below (l := pre) I.temp).1)
      cases ev
      obtain ⟨e1, y⟩ := hy
      subst e1
      rw [List.getElem?_map] at hs
      obtain ⟨d, hd, es⟩ := Option.map_eq_some_iff.mp hs
      subst es
      obtain ⟨w, hw, rw'⟩ := r.get hd
      have hx := y vs (SqL.of g)
      rw [hw] at hx
      cases hx
      exact I.push ((reg_kid rw' _).mk I.base)
    · intro z x hx
      rw [List.mem_singleton.mp hx]
      intro y
      have y : md = .tmp := y
      subst y
      cases z
  | _ => exact m1.elim
theorem xi_list (ha : XE X J W iter qa fa) : XI X J W tg iter qa (iSrc fa kItL) := ⟨(pi_list ha.pe).imp fun σ H R h => cv_list h⟩
def rngI (lo c : Int) (n : Nat) : List Sv := (List.range n).map fun (k : Nat) => ⟨.shr, .int (lo + (k : Int) * c)⟩
def c62 (i : Int) : Bool := decide (-(2 ^ 62) ≤ i) && decide (i < 2 ^ 62)
theorem c62_ok {i : Int} (h : c62 i = true) : -(2 ^ 62) ≤ i ∧ i < 2 ^ 62 := by
  have h' : (decide (-(2 ^ 62) ≤ i) && decide (i < 2 ^ 62)) = true := h
  rw [Bool.and_eq_true] at h'
  exact ⟨of_decide_eq_true h'.1, of_decide_eq_true h'.2⟩
theorem wk_rng {lo c : Int} {n : Nat} {I : It} (hg : ∀ k H, k < n → I.go k H) (hs : ∀ k H, n ≤ k → I.stop k H) (hy : ∀ k H x H', I.yld k H x H' → H' = H ∧ x = .int (lo + (k : Int) * c)) : Wk J τ (rngI lo c n) I := by
  have len : (rngI lo c n).length = n := by unfold rngI; rw [List.length_map, List.length_range]
  refine ⟨fun pre k ρ σ H hk _ => hg k H (by rw [len] at hk; exact hk), fun pre k ρ σ H hk _ => hs k H (by rw [len] at hk; exact hk), fun pre k s ρ σ H x H' e I y => ?_⟩
  obtain ⟨e1, e2⟩ := hy k H x H' y
  subst e1 e2
  obtain ⟨F, B, O, I⟩ := I
  unfold rngI at e
  rw [List.getElem?_map] at e
  obtain ⟨j, hj, es⟩ := Option.map_eq_some_iff.mp e
  have : j = k := by
    have hk := (List.getElem?_eq_some_iff.mp hj)
    obtain ⟨h1, h2⟩ := hk
    rw [List.getElem_range] at h2
    exact h2.symm
  subst this
  subst es
  exact I.push (s := ⟨.shr, .int (lo + (j : Int) * c)⟩) rfl
def kII (k : Int → En → Rs (Bool × List Sv)) : Sv → En → Rs (Bool × List Sv) := fun s ρ => match s.d with
  | .int i => k i ρ
  | _ => .bad
theorem tE_intI {k : Int → En → Rs (Bool × List Sv)} {Q : VK} {R : It → Hp → Prop} (I : Iv J ρ τ σ H) (c : q = true ∨ NoTmp τ) (m : OutI J W τ σ (bnd (fa ρ) (kII k)) R)
    (h : ∀ i ρ1 H1, Iv J ρ1 τ σ H1 → OutI J W τ σ (k i ρ1) R → Q (.int i) H1) : tE J W q fa σ H Q := by
  refine ⟨ρ, τ, I, c, outI_bnd (α := Unit) m fun s ρ1 m1 v H1 ⟨F, B, O, I1⟩ => ?_⟩
  obtain ⟨md, d⟩ := s
  cases d with
  | int x =>
    have hv : v = .int x := I1.top.rep I1.base
    subst hv
    exact h x ρ1 H1 ⟨F, B, O, I1.drop1⟩ m1
  | _ => exact m1.elim
theorem outI_grd {b : Bool} {r : Rs (Bool × List Sv)} {R : It → Hp → Prop} (m : OutI J W τ σ (grd b r) R) : b = true ∧ OutI J W τ σ r R := by
  cases b with
  | true => exact ⟨rfl, m⟩
  | false => exact m.elim
def iR1 (fa : Sem1) : SemI := fun ρ => bnd (fa ρ) (kII fun j ρ1 => grd (c62 j) (.ok (true, rngI 0 1 j.toNat) ρ1))
theorem xi_r1 {p : Pos} (hg : Gl X "range") (hm : X.mg "range" = none) (ha : XE X J W a qa fa) (hs : starEach [a] X.env = (false, eval a X.env) :: starEach [] X.env := by rfl) (hs2 : starEach [a] X.env = [(false, eval a X.env)] := by rfl) : XI X J W tg (.Call (.Name "range" p) [a] [] pos) qa (iR1 fa) := by
  refine ⟨(pi_range1 hg hm (pa_cons ha.pe pa_nil hs) hs2).imp fun σ H R h => ?_⟩
  obtain ⟨ρ, τ, I, c, m⟩ := h
  refine tE_intI I c m fun j ρ1 H1 I1 m1 => ?_
  obtain ⟨z, m1⟩ := outI_grd m1
  obtain ⟨b1, b2⟩ := c62_ok z
  exact ⟨j, rfl, b1, b2, m1 [] _ _ I1 (wk_rng (fun k H h => h) (fun k H h => h) fun k H x H' y => ⟨y.1, by rw [y.2, Int.mul_one]⟩) (fun _ x hx => absurd hx (by simp))⟩
def iR2 (fa fb : Sem1) : SemI := fun ρ => bnd (fa ρ) (kII fun i ρ1 => bnd (fb ρ1) (kII fun j ρ2 => grd (c62 i && c62 j) (.ok (true, rngI i 1 (j - i).toNat) ρ2)))
theorem xi_r2 {p : Pos} (hg : Gl X "range") (hm : X.mg "range" = none) (ha : XE X J W a qa fa) (hb : XE X J W b qb fb) (he : starEach [a, b] X.env = (false, eval a X.env) :: starEach [b] X.env := by rfl) (he2 : starEach [b] X.env = (false, eval b X.env) :: starEach [] X.env := by rfl)
    (hs : starEach [a, b] X.env = [(false, eval a X.env), (false, eval b X.env)] := by rfl) (hs2 : starEach [b] X.env = [(false, eval b X.env)] := by rfl) : XI X J W tg (.Call (.Name "range" p) [a, b] [] pos) (qa && qb) (iR2 fa fb) := by
  refine ⟨(pi_range2 hg hm (pa_cons ha.pe (pa_cons hb.pe pa_nil he2) he) hs hs2).imp fun σ H R h => ?_⟩
  obtain ⟨ρ, τ, I, c, m⟩ := h
  refine tE_intI I (qand c).1 m fun i ρ1 H1 I1 m1 => tE_intI I1 (qand c).2 m1 fun j ρ2 H2 I2 m2 => ?_
  obtain ⟨z, m2⟩ := outI_grd m2
  rw [Bool.and_eq_true] at z
  obtain ⟨b1, b2⟩ := c62_ok z.1
  obtain ⟨b3, b4⟩ := c62_ok z.2
  exact ⟨i, j, rfl, ⟨b1, b2, b3, b4⟩, m2 [] _ _ I2 (wk_rng (fun k H h => h) (fun k H h => h) fun k H x H' y => ⟨y.1, by rw [y.2, Int.mul_one]⟩) (fun _ x hx => absurd hx (by simp))⟩
abbrev SemG := Sv → En → Option En
def tG (J : Jx) (ix : List Nat) (f : SemG) : TG := fun v σ H Q => ∃ s ρ τ, Iv J ρ ((s, v) :: τ) σ H ∧ match f s ρ with
  | some ρ1 => ∀ σ' H', Iv J ρ1 τ σ' H' → (∀ vs, (∀ i ∈ ix, i ∈ vs) → wipe σ' vs = wipe σ vs) → Q σ' H'
  | none => False
structure XG (X : Cx) (J : Jx) (tg : Expr) (ix : List Nat) (f : SemG) : Prop where
  pg : PG X tg (tG J ix f)
theorem wipe_set {σ : St} {i : Nat} {x : Option V} : ∀ {vs : List Nat}, i ∈ vs → wipe (σ.set i x) vs = wipe σ vs
  | [], h => by simp at h
  | v :: vs, h => by
    unfold wipe
    by_cases e : i = v
    · subst e
      by_cases h2 : i ∈ vs
      · rw [wipe_set h2]
      · have : ∀ (ws : List Nat) (σ : St), i ∉ ws → wipe (σ.set i x) ws = (wipe σ ws).set i x := by
          intro ws
          induction ws with
          | nil => intro σ _; rfl
          | cons w ws ih =>
            intro σ hn
            have hn' : ¬ (i = w) ∧ i ∉ ws := by simpa using hn
            show (wipe (σ.set i x) ws).set w none = ((wipe σ ws).set w none).set i x
            rw [ih σ hn'.2, List.set_comm _ _ hn'.1]
        rw [this vs σ h2, List.set_set]
    · have h2 : i ∈ vs := by
        rcases List.mem_cons.mp h with z | z
        · exact absurd z e
        · exact z
      rw [wipe_set h2]
def gNm (i : Nat) : SemG := fun s ρ => match noIo ρ i && sto s.m with
  | true => some (ρ.set i (some s))
  | false => none
theorem xg_name {i : Nat} {x : Str} {p : Pos} (hN : X.N.Nodup) (hi : X.N[i]? = some x) (hx : Loc X.env.scope x) (hf : X.fn x = true ∨ X.env.scope.names.lookup x = some .local := by first | exact .inl rfl | exact .inr rfl | assumption) (nf : NF J i := by first | exact nf_none (by assumption) | exact nf_ne (by assumption) rfl) : XG X J (.Name x p) [i] (gNm i) := by
  refine ⟨⟨fun pins s0 σ H v u Q I0 r h => (pg_name (X := X) hN hi hx hf).run pins s0 σ H v u Q I0 r ?_⟩⟩
  obtain ⟨s, ρ, τ, I, m⟩ := h
  unfold gNm at m
  cases z : noIo ρ i && sto s.m with
  | true =>
    rw [z] at m
    rw [Bool.and_eq_true] at z
    exact m _ _ (Iv.store nf I z.2) fun vs hv => wipe_set (hv i (List.mem_singleton.mpr rfl))
  | false => rw [z] at m; exact m.elim
def loopL (tgt : SemG) (body : SemS) : List Sv → En → Sr
  | [], ρ => .next ρ
  | x :: xs, ρ => match tgt x ρ with
    | some ρ1 => (match body ρ1 with
      | .next ρ2 => loopL tgt body xs ρ2
      | .cont ρ2 => loopL tgt body xs ρ2
      | .brk ρ2 => .next ρ2
      | r => r)
    | none => .bad
def sFor (src : SemI) (tgt : SemG) (body : SemS) : SemS := fun ρ => bndS (src ρ) fun items ρ1 => grdS items.1 (loopL tgt body items.2 ρ1)
theorem NoTmp.app {l : List (Sv × V)} (h : NoTmp l) (h' : NoTmp τ) : NoTmp (l ++ τ) := fun x hx => (List.mem_append.mp hx).elim (h x) (h' x)
theorem xs_for {tb : SemS} {src : SemI} {tgt : SemG} {ix : List Nat} (hp : PassesOwn (model X.prog X.w) X.A X.env X.xe) (hc : X.calm = true) (hi : XI X J W tg iter q src) (hg : XG X J tg ix tgt) (hb : XB X J W body tb)
    (hs : ∀ x, foldedSetIterable iter X.env x = pure x := by intro _; rfl) : XS X J W (.For tg iter body [] pos) (sFor src tgt tb) := by
  refine ⟨(ps_for hp hc hi.pi hg.pg hb.pss hs).imp fun σ H D h => ?_⟩
  obtain ⟨ρ, τ, I, c, m⟩ := h
  refine ⟨ρ, τ, I, .inr c, ?_⟩
  unfold sFor at m
  cases e : src ρ with
  | ok its ρ1 =>
    rw [e] at m
    intro l J1 H1 I1 w nl
    obtain ⟨nt, m⟩ := outS_grd m
    have ntt := (nl nt).app c
    obtain ⟨nb, items⟩ := its
    have m : OutS J W τ (loopL tgt tb items ρ1) D := m
    have w : Wk J (l ++ τ) items J1 := w
    refine ⟨fun k n σ H => n = items.length - k ∧ k ≤ items.length ∧ ∃ ρ', Iv J ρ' (l ++ τ) σ H ∧ OutS J W τ (loopL tgt tb (items.drop k) ρ') D, ⟨items.length, by simp, Nat.zero_le _, ρ1, I1, by simpa using m⟩, ?_⟩
    rintro k n σ H ⟨rfl, hk, ρ', I', m'⟩
    by_cases hlt : k < items.length
    · refine .inr ⟨w.go [] k ρ' σ H hlt I', fun σ' H' => ∃ ρ'', Iv J ρ'' (l ++ τ) σ' H' ∧ OutS J W τ (loopL tgt tb (items.drop (k + 1)) ρ'') D, fun σ' H' ⟨ρ'', a1, a2⟩ => ⟨items.length - (k + 1), by omega, rfl, hlt, ρ'', a1, a2⟩, fun x H' y => ?_⟩
      have hs : items[k]? = some items[k] := by simp [hlt]
      rw [List.drop_eq_getElem_cons hlt] at m'
      refine ⟨items[k], ρ', l ++ τ, w.yld [] k _ ρ' σ H x H' hs I' y, ?_⟩
      have m' : OutS J W τ (match tgt items[k] ρ' with
        | some ρ1 => (match tb ρ1 with
          | .next ρ2 => loopL tgt tb (items.drop (k + 1)) ρ2
          | .cont ρ2 => loopL tgt tb (items.drop (k + 1)) ρ2
          | .brk ρ2 => .next ρ2
          | r => r)
        | none => .bad) D := m'
      cases z : tgt items[k] ρ' with
      | none => rw [z] at m'; exact m'.elim
      | some ρ3 =>
        rw [z] at m'
        intro σ3 H3 I3 _
        refine ⟨ρ3, l ++ τ, I3, ntt, ?_⟩
        have m' : OutS J W τ (match tb ρ3 with
          | .next ρ2 => loopL tgt tb (items.drop (k + 1)) ρ2
          | .cont ρ2 => loopL tgt tb (items.drop (k + 1)) ρ2
          | .brk ρ2 => .next ρ2
          | r => r) D := m'
        cases zz : tb ρ3 with
        | next ρ4 => rw [zz] at m'; exact fun σ4 H4 I4 => ⟨ρ4, I4, m'⟩
        | cont ρ4 => rw [zz] at m'; exact fun σ4 H4 I4 => ⟨ρ4, I4, m'⟩
        | brk ρ4 => rw [zz] at m'; exact fun σ4 H4 I4 => m' σ4 H4 I4.dropL
        | ret s ρ4 => rw [zz] at m'; exact fun v σ4 H4 I4 => m' v σ4 H4 I4.under
        | exc cc fs ρ4 => rw [zz] at m'; exact m'
        | bad => rw [zz] at m'; exact m'
    · have ek : k = items.length := by omega
      subst ek
      rw [List.drop_length] at m'
      exact .inl ⟨w.stop [] _ ρ' σ H (Nat.le_refl _) I', m' σ H I'.dropL⟩
  | exc cc fs ρ1 => rw [e] at m; exact fun cls d H => m cls d σ H
  | bad => rw [e] at m; exact m
def loopW (c : SemB) (body : SemS) : Nat → En → Sr
  | 0, _ => .bad
  | n + 1, ρ => bndS (c ρ) fun b ρ1 => match b with
    | true => (match body ρ1 with
      | .next ρ2 => loopW c body n ρ2
      | .cont ρ2 => loopW c body n ρ2
      | .brk ρ2 => .next ρ2
      | r => r)
    | false => .next ρ1
def wMax : Nat := 1000000000000
def sWhile (c : SemB) (body : SemS) : SemS := fun ρ => loopW c body wMax ρ
theorem xs_while {tb : SemS} {gc : SemB} (hp : PassesOwn (model X.prog X.w) X.A X.env X.xe) (hc : XT X J W c qc gc) (hb : XB X J W body tb) : XS X J W (.While c body [] pos) (sWhile gc tb) := by
  refine ⟨(ps_while hp hc.pt hb.pss).imp fun σ H D h => ?_⟩
  obtain ⟨ρ, τ, I, cc, m⟩ := h
  refine ⟨fun n σ H => ∃ ρ', Iv J ρ' τ σ H ∧ OutS J W τ (loopW gc tb n ρ') D, ⟨wMax, ρ, I, m⟩, ?_⟩
  rintro n σ H ⟨ρ', I', m'⟩
  cases n with
  | zero => exact m'.elim
  | succ n =>
    refine ⟨ρ', τ, I', .inr cc, outS_bndB m' fun b ρ1 m1 H1 I1 => ?_⟩
    cases b with
    | true =>
      rw [if_pos rfl]
      refine ⟨fun σ' H' => ∃ ρ'', Iv J ρ'' τ σ' H' ∧ OutS J W τ (loopW gc tb n ρ'') D, fun σ' H' q => ⟨n, Nat.lt_succ_self _, q⟩, ρ1, τ, I1, cc, ?_⟩
      have m1 : OutS J W τ (match tb ρ1 with
        | .next ρ2 => loopW gc tb n ρ2
        | .cont ρ2 => loopW gc tb n ρ2
        | .brk ρ2 => .next ρ2
        | r => r) D := m1
      cases zz : tb ρ1 with
      | next ρ4 => rw [zz] at m1; exact fun σ4 H4 I4 => ⟨ρ4, I4, m1⟩
      | cont ρ4 => rw [zz] at m1; exact fun σ4 H4 I4 => ⟨ρ4, I4, m1⟩
      | brk ρ4 => rw [zz] at m1; exact fun σ4 H4 I4 => m1 σ4 H4 I4
      | ret s ρ4 => rw [zz] at m1; exact m1
      | exc cc fs ρ4 => rw [zz] at m1; exact m1
      | bad => rw [zz] at m1; exact m1
    | false => rw [if_neg Bool.false_ne_true]; exact m1 σ H1 I1
end
end MV
namespace MV
open PySem PySem.Spec PyProof.Rows L2
section
variable {X : Cx} {J : Jx} {W : WX} {e a b c tg iter elt : Expr} {es : List Expr} {st : Stmt} {sts body orelse : List Stmt} {q qa qb qc qr qe : Bool} {fa fb fc : Sem1} {f g : SemS} {gc : SemB} {pos : Pos} {τ τ1 : List (Sv × V)} {σ : St} {H : Hp} {ρ : En}
def wipeE (ρ : En) : List Nat → En
  | [] => ρ
  | v :: vs => (wipeE ρ vs).set v none
theorem wipeE_len : ∀ (vs : List Nat), (wipeE ρ vs).length = ρ.length
  | [] => rfl
  | v :: vs => by unfold wipeE; rw [List.length_set, wipeE_len vs]
theorem wipeE_some {i : Nat} {x : Sv} : ∀ {vs : List Nat}, (wipeE ρ vs)[i]? = some (some x) → ρ[i]? = some (some x) ∧ i ∉ vs
  | [], h => ⟨h, by simp⟩
  | v :: vs, h => by
    unfold wipeE at h
    by_cases hi : v = i
    · subst hi
      by_cases hv : v < (wipeE ρ vs).length
      · rw [List.getElem?_set_self hv] at h; cases h
      · rw [List.getElem?_eq_none (by simpa using hv)] at h; cases h
    · rw [List.getElem?_set_ne hi] at h
      obtain ⟨h1, h2⟩ := wipeE_some h
      exact ⟨h1, by simp only [List.mem_cons, not_or]; exact ⟨fun e => hi e.symm, h2⟩⟩
theorem Iv.wipe {vs : List Nat} {σ2 σ3 : St} (nf : ∀ i ∈ vs, NF J i) (I : Iv J ρ τ σ2 H) (h : L2.wipe σ2 vs = L2.wipe σ3 vs) : Iv J (wipeE ρ vs) τ σ3 H := by
  obtain ⟨F, B, O, I⟩ := I
  refine ⟨F, B, O, I.base, ?_, fun i s e => ?_, I.temp⟩
  · have h1 := congrArg List.length h
    rw [wipe_length, wipe_length] at h1
    refine ⟨by rw [wipeE_len, I.len.eq, h1], fun i v e => ?_⟩
    have ni : i ∉ vs := fun z => nf i z v e
    have h2 : (L2.wipe σ2 vs)[i]? = (L2.wipe σ3 vs)[i]? := by rw [h]
    rw [wipe_out' ni, wipe_out' ni] at h2
    rw [← h2]; exact I.len.fx i v e
  · obtain ⟨e1, e2⟩ := wipeE_some e
    obtain ⟨t, v, e3, r⟩ := I.slot i s e1
    refine ⟨t, v, ?_, r⟩
    have h2 : (L2.wipe σ2 vs)[i]? = (L2.wipe σ3 vs)[i]? := by rw [h]
    rw [wipe_out' e2, wipe_out' e2] at h2
    rw [← h2]; exact e3
where
  wipe_out' {σ : St} {i : Nat} : ∀ {vs : List Nat}, i ∉ vs → (L2.wipe σ vs)[i]? = σ[i]?
    | [], _ => rfl
    | v :: vs, h => by
      have h' : ¬ (i = v) ∧ i ∉ vs := by simpa using h
      unfold L2.wipe
      rw [List.getElem?_set_ne (fun e => h'.1 e.symm)]
      exact wipe_out' h'.2
theorem IvW.mutT {F B : Hp} {O : Addr → Option Ow} {d d' : Vl} {o' : HO} {D : Addr} (I : IvW J F B O ρ ((⟨.own, d⟩, .ref D) :: τ) σ H) (rn : OwnO J.K F d' o') : IvW J F B O ρ ((⟨.own, d'⟩, .ref D) :: τ) σ (upd H D o') := by
  obtain ⟨a, o, e, g, r, q, n, z⟩ := I.top
  cases e
  have ne : ∀ (ow : Ow), ow ≠ .inr τ.length → ∀ b, O b = some ow → b ≠ D := fun ow h b y x => by subst x; rw [q] at y; exact h (Option.some.inj y).symm
  have keep : ∀ (ow : Ow) s v, ow ≠ .inr τ.length → SR J F B H O ow s v → SR J F B (upd H D o') O ow s v := fun ow s v no h => by
    obtain ⟨md, d⟩ := s
    cases md with
    | shr => exact h
    | bor => exact h
    | tmp => obtain ⟨b, u, e, g, r, i, q⟩ := h; exact ⟨b, u, e, by rw [upd_ne (ne (.inl i) (fun y => nomatch y) b q)]; exact g, r, i, q⟩
    | own => obtain ⟨b, u, e, g, r, q, z⟩ := h; exact ⟨b, u, e, by rw [upd_ne (ne _ no b q)]; exact g, r, q, z⟩
    | io => obtain ⟨b, u, e, g, r, q, z⟩ := h; exact ⟨b, u, e, by rw [upd_ne (ne _ no b q)]; exact g, r, q, z⟩
  refine ⟨⟨I.base.fb, fun b u e => ?_, I.base.f0, I.base.new, fun b u e y => ?_, fun b y => ?_⟩, I.len, fun j s2 e2 => ?_, ⟨D, o', rfl, upd_same, rn, q, n, z⟩, ?_⟩
  · rw [upd_ne (ne_of_none e n)]; exact I.base.bh b u e
  · have nb : b ≠ D := fun x => by subst x; rw [z] at e; cases e
    rw [upd_ne nb]; exact I.base.keep b u e y
  · by_cases x : b = D
    · subst x; exact ⟨o', upd_same⟩
    · rw [upd_ne x]; exact I.base.iot b y
  · obtain ⟨t2, v2, e3, r2⟩ := I.slot j s2 e2
    exact ⟨t2, v2, e3, keep _ _ _ (fun y => nomatch y) r2⟩
  · exact I.drop1.temp.imp fun s v k _ hk h => keep _ _ _ (fun y => Nat.ne_of_lt hk (Sum.inr.inj y)) h
def bndN {α β : Type} (r : Rs α) (k : α → En → Rs β) : Rs β := match r with
  | .ok a ρ => k a ρ
  | _ => .bad
def compL (own : List Nat) (tgt : SemG) (cond : SemB) (elt : Sem1) : List Sv → En → List Vl → Rs (List Vl)
  | [], ρ, acc => .ok acc ρ
  | x :: xs, ρ, acc => match tgt x ρ with
    | some ρ1 => bndN (cond ρ1) fun b ρ2 => match b with
      | true => bndN (elt ρ2) fun s ρ3 => grd (isShr s.m && decide (acc.length < sizeLine)) (compL own tgt cond elt xs (wipeE ρ3 own) (acc ++ [s.d]))
      | false => compL own tgt cond elt xs (wipeE ρ2 own) acc
    | none => .bad
def fLc (qn : Bool) (own : List Nat) (src : SemI) (tgt : SemG) (cond : SemB) (elt : Sem1) : Sem1 := fun ρ => bnd (src ρ) fun its ρ1 => grd (its.1 || qn) (bnd (compL own tgt cond elt its.2 (wipeE ρ1 own) []) fun ds ρ2 => .ok ⟨.own, .lst ds⟩ ρ2)
def bYes : SemB := fun ρ => .ok true ρ
abbrev WN : WX := fun _ _ _ _ => False
structure XPs (X : Cx) (J : Jx) (W : WX) (ifs : List Expr) (q : Bool) (f : SemB) : Prop where
  pts : PTs X ifs (tT J W q f)
theorem xps_nil : XPs X J W [] true bYes := by
  refine ⟨⟨fun pins s σ H Q I h => (pts_nil (X := X)).run pins s σ H Q I ?_⟩⟩
  obtain ⟨ρ, τ, I, c, m⟩ := h
  exact m H I
theorem grd_inv {α : Type} {b : Bool} {r : Rs α} {x : Rs α} (h : grd b r = x) (n : x ≠ .bad) : b = true ∧ r = x := by
  cases b with
  | true => exact ⟨rfl, h⟩
  | false => exact absurd h.symm n
theorem tLc_ok {J1 : It} {l : List (Sv × V)} {items : List Sv} {D : Addr} {tgt : SemG} {ix own : List Nat} {cond : SemB} {elt : Sem1} {ρ' ρe : En} {ds : List Vl} {Q : VK} {H1 : Hp} (nf : ∀ i ∈ own, NF J i) (w : Wk J (l ++ τ) items J1) (hix : ∀ i ∈ ix, i ∈ own)
    (nt : (qc = true ∧ qe = true) ∨ NoTmp (l ++ τ)) (I1 : Iv J ρ' ((⟨.own, .lst []⟩, .ref D) :: (l ++ τ)) (wipe σ own) (upd H1 D (.lst []))) (m : compL own tgt cond elt items ρ' [] = .ok ds ρe)
    (done : ∀ H, Iv J ρe ((⟨.own, .lst ds⟩, .ref D) :: (l ++ τ)) (wipe σ own) H → Q (.ref D) H) :
    ∃ W : Nat → Nat → Hp → Prop, (∃ m, W 0 m (upd H1 D (.lst []))) ∧ ∀ i m H, W i m H →
      (J1.stop i H ∧ Q (.ref D) H) ∨ (J1.go i H ∧ ∃ Nx : Hp → Prop, (∀ H', Nx H' → ∃ m', m' < m ∧ W (i + 1) m' H') ∧ ∀ x H', J1.yld i H x H' → tG J ix tgt x (wipe σ own) H' fun σ2 H2 => wipe σ2 own = wipe σ own ∧ tT J WN qc cond σ2 H2 fun b H3 =>
        if b = true then tE J WN qe elt σ2 H3 fun y H4 => ∃ acc, H4 D = some (.lst acc) ∧ acc.length < sizeLine ∧ Nx (upd H4 D (.lst (acc ++ [y]))) else Nx H3) := by
  have ww : wipe (wipe σ own) own = wipe σ own := by
    have : ∀ (vs ws : List Nat) (σ : St), (∀ i ∈ ws, i ∈ vs) → wipe (wipe σ ws) vs = wipe σ vs := by
      intro vs ws
      induction ws with
      | nil => intro σ _; rfl
      | cons v ws ih =>
        intro σ h
        show wipe ((wipe σ ws).set v none) vs = _
        rw [wipe_set (h v List.mem_cons_self), ih σ fun i hi => h i (List.mem_cons_of_mem _ hi)]
    exact this own own σ fun _ h => h
  refine ⟨fun k n H => n = items.length - k ∧ k ≤ items.length ∧ ∃ ρ'' acc, Iv J ρ'' ((⟨.own, .lst acc⟩, .ref D) :: (l ++ τ)) (wipe σ own) H ∧ compL own tgt cond elt (items.drop k) ρ'' acc = .ok ds ρe, ⟨items.length, by simp, Nat.zero_le _, ρ', [], I1, by simpa using m⟩, ?_⟩
  rintro k n H ⟨rfl, hk, ρ2, acc, I', m'⟩
  by_cases hlt : k < items.length
  · refine .inr ⟨w.go [(⟨.own, .lst acc⟩, .ref D)] k ρ2 _ H hlt I', fun H' => ∃ ρ'' acc, Iv J ρ'' ((⟨.own, .lst acc⟩, .ref D) :: (l ++ τ)) (wipe σ own) H' ∧ compL own tgt cond elt (items.drop (k + 1)) ρ'' acc = .ok ds ρe,
      fun H' ⟨ρ'', acc', a1, a2⟩ => ⟨items.length - (k + 1), by omega, rfl, hlt, ρ'', acc', a1, a2⟩, fun x H' y => ?_⟩
    have hs : items[k]? = some items[k] := by simp [hlt]
    rw [List.drop_eq_getElem_cons hlt] at m'
    have m' : (match tgt items[k] ρ2 with
      | some ρ1 => bndN (cond ρ1) fun b ρ2 => match b with
        | true => bndN (elt ρ2) fun s ρ3 => grd (isShr s.m && decide (acc.length < sizeLine)) (compL own tgt cond elt (items.drop (k + 1)) (wipeE ρ3 own) (acc ++ [s.d]))
        | false => compL own tgt cond elt (items.drop (k + 1)) (wipeE ρ2 own) acc
      | none => .bad) = .ok ds ρe := m'
    have Iy := w.yld [(⟨.own, .lst acc⟩, .ref D)] k _ ρ2 _ H x H' hs I' y
    refine ⟨items[k], ρ2, _, Iy, ?_⟩
    cases z : tgt items[k] ρ2 with
    | none => rw [z] at m'; cases m'
    | some ρ3 =>
      rw [z] at m'
      intro σ2 H2 I2 hw
      have hw2 : wipe σ2 own = wipe σ own := (hw own hix).trans ww
      refine ⟨hw2, ρ3, _, I2, ?_, ?_⟩
      · exact nt.imp (fun z => z.1) fun z => z.cons (fun y => nomatch y)
      · have m' : (bndN (cond ρ3) fun b ρ2 => match b with
          | true => bndN (elt ρ2) fun s ρ3 => grd (isShr s.m && decide (acc.length < sizeLine)) (compL own tgt cond elt (items.drop (k + 1)) (wipeE ρ3 own) (acc ++ [s.d]))
          | false => compL own tgt cond elt (items.drop (k + 1)) (wipeE ρ2 own) acc) = .ok ds ρe := m'
        cases zc : cond ρ3 with
        | ok b ρ4 =>
          rw [zc] at m'
          intro H4 I4
          cases b with
          | true =>
            rw [if_pos rfl]
            have m' : (bndN (elt ρ4) fun s ρ3 => grd (isShr s.m && decide (acc.length < sizeLine)) (compL own tgt cond elt (items.drop (k + 1)) (wipeE ρ3 own) (acc ++ [s.d]))) = .ok ds ρe := m'
            refine ⟨ρ4, _, I4, nt.imp (fun z => z.2) fun z => z.cons (fun y => nomatch y), ?_⟩
            cases ze : elt ρ4 with
            | ok s ρ5 =>
              rw [ze] at m'
              rintro v H5 ⟨F, B, O, I5⟩
              obtain ⟨h, m'⟩ := grd_inv m' (fun y => nomatch y)
              rw [Bool.and_eq_true] at h
              obtain ⟨ms, dd⟩ := s
              cases ms with
              | shr =>
                have rd : Rep J.K F dd v := I5.top
                obtain ⟨p, o, ev, g, ⟨vs, eo, r⟩, _⟩ := I5.drop1.top
                cases ev
                subst eo
                refine ⟨vs, g, by rw [r.len]; exact of_decide_eq_true h.2, wipeE ρ5 own, acc ++ [dd], ?_, m'⟩
                have I6 : IvW J F B O ρ5 ((⟨.own, .lst (acc ++ [dd])⟩, .ref D) :: (l ++ τ)) σ2 (upd H5 D (.lst (vs ++ [v]))) := I5.drop1.mutT (d' := .lst (acc ++ [dd])) ⟨_, rfl, r.app (.cons rd .nil)⟩
                exact Iv.wipe nf ⟨F, B, O, I6⟩ (hw2.trans ww.symm)
              | _ => cases h.1
            | exc cc fs ρ5 => rw [ze] at m'; cases m'
            | bad => rw [ze] at m'; cases m'
          | false =>
            rw [if_neg Bool.false_ne_true]
            exact ⟨wipeE ρ4 own, acc, Iv.wipe nf I4 (hw2.trans ww.symm), m'⟩
        | exc cc fs ρ5 => rw [zc] at m'; cases m'
        | bad => rw [zc] at m'; cases m'
  · have ek : k = items.length := by omega
    subst ek
    rw [List.drop_length] at m'
    cases m'
    exact .inl ⟨w.stop [(⟨.own, .lst _⟩, .ref D)] _ _ _ H (Nat.le_refl _) I', done H I'⟩
theorem lc_ok {src : SemI} {tgt : SemG} {ix own : List Nat} {cond : SemB} {elt : Sem1} {Q : VK} (nf : ∀ i ∈ own, NF J i) (hix : ∀ i ∈ ix, i ∈ own) (h : tE J W (q && (qc && qe)) (fLc (qc && qe) own src tgt cond elt) σ H Q) :
    tLc (tI J W q src) (tG J ix tgt) (tT J WN qc cond) (tE J WN qe elt) own σ H Q := by
  obtain ⟨ρ, τ, I, c, m⟩ := h
  refine ⟨ρ, τ, I, (qand c).1, ?_⟩
  unfold fLc at m
  cases e : src ρ with
  | ok its ρ1 =>
    rw [e] at m
    intro l J1 H1 I1 w nl D nD
    obtain ⟨hq, m⟩ := out_grd (b := its.1 || (qc && qe)) m
    have nt : (qc = true ∧ qe = true) ∨ NoTmp (l ++ τ) := by
      rcases (Bool.or_eq_true _ _).mp hq with z | z
      · rcases (qand c).2 with y | y
        · rw [Bool.and_eq_true] at y; exact .inl y
        · exact .inr ((nl z).app y)
      · rw [Bool.and_eq_true] at z; exact .inl z
    cases z : compL own tgt cond elt its.2 (wipeE ρ1 own) [] with
    | ok ds ρ2 =>
      rw [z] at m
      have m : Out J W τ σ (.ok ⟨.own, .lst ds⟩ ρ2) Q := m
      have I2 : Iv J (wipeE ρ1 own) ((⟨.own, .lst []⟩, .ref D) :: (l ++ τ)) (wipe σ own) (upd H1 D (.lst [])) := by
        have I3 : Iv J ρ1 ((⟨.own, .lst []⟩, .ref D) :: (l ++ τ)) σ (upd H1 D (.lst [])) := by
          obtain ⟨F, B, O, I1⟩ := I1
          exact I1.new nD ⟨[], rfl, rfl⟩
        exact Iv.wipe nf I3 (wipe_wipe own own (fun _ h => h)).symm
      refine tLc_ok nf w hix nt I2 z fun H I => ?_
      have I4 : Iv J ρ2 ((⟨.own, .lst ds⟩, .ref D) :: (l ++ τ)) σ H := by
        obtain ⟨F, B, O, I⟩ := I
        refine ⟨F, B, O, I.base, ⟨by rw [I.len.eq, wipe_length], fun i v e => (wipe_some (I.len.fx i v e)).1⟩, fun i s e => ?_, I.temp⟩
        obtain ⟨t, v, e1, r⟩ := I.slot i s e
        exact ⟨t, v, (wipe_some e1).1, r⟩
      exact m _ _ I4.under
    | exc cc fs ρ2 =>
      exfalso
      exact compL_exc z
    | bad => rw [z] at m; exact m.elim
  | exc cc fs ρ1 => rw [e] at m; exact m
  | bad => rw [e] at m; exact m
where
  wipe_wipe {σ : St} (vs ws : List Nat) (h : ∀ i ∈ ws, i ∈ vs) : wipe (wipe σ ws) vs = wipe σ vs := by
    induction ws with
    | nil => rfl
    | cons v ws ih =>
      show wipe ((wipe σ ws).set v none) vs = _
      rw [wipe_set (h v List.mem_cons_self), ih fun i hi => h i (List.mem_cons_of_mem _ hi)]
  compL_exc {tgt : SemG} {own : List Nat} {cond : SemB} {elt : Sem1} {cc : Str} {fs : List (Str × Vl)} {ρ2 : En} : ∀ {xs : List Sv} {ρ : En} {acc : List Vl}, compL own tgt cond elt xs ρ acc = .exc cc fs ρ2 → False
    | [], _, _, h => by cases h
    | x :: xs, ρ, acc, h => by
      unfold compL at h
      cases z : tgt x ρ with
      | none => rw [z] at h; cases h
      | some ρ1 =>
        rw [z] at h
        replace h : bndN (cond ρ1) _ = _ := h
        cases zc : cond ρ1 with
        | ok b ρ3 =>
          rw [zc] at h
          cases b with
          | true =>
            cases ze : elt ρ3 with
            | ok s ρ4 =>
              have h : bndN (elt ρ3) (fun s ρ3 => grd (isShr s.m && decide (acc.length < sizeLine)) (compL own tgt cond elt xs (wipeE ρ3 own) (acc ++ [s.d]))) = _ := h
              rw [ze] at h
              obtain ⟨_, h⟩ := grd_inv h (fun y => nomatch y)
              exact compL_exc h
            | exc _ _ _ => have h : bndN (elt ρ3) _ = _ := h; rw [ze] at h; cases h
            | bad => have h : bndN (elt ρ3) _ = _ := h; rw [ze] at h; cases h
          | false => exact compL_exc h
        | exc _ _ _ => rw [zc] at h; cases h
        | bad => rw [zc] at h; cases h
theorem xe_lc {src : SemI} {tgt : SemG} {ix : List Nat} {cond : SemB} {felt : Sem1} {ifs : List Expr} {scope : Scope} {own : List (Str × Nat)} (hix : ∀ i ∈ ix, i ∈ own.map (·.2)) (hc : X.calm = true) (hN : X.N.Nodup) (hi : XI X J W tg iter q src) (ok : BlkOk X.N X.env.scope scope own)
    (hg : ∀ (s : Shared) (H : Hp) (C : Addr) (cl : List (Str × Addr)) (fp : List Addr), XG (X.blk s H scope (compEnvC scope cl C X.env) fp) J tg ix tgt) (ht : ∀ (s : Shared) (H : Hp) (C : Addr) (cl : List (Str × Addr)) (fp : List Addr), XPs (X.blk s H scope (compEnvC scope cl C X.env) fp) J WN ifs qc cond)
    (he : ∀ (s : Shared) (H : Hp) (C : Addr) (cl : List (Str × Addr)) (fp : List Addr), XE (X.blk s H scope (compEnvC scope cl C X.env) fp) J WN elt qe felt) (hs : ∀ x, foldedSetIterable iter X.env x = pure x := by intro _; rfl) (nf : ∀ i ∈ own.map (·.2), NF J i := by first | exact fun _ _ => nf_none (by assumption) | exact nfs_ne (by assumption) rfl) :
    XE X J W (.ListComp elt [⟨tg, iter, ifs, 0⟩] scope pos) (q && (qc && qe)) (fLc (qc && qe) (own.map (·.2)) src tgt cond felt) :=
  ⟨(pe_lc hc hN hi.pi ok (fun s H C cl fp => (hg s H C cl fp).pg) (fun s H C cl fp => (ht s H C cl fp).pts) (fun s H C cl fp => (he s H C cl fp).pe) hs).imp fun σ H Q h => lc_ok nf hix h⟩
theorem xs_asgLcF {i : Nat} {y : Str} {py spos : Pos} {src : SemI} {tgt : SemG} {ix : List Nat} {cond : SemB} {felt : Sem1} {ifs : List Expr} {scope : Scope} {own : List (Str × Nat)} (hix : ∀ i ∈ ix, i ∈ own.map (·.2)) (hc : X.calm = true) (hN : X.N.Nodup) (hy : X.N[i]? = some y) (hyl : X.env.scope.names.lookup y = some .local)
    (hsw : swapsWith (.ListComp elt [⟨tg, iter, ifs, 0⟩] scope pos) (some (.Name y py)) spos.line X.env = pure true) (hi : XI X J W tg iter q src) (ok : BlkOk X.N X.env.scope scope own)
    (hg : ∀ (s : Shared) (H : Hp) (C : Addr) (cl : List (Str × Addr)) (fp : List Addr), XG (X.blk s H scope (compEnvC scope cl C X.env) fp) J tg ix tgt) (ht : ∀ (s : Shared) (H : Hp) (C : Addr) (cl : List (Str × Addr)) (fp : List Addr), XPs (X.blk s H scope (compEnvC scope cl C X.env) fp) J WN ifs qc cond)
    (he : ∀ (s : Shared) (H : Hp) (C : Addr) (cl : List (Str × Addr)) (fp : List Addr), XE (X.blk s H scope (compEnvC scope cl C X.env) fp) J WN elt qe felt) (hs : ∀ x, foldedSetIterable iter X.env x = pure x := by intro _; rfl) (nf : ∀ i ∈ own.map (·.2), NF J i := by first | exact fun _ _ => nf_none (by assumption) | exact nfs_ne (by assumption) rfl) (nfi : NF J i := by first | exact nf_none (by assumption) | exact nf_ne (by assumption) rfl) :
    XS X J W (.Assign [.Name y py] (.ListComp elt [⟨tg, iter, ifs, 0⟩] scope pos) spos) (sAsg i (fFrz (fLc (qc && qe) (own.map (·.2)) src tgt cond felt))) := by
  refine ⟨(ps_setLc hc hN hy hyl hsw hi.pi ok (fun s H C cl fp => (hg s H C cl fp).pg) (fun s H C cl fp => (ht s H C cl fp).pts) (fun s H C cl fp => (he s H C cl fp).pe) hs).imp fun σ H D h => ?_⟩
  obtain ⟨ρ, τ, I, c, m⟩ := h
  refine lc_ok nf hix ⟨ρ, τ, I, .inr c, ?_⟩
  have m2 : Out J W τ σ (fFrz (fLc (qc && qe) (own.map (·.2)) src tgt cond felt) ρ) (fun v H => D.nx (σ.set i (some v)) H) := outS_bnd m fun s ρ1 m1 v H1 I1 => stS_ok nfi m1 I1
  unfold fFrz at m2
  cases e : fLc (qc && qe) (own.map (·.2)) src tgt cond felt ρ with
  | ok s ρ1 =>
    rw [e] at m2
    rintro v H1 ⟨F, B, O, I1⟩
    obtain ⟨md, d⟩ := s
    cases md with
    | own => exact m2 v H1 I1.frz
    | shr => exact m2 v H1 ⟨F, B, O, I1⟩
    | _ => exact m2.elim
  | exc cc fs ρ1 => rw [e] at m2; exact m2
  | bad => rw [e] at m2; exact m2
def setAll : List Nat → List Vl → Md → En → Option En
  | [], [], _, ρ => some ρ
  | i :: is, d :: ds, m, ρ => (match noIo ρ i with
    | true => setAll is ds m (ρ.set i (some (mk m d)))
    | false => none)
  | _, _, _, _ => none
def gTp (is : List Nat) : SemG := fun s ρ => match s.d with
  | .tup ds => (match s.m with
    | .bor => setAll is ds .bor ρ
    | .shr => setAll is ds .shr ρ
    | _ => none)
  | _ => none
end
end MV
namespace MV
open PySem PySem.Spec PyProof.Rows L2
section
variable {X : Cx} {J : Jx} {W : WX} {e a b c o tg iter elt : Expr} {es : List Expr} {st : Stmt} {sts body orelse : List Stmt} {q qa qb qc qr qe : Bool} {fa fb fc : Sem1} {f g : SemS} {gc : SemB} {pos : Pos} {τ τ1 : List (Sv × V)} {σ : St} {H : Hp} {ρ : En}
theorem IvW.storeK {F B : Hp} {O : Addr → Option Ow} {i : Nat} {m : Md} {d : Vl} {v : V} (I : IvW J F B O ρ τ σ H) (nf : NF J i) (h : Rep J.K (reg F J.B0 m) d v) (hm : m = .bor ∨ m = .shr) : IvW J F B O (ρ.set i (some (MV.mk m d))) τ (σ.set i (some v)) H := by
  have r : ∀ k, SR J F B H O k (MV.mk m d) v := fun k => by
    refine SR.mk ?_ I.base
    rcases hm with e | e <;> (subst e; exact h)
  have ntm : (MV.mk m d).m ≠ Md.tmp := by
    unfold MV.mk
    rcases hm with e | e <;> (subst e; split <;> exact fun z => nomatch z)
  refine ⟨I.base, I.len.set2 nf, fun j s2 e2 => ?_, I.temp⟩
  by_cases hj : i = j
  · subst hj
    by_cases hl : i < ρ.length
    · rw [List.getElem?_set_self hl] at e2
      cases e2
      exact ⟨ntm, v, List.getElem?_set_self (by rw [← I.len.eq]; exact hl), r _⟩
    · rw [List.getElem?_eq_none (by simpa using hl)] at e2; cases e2
  · rw [List.getElem?_set_ne hj] at e2
    obtain ⟨t2, v2, e3, r2⟩ := I.slot j s2 e2
    exact ⟨t2, v2, by rw [List.getElem?_set_ne hj]; exact e3, r2⟩
def tGs (J : Jx) (ix is : List Nat) : TGs := fun vs σ H Q => ∃ ρ τ F B O ds m, IvW J F B O ρ τ σ H ∧ RepL J.K (reg F J.B0 m) ds vs ∧ (m = .bor ∨ m = .shr) ∧ match setAll is ds m ρ with
  | some ρ1 => ∀ σ' H', Iv J ρ1 τ σ' H' → (∀ vs, (∀ i ∈ ix, i ∈ vs) → wipe σ' vs = wipe σ vs) → Q σ' H'
  | none => False
structure XGs (X : Cx) (J : Jx) (tgs : List Expr) (ix is : List Nat) : Prop where
  pgs : PGs X tgs (tGs J ix is)
theorem xgs_nil {ix : List Nat} : XGs X J [] ix [] := by
  refine ⟨⟨fun pins s σ H vs us Q I r h => (pgs_nil (X := X)).run pins s σ H vs us Q I r ?_⟩⟩
  obtain ⟨ρ, τ, F, B, O, ds, m, I, rl, hm, k⟩ := h
  cases ds with
  | nil => exact ⟨rl, k σ H ⟨F, B, O, I⟩ fun _ _ => rfl⟩
  | cons d ds => exact k.elim
theorem xgs_cons {ix is : List Nat} {i : Nat} {x : Str} {p : Pos} {es : List Expr} (hmem : i ∈ ix) (hN : X.N.Nodup) (hi : X.N[i]? = some x) (hx : Loc X.env.scope x) (hr : XGs X J es ix is) (hf : X.fn x = true ∨ X.env.scope.names.lookup x = some .local := by first | exact .inl rfl | exact .inr rfl | assumption)
    (hs : (assignEach (.Name x p :: es) X.env).map (·.2) = assign (.Name x p) X.env :: (assignEach es X.env).map (·.2) := by rfl) (nf : NF J i := by first | exact nf_none (by assumption) | exact nf_ne (by assumption) rfl) : XGs X J (.Name x p :: es) ix (i :: is) := by
  refine ⟨⟨fun pins s σ H vs us Q I r h => (pgs_cons (pg_name (X := X) (pos := p) hN hi hx hf) hr.pgs hs).run pins s σ H vs us Q I r ?_⟩⟩
  obtain ⟨ρ, τ, F, B, O, ds, m, I, rl, hm, k⟩ := h
  cases ds with
  | nil => exact k.elim
  | cons d ds =>
    obtain ⟨v, r, ev, r1, r2⟩ := rl
    refine ⟨v, r, ev, ?_⟩
    have k : (match (match noIo ρ i with | true => setAll is ds m (ρ.set i (some (mk m d))) | false => none) with
      | some ρ1 => ∀ σ' H', Iv J ρ1 τ σ' H' → (∀ vs, (∀ i ∈ ix, i ∈ vs) → wipe σ' vs = wipe σ vs) → Q σ' H'
      | none => False) := k
    cases z : noIo ρ i with
    | false => rw [z] at k; exact k.elim
    | true =>
      rw [z] at k
      refine ⟨ρ.set i (some (mk m d)), τ, F, B, O, ds, m, I.storeK nf r1 hm, r2, hm, ?_⟩
      replace k : (match setAll is ds m (ρ.set i (some (mk m d))) with
        | some ρ1 => ∀ σ' H', Iv J ρ1 τ σ' H' → (∀ vs, (∀ i ∈ ix, i ∈ vs) → wipe σ' vs = wipe σ vs) → Q σ' H'
        | none => False) := k
      cases zz : setAll is ds m (ρ.set i (some (mk m d))) with
      | none => rw [zz] at k; exact k.elim
      | some ρ1 =>
        rw [zz] at k
        exact fun σ' H' I' hw => k σ' H' I' fun vs hv => (hw vs hv).trans (wipe_set (hv i hmem))
theorem xg_tup {is : List Nat} {es : List Expr} {k : Nat} (hc : X.calm = true) (h : XGs X J es is is)
    (hn : (assignEach es X.env).length = is.length := by rfl) (hst : (assignEach es X.env).findIdx? (·.1) = none := by rfl) : XG X J (.Tuple es k pos) is (gTp is) := by
  refine ⟨⟨fun pins s σ H v u Q I r hw => (pg_tup (n := is.length) hc h.pgs hn hst).run pins s σ H v u Q I r ?_⟩⟩
  obtain ⟨sv, ρ, τ, ⟨F, B, O, I1⟩, k⟩ := hw
  obtain ⟨md, d⟩ := sv
  have setLen : ∀ {is : List Nat} {ds : List Vl} {m : Md} {ρ ρ1 : En}, setAll is ds m ρ = some ρ1 → ds.length = is.length := by
    intro is
    induction is with
    | nil => intro ds m ρ ρ1 h; cases ds with
      | nil => rfl
      | cons d ds => cases h
    | cons i is ih => intro ds m ρ ρ1 h; cases ds with
      | nil => cases h
      | cons d ds =>
        have h : (match noIo ρ i with | true => setAll is ds m (ρ.set i (some (mk m d))) | false => none) = some ρ1 := h
        cases z : noIo ρ i with
        | false => rw [z] at h; cases h
        | true => rw [z] at h; rw [List.length_cons, List.length_cons, ih h]
  cases d with
  | tup ds =>
    obtain ⟨p, vs, e, g, r⟩ := I1.top.tup I1.base
    have go : ∀ m, (m = .bor ∨ m = .shr) → md = m → (match setAll is ds m ρ with
      | some ρ1 => ∀ σ' H', Iv J ρ1 τ σ' H' → (∀ vs, (∀ i ∈ is, i ∈ vs) → wipe σ' vs = wipe σ vs) → Q σ' H'
      | none => False) → gTup X.K is.length (tGs J is is) v σ H Q := fun m hm e2 k => by
      subst e2
      have hl : ds.length = is.length := by
        cases zz : setAll is ds md ρ with
        | none => rw [zz] at k; exact k.elim
        | some ρ1 => exact setLen zz
      exact ⟨p, vs, e, SqT.of g, by rw [r.len]; exact hl, ρ, τ, F, B, O, ds, md, I1.drop1, r, hm, k⟩
    cases md with
    | bor => exact go .bor (.inl rfl) rfl k
    | shr => exact go .shr (.inr rfl) rfl k
    | _ => exact k.elim
  | _ => exact k.elim
def kFld (f : Str) (cs : List Str) : K1 := fun s ρ => match s.d with
  | .ins c fs => grd (decide (c ∈ cs)) (match fs.lookup f with
    | some d => .ok (mk s.m.kid d) ρ
    | none => .bad)
  | _ => .bad
structure FldOk (K : PySem.W.Frag) (cs : List Str) (f : Str) : Prop where
  ok : ∀ c ∈ cs, Cls K (He.ga K c) ∧ NoAttr K (He.ga K c) f
theorem xe_fld {f : Str} {cs : List Str} (hK : J.K = X.K) (hf : FldOk X.K cs f) (ha : XE X J W a qa fa) (hb : attributeBase a f X.env (eval a X.env) = eval a X.env := by rfl) : XE X J W (.Attribute a f pos) qa (fOne fa (kFld f cs)) := by
  refine ⟨(pe_fld ha.pe hb).imp fun σ H Q h => tE_one (fun _ _ _ _ _ I _ _ _ o h => o _ _ _ _ _ _ _ I h) (r := fun x H1 Q => ∃ a C dx fs v, x = .ref a ∧ H1 a = some (.ins C dx fs) ∧ Cls X.K C ∧ NoAttr X.K C f ∧ fs.lookup f = some v ∧ Q v H1) ?_ h⟩
  rintro ρ τ σ H ⟨md, d⟩ v Q ⟨F, B, O, I⟩ m
  cases d with
  | ins c fs =>
    obtain ⟨h, m⟩ := out_grd (b := decide (c ∈ cs)) m
    obtain ⟨p, dx, ws, e, g, r⟩ := I.top.ins I.base
    obtain ⟨h1, h2⟩ := hf.ok c (of_decide_eq_true h)
    cases z : fs.lookup f with
    | none => rw [z] at m; exact m.elim
    | some d =>
      rw [z] at m
      obtain ⟨w, w1, w2⟩ := r.look z
      rw [hK] at g
      exact ⟨p, _, dx, ws, w, e, g, h1, h2, w1, kid_out I.drop1 w2 m⟩
  | _ => exact m.elim
def sFldS (i : Nat) (f : Str) (cs : List Str) (fa : Sem1) : SemS := fun ρ => bndS (fa ρ) fun s ρ1 => grdS (isShr s.m) (match ρ1[i]? with
  | some (some ⟨m, .ins c fs⟩) => grdS (mutb m && decide (c ∈ cs) && decide (fs.length < 1000)) (.next (ρ1.set i (some ⟨m, .ins c (putFV f s.d fs)⟩)))
  | _ => .bad)
theorem xs_fld {i : Nat} {x f : Str} {cs : List Str} {p pos' : Pos} (hK : J.K = X.K) (hf : FldOk X.K cs f) (hN : X.N[i]? = some x) (hv : Vis X.env.scope x) (ha : XE X J W a qa fa) (hs : swapsWith a (some (.Attribute (.Name x p) f pos')) pos.line X.env = pure false := by rfl)
    (hd : (x == ("__debug__" : Str)) = false := by decide) (hcd : (x == ("__classdict__" : Str)) = false := by decide) : XS X J W (.Assign [.Attribute (.Name x p) f pos'] a pos) (sFldS i f cs fa) := by
  refine ⟨(ps_fld (pe_var hN hv hd hcd) ha.pe hs).imp fun σ H D h => ?_⟩
  obtain ⟨ρ, τ, I, c, m⟩ := h
  refine ⟨ρ, τ, I, .inr c, outS_bnd m fun s ρ1 m1 v H1 ⟨F, B, O, I1⟩ => ?_⟩
  obtain ⟨h, m1⟩ := outS_grd m1
  obtain ⟨md, d⟩ := s
  cases md with
  | shr =>
    have rd : Rep J.K F d v := I1.top
    cases e : ρ1[i]? with
    | none => rw [e] at m1; exact m1.elim
    | some s2 =>
      cases s2 with
      | none => rw [e] at m1; exact m1.elim
      | some s2 =>
        obtain ⟨m2, d2⟩ := s2
        rw [e] at m1
        cases d2 with
        | ins cc fs =>
          obtain ⟨h2, m1⟩ := outS_grd (b := mutb m2 && decide (cc ∈ cs) && decide (fs.length < 1000)) m1
          rw [Bool.and_eq_true, Bool.and_eq_true] at h2
          obtain ⟨p, o, e1, g, ⟨dx, ws, eo, r⟩, nw⟩ := I1.drop1.mut c e (mutb_or h2.1.1)
          subst eo
          obtain ⟨h3, h4⟩ := hf.ok cc (of_decide_eq_true h2.1.2)
          have I2 := nw (.ins cc (putFV f d fs)) (.ins (He.ga J.K cc) dx (putF f v ws)) ⟨dx, _, rfl, r.put rd⟩
          rw [hK] at I2 g
          exact ⟨.ref p, e1, p, _, dx, ws, rfl, g, h3, h4, by rw [r.len]; exact of_decide_eq_true h2.2, m1 σ _ ⟨F, B, O, I2⟩⟩
        | _ => exact m1.elim
  | _ => cases h
end
end MV
namespace MV
open PySem PySem.Spec PyProof.Rows L2
inductive PM where
  | sca | bor | shr | io
inductive FRes where
  | ret (r : Vl) (outs : List Vl)
  | exc (c : Str) (fs : List (Str × Vl)) (outs : List Vl)
  | bad
abbrev Fn := List Vl → FRes
def mns (H : Hp) (ios : List Addr) : Hp := fun b => if b ∈ ios then none else H b
theorem mns_sub {H : Hp} {ios : List Addr} : Sub (mns H ios) H := fun b o e => by
  unfold mns at e
  split at e
  · cases e
  · exact e
theorem mns_of {H : Hp} {ios : List Addr} {b : Addr} {o : HO} (h : H b = some o) (n : b ∉ ios) : mns H ios b = some o := by
  unfold mns; rw [if_neg n]; exact h
theorem mns_no {H : Hp} {ios : List Addr} {b : Addr} (n : b ∈ ios) : mns H ios b = none := by
  unfold mns; rw [if_pos n]
def ArgsR (K : PySem.W.Frag) (F H : Hp) (all : List Addr) : List PM → List Vl → List V → List Addr → Prop
  | [], [], [], as => as = []
  | .sca :: pm, d :: ds, v :: vs, as => isSc d = true ∧ Rep K F d v ∧ ArgsR K F H all pm ds vs as
  | .bor :: pm, d :: ds, v :: vs, as => Rep K (mns H all) d v ∧ ArgsR K F H all pm ds vs as
  | .shr :: pm, d :: ds, v :: vs, as => Rep K F d v ∧ ArgsR K F H all pm ds vs as
  | .io :: pm, d :: ds, v :: vs, as => ∃ a r, as = a :: r ∧ v = .ref a ∧ (∃ o, H a = some o ∧ OwnO K F d o) ∧ ArgsR K F H all pm ds vs r
  | _, _, _, _ => False
def OutsR (K : PySem.W.Frag) (F H : Hp) : List Vl → List Addr → Prop
  | [], as => as = []
  | d :: ds, as => ∃ a r, as = a :: r ∧ (∃ o, H a = some o ∧ OwnO K F d o) ∧ OutsR K F H ds r
structure After (K : PySem.W.Frag) (F H : Hp) (ios : List Addr) (F' H' : Hp) (outs : List Vl) : Prop where
  keep : ∀ b o, H b = some o → b ∉ ios → H' b = some o
  ff : Sub F F'
  fh : Sub F' H'
  new : ∀ b o, F' b = some o → F b = some o ∨ H b = none
  outs : OutsR K F' H' outs ios
  iof : ∀ a, a ∈ ios → F' a = none
def ResR (K : PySem.W.Frag) (rm : Bool) (H F' H' : Hp) (r : Vl) (v : V) : Prop :=
  if isSc r = true then Rep K F' r v else match rm with
  | true => ∃ a o, v = .ref a ∧ H' a = some o ∧ OwnO K F' r o ∧ F' a = none ∧ H a = none
  | false => Rep K F' r v
def spF (K : PySem.W.Frag) (pm : List PM) (rm : Bool) (fn : Fn) : Sp := fun vs H Q E => ∃ F ios ds, Sub F (mns H ios) ∧ ios.Nodup ∧ ArgsR K F H ios pm ds vs ios ∧ match fn ds with
  | .ret r outs => ∀ v H' F', After K F H ios F' H' outs → ResR K rm H F' H' r v → Q v H'
  | .exc c fs outs => ∀ cls d H' F', After K F H ios F' H' outs → ErrR K F' c fs cls d → E cls d H'
  | .bad => False
def initP : List PM → List Vl → En
  | .sca :: pm, d :: ds => some ⟨.shr, d⟩ :: initP pm ds
  | .bor :: pm, d :: ds => some (mk .bor d) :: initP pm ds
  | .shr :: pm, d :: ds => some ⟨.shr, d⟩ :: initP pm ds
  | .io :: pm, d :: ds => some ⟨.io, d⟩ :: initP pm ds
  | _, _ => []
def initE (pm : List PM) (ds : List Vl) (n : Nat) : En := initP pm ds ++ List.replicate (n - pm.length) none
def outsOf : List PM → Nat → En → Option (List Vl)
  | [], _, _ => some []
  | .io :: pm, j, ρ => (match ρ[j]? with
    | some (some ⟨.io, d⟩) => (outsOf pm (j + 1) ρ).map (d :: ·)
    | _ => none)
  | _ :: pm, j, ρ => outsOf pm (j + 1) ρ
def resOk (rm : Bool) (s : Sv) : Bool := isSc s.d || (match s.m, rm with
  | .own, _ => true
  | .shr, false => true
  | _, _ => false)
def fin (pm : List PM) (rm : Bool) (s : Sv) (ρ : En) : FRes := match outsOf pm 0 ρ with
  | some outs => (match resOk rm s with
    | true => .ret s.d outs
    | false => .bad)
  | none => .bad
def runB (pm : List PM) (rm : Bool) (n : Nat) (body : SemS) : Fn := fun ds => match body (initE pm ds n) with
  | .ret s ρ => fin pm rm s ρ
  | .next ρ => fin pm rm ⟨.shr, .non⟩ ρ
  | .exc c fs ρ => (match outsOf pm 0 ρ with
    | some outs => .exc c fs outs
    | none => .bad)
  | _ => .bad
def ioIx : List PM → Nat → List Nat
  | [], _ => []
  | .io :: pm, j => j :: ioIx pm (j + 1)
  | _ :: pm, j => ioIx pm (j + 1)
section
variable {K : PySem.W.Frag} {F H : Hp} {all : List Addr}
theorem ArgsR.len : ∀ {pm : List PM} {ds : List Vl} {vs : List V} {as : List Addr} (j : Nat), ArgsR K F H all pm ds vs as → ds.length = pm.length ∧ vs.length = pm.length ∧ as.length = (ioIx pm j).length
  | [], [], [], _, _, h => by rw [show _ = [] from h]; exact ⟨rfl, rfl, rfl⟩
  | [], _ :: _, _, _, _, h => by cases h
  | [], [], _ :: _, _, _, h => by cases h
  | .sca :: pm, [], _, _, _, h => by cases h
  | .bor :: pm, [], _, _, _, h => by cases h
  | .shr :: pm, [], _, _, _, h => by cases h
  | .io :: pm, [], _, _, _, h => by cases h
  | .sca :: pm, _ :: _, [], _, _, h => by cases h
  | .bor :: pm, _ :: _, [], _, _, h => by cases h
  | .shr :: pm, _ :: _, [], _, _, h => by cases h
  | .io :: pm, _ :: _, [], _, _, h => by cases h
  | .sca :: pm, d :: ds, v :: vs, as, j, ⟨_, _, h⟩ => by
    obtain ⟨h1, h2, h3⟩ := h.len (j + 1)
    exact ⟨by rw [List.length_cons, List.length_cons, h1], by rw [List.length_cons, List.length_cons, h2], h3⟩
  | .bor :: pm, d :: ds, v :: vs, as, j, ⟨_, h⟩ => by
    obtain ⟨h1, h2, h3⟩ := h.len (j + 1)
    exact ⟨by rw [List.length_cons, List.length_cons, h1], by rw [List.length_cons, List.length_cons, h2], h3⟩
  | .shr :: pm, d :: ds, v :: vs, as, j, ⟨_, h⟩ => by
    obtain ⟨h1, h2, h3⟩ := h.len (j + 1)
    exact ⟨by rw [List.length_cons, List.length_cons, h1], by rw [List.length_cons, List.length_cons, h2], h3⟩
  | .io :: pm, d :: ds, v :: vs, as, j, ⟨a, r, e, _, _, h⟩ => by
    obtain ⟨h1, h2, h3⟩ := h.len (j + 1)
    subst e
    exact ⟨by rw [List.length_cons, List.length_cons, h1], by rw [List.length_cons, List.length_cons, h2], by show _ = (ioIx pm (j + 1)).length + 1; rw [List.length_cons, h3]⟩
theorem initP_len : ∀ {pm : List PM} {ds : List Vl}, ds.length = pm.length → (initP pm ds).length = pm.length
  | [], [], _ => rfl
  | [], _ :: _, h => by cases h
  | p :: pm, [], h => by cases h
  | p :: pm, d :: ds, h => by
    have ih := initP_len (pm := pm) (ds := ds) (by simpa using h)
    cases p <;> (show (initP pm ds).length + 1 = _; rw [ih]; rfl)
theorem args_slot {J : Jx} {B : Hp} {O : Addr → Option Ow} (hJ : J.K = K) (hB0 : J.B0 = mns H all) (hB : B = mns H all) (hF : Sub F B) : ∀ {pm : List PM} {ds : List Vl} {vs : List V} {as : List Addr} (j : Nat), ArgsR K F H all pm ds vs as →
    (∀ p ∈ (ioIx pm j).zip as, O p.2 = some (.inl p.1) ∧ J.ios.lookup p.1 = some p.2 ∧ B p.2 = none) →
    ∀ i s, (initP pm ds)[i]? = some (some s) → s.m ≠ .tmp ∧ ∃ v, vs[i]? = some v ∧ SR J F B H O (.inl (j + i)) s v
  | [], [], [], _, _, _, _, i, s, e => by cases e
  | [], _ :: _, _, _, _, h, _, _, _, _ => by cases h
  | [], [], _ :: _, _, _, h, _, _, _, _ => by cases h
  | .sca :: pm, [], _, _, _, h, _, _, _, _ => by cases h
  | .bor :: pm, [], _, _, _, h, _, _, _, _ => by cases h
  | .shr :: pm, [], _, _, _, h, _, _, _, _ => by cases h
  | .io :: pm, [], _, _, _, h, _, _, _, _ => by cases h
  | .sca :: pm, _ :: _, [], _, _, h, _, _, _, _ => by cases h
  | .bor :: pm, _ :: _, [], _, _, h, _, _, _, _ => by cases h
  | .shr :: pm, _ :: _, [], _, _, h, _, _, _, _ => by cases h
  | .io :: pm, _ :: _, [], _, _, h, _, _, _, _ => by cases h
  | .sca :: pm, d :: ds, v :: vs, as, j, ⟨_, r, h⟩, ho, i, s, e => by
    cases i with
    | zero => cases e; exact ⟨(fun z => nomatch z), v, rfl, by subst hJ; exact r⟩
    | succ i =>
      obtain ⟨h1, v, h2, h3⟩ := args_slot hJ hB0 hB hF (j + 1) h ho i s e
      exact ⟨h1, v, h2, by rw [show j + (i + 1) = j + 1 + i by omega]; exact h3⟩
  | .shr :: pm, d :: ds, v :: vs, as, j, ⟨r, h⟩, ho, i, s, e => by
    cases i with
    | zero => cases e; exact ⟨(fun z => nomatch z), v, rfl, by subst hJ; exact r⟩
    | succ i =>
      obtain ⟨h1, v, h2, h3⟩ := args_slot hJ hB0 hB hF (j + 1) h ho i s e
      exact ⟨h1, v, h2, by rw [show j + (i + 1) = j + 1 + i by omega]; exact h3⟩
  | .bor :: pm, d :: ds, v :: vs, as, j, ⟨r, h⟩, ho, i, s, e => by
    cases i with
    | zero =>
      cases e
      subst hJ hB
      refine ⟨?_, v, rfl, ?_⟩
      · unfold mk; split <;> exact fun z => nomatch z
      · unfold mk
        split
        · rename_i q; exact Rep.sc r q
        · show Rep J.K J.B0 d v
          rw [hB0]; exact r
    | succ i =>
      obtain ⟨h1, v, h2, h3⟩ := args_slot hJ hB0 hB hF (j + 1) h ho i s e
      exact ⟨h1, v, h2, by rw [show j + (i + 1) = j + 1 + i by omega]; exact h3⟩
  | .io :: pm, d :: ds, v :: vs, as, j, ⟨a, r, ea, ev, ⟨o, g, ow⟩, h⟩, ho, i, s, e => by
    subst ea
    have ho' : ∀ p ∈ (j :: ioIx pm (j + 1)).zip (a :: r), O p.2 = some (.inl p.1) ∧ J.ios.lookup p.1 = some p.2 ∧ B p.2 = none := ho
    cases i with
    | zero =>
      cases e
      obtain ⟨q1, q2, q3⟩ := ho' (j, a) List.mem_cons_self
      exact ⟨(fun z => nomatch z), v, rfl, a, o, ev, g, by rw [hJ]; exact ow, q1, q3, j, rfl, q2⟩
    | succ i =>
      obtain ⟨h1, v, h2, h3⟩ := args_slot hJ hB0 hB hF (j + 1) h (fun p hp => ho' p (List.mem_cons_of_mem _ hp)) i s e
      exact ⟨h1, v, h2, by rw [show j + (i + 1) = j + 1 + i by omega]; exact h3⟩
theorem outs_end {J : Jx} {B : Hp} {O : Addr → Option Ow} {ρ : En} {σ : St} {τ : List (Sv × V)} (hJ : J.K = K) (I : IvW J F B O ρ τ σ H) : ∀ {pm : List PM} {as : List Addr} {outs : List Vl} (j : Nat), as.length = (ioIx pm j).length →
    (∀ p ∈ (ioIx pm j).zip as, J.ios.lookup p.1 = some p.2) → outsOf pm j ρ = some outs → OutsR K F H outs as ∧ ∀ a ∈ as, B a = none
  | [], as, outs, j, hl, _, e => by
    cases e
    have : as = [] := List.length_eq_zero_iff.mp hl
    subst this
    exact ⟨rfl, fun a h => by cases h⟩
  | .sca :: pm, as, outs, j, hl, hp, e => outs_end hJ I (pm := pm) (j + 1) hl hp e
  | .bor :: pm, as, outs, j, hl, hp, e => outs_end hJ I (pm := pm) (j + 1) hl hp e
  | .shr :: pm, as, outs, j, hl, hp, e => outs_end hJ I (pm := pm) (j + 1) hl hp e
  | .io :: pm, [], outs, j, hl, hp, e => by cases hl
  | .io :: pm, a :: as, outs, j, hl, hp, e => by
    have e : (match ρ[j]? with
      | some (some ⟨.io, d⟩) => (outsOf pm (j + 1) ρ).map (d :: ·)
      | _ => none) = some outs := e
    have hp' : ∀ p ∈ (j :: ioIx pm (j + 1)).zip (a :: as), J.ios.lookup p.1 = some p.2 := hp
    cases q : ρ[j]? with
    | none => rw [q] at e; cases e
    | some x =>
      cases x with
      | none => rw [q] at e; cases e
      | some s =>
        obtain ⟨m, d⟩ := s
        rw [q] at e
        cases m with
        | io =>
          obtain ⟨ds, e1, e2⟩ := Option.map_eq_some_iff.mp (show (outsOf pm (j + 1) ρ).map (d :: ·) = some outs from e)
          subst e2
          obtain ⟨h1, h2⟩ := outs_end hJ I (pm := pm) (as := as) (j + 1) (Nat.succ.inj hl) (fun p h => hp' p (List.mem_cons_of_mem _ h)) e1
          obtain ⟨_, v, e3, a2, o, ev, g, r, qo, nb, i2, ei, lk⟩ := I.slot j _ q
          have ei' : j = i2 := Sum.inl.inj ei
          subst ei'
          have lk2 := hp' (j, a) List.mem_cons_self
          rw [lk] at lk2
          have : a2 = a := Option.some.inj lk2
          subst this
          rw [hJ] at r
          exact ⟨⟨a2, as, rfl, ⟨o, g, r⟩, h1⟩, fun b hb => by
            rcases List.mem_cons.mp hb with z | z
            · rw [z]; exact nb
            · exact h2 b z⟩
        | _ => cases e
end
theorem lookup_zip {is : List Nat} {as : List Addr} (nd : is.Nodup) : ∀ p ∈ is.zip as, (is.zip as).lookup p.1 = some p.2 := by
  induction is generalizing as with
  | nil => intro p h; simp at h
  | cons i is ih =>
    cases as with
    | nil => intro p h; simp at h
    | cons a as =>
      intro p h
      rw [List.zip_cons_cons] at h ⊢
      rw [List.lookup_cons]
      rcases List.mem_cons.mp h with z | z
      · subst z; simp
      · have hne : p.1 ≠ i := fun y => (List.nodup_cons.mp nd).1 (by rw [← y]; exact (List.of_mem_zip z).1)
        have : (p.1 == i) = false := by simpa using hne
        rw [this]
        exact ih (List.nodup_cons.mp nd).2 p z
theorem ioIx_ge : ∀ {pm : List PM} {j i : Nat}, i ∈ ioIx pm j → j ≤ i
  | [], _, _, h => by cases h
  | .sca :: pm, j, i, h => Nat.le_of_succ_le (ioIx_ge (pm := pm) h)
  | .bor :: pm, j, i, h => Nat.le_of_succ_le (ioIx_ge (pm := pm) h)
  | .shr :: pm, j, i, h => Nat.le_of_succ_le (ioIx_ge (pm := pm) h)
  | .io :: pm, j, i, h => by
    rcases List.mem_cons.mp (show i ∈ j :: ioIx pm (j + 1) from h) with z | z
    · exact Nat.le_of_eq z.symm
    · exact Nat.le_of_succ_le (ioIx_ge z)
theorem ioIx_nd : ∀ {pm : List PM} {j : Nat}, (ioIx pm j).Nodup
  | [], _ => List.nodup_nil
  | .sca :: pm, j => ioIx_nd (pm := pm)
  | .bor :: pm, j => ioIx_nd (pm := pm)
  | .shr :: pm, j => ioIx_nd (pm := pm)
  | .io :: pm, j => by
    show (j :: ioIx pm (j + 1)).Nodup
    exact List.nodup_cons.mpr ⟨fun h => Nat.not_succ_le_self _ (ioIx_ge h), ioIx_nd⟩
def ownOf (l : List (Nat × Addr)) (b : Addr) : Option Ow := match l with
  | [] => none
  | (i, a) :: r => if b = a then some (.inl i) else ownOf r b
theorem ownOf_zip {is : List Nat} {as : List Addr} (nd : as.Nodup) : ∀ p ∈ is.zip as, ownOf (is.zip as) p.2 = some (.inl p.1) := by
  induction is generalizing as with
  | nil => intro p h; simp at h
  | cons i is ih =>
    cases as with
    | nil => intro p h; simp at h
    | cons a as =>
      intro p h
      rw [List.zip_cons_cons] at h ⊢
      unfold ownOf
      rcases List.mem_cons.mp h with z | z
      · subst z; exact if_pos rfl
      · have hne : p.2 ≠ a := fun y => (List.nodup_cons.mp nd).1 (by rw [← y]; exact (List.of_mem_zip z).2)
        rw [if_neg hne]
        exact ih (List.nodup_cons.mp nd).2 p z
theorem zip_snd {is : List Nat} {as : List Addr} (h : as.length = is.length) : (is.zip as).map (·.2) = as := by
  induction is generalizing as with
  | nil => cases as with
    | nil => rfl
    | cons a as => cases h
  | cons i is ih => cases as with
    | nil => rfl
    | cons a as => rw [List.zip_cons_cons, List.map_cons, ih (by simpa using h)]
theorem entry {K : PySem.W.Frag} {F H : Hp} {ios : List Addr} {pm : List PM} {ds : List Vl} {vs : List V} {N : List Str} (hn : pm.length ≤ N.length) (hF : Sub F (mns H ios)) (nd : ios.Nodup) (a : ArgsR K F H ios pm ds vs ios) (iot : ∀ x, x ∈ ios → ∃ o, H x = some o) :
    Iv ⟨K, H, F, (ioIx pm 0).zip ios, none⟩ (initE pm ds N.length) [] (L2.start N vs) H := by
  obtain ⟨l1, l2, l3⟩ := a.len 0
  have em : ((ioIx pm 0).zip ios).map (·.2) = ios := zip_snd l3
  have eio : (Jx.mk K H F ((ioIx pm 0).zip ios) none).io = ios := em
  have eB0 : (Jx.mk K H F ((ioIx pm 0).zip ios) none).B0 = mns H ios := by
    funext b
    show (if b ∈ (Jx.mk K H F ((ioIx pm 0).zip ios) none).io then none else H b) = _
    rw [eio]; rfl
  refine ⟨F, mns H ios, ownOf ((ioIx pm 0).zip ios), ⟨hF, mns_sub, fun _ _ e => e, fun b o e => .inl e, fun b o e n => e, fun b hb => ?_⟩, ?_, fun i s e => ?_, trivial⟩
  · rw [eio] at hb; exact iot b hb
  · refine ⟨?_, fun i v e => by cases e⟩
    unfold initE L2.start
    rw [List.length_append, List.length_append, List.length_replicate, List.length_replicate, List.length_map, initP_len l1, l2]
  · have hi : i < (initP pm ds).length := by
      by_cases c : i < (initP pm ds).length
      · exact c
      · unfold initE at e
        rw [List.getElem?_append_right (Nat.le_of_not_lt c), List.getElem?_replicate] at e
        split at e <;> cases e
    have e2 : (initP pm ds)[i]? = some (some s) := by
      unfold initE at e
      rwa [List.getElem?_append_left hi] at e
    obtain ⟨h1, v, h2, h3⟩ := args_slot (J := ⟨K, H, F, (ioIx pm 0).zip ios, none⟩) (B := mns H ios) (O := ownOf ((ioIx pm 0).zip ios)) rfl eB0 rfl hF 0 a (fun p hp => ⟨ownOf_zip nd p hp, lookup_zip ioIx_nd p hp, mns_no (List.of_mem_zip hp).2⟩) i s e2
    rw [Nat.zero_add] at h3
    refine ⟨h1, v, ?_, h3⟩
    unfold L2.start
    have hv : i < vs.length := (List.getElem?_eq_some_iff.mp h2).1
    rw [List.getElem?_append_left (by rw [List.length_map]; exact hv), List.getElem?_map, h2]
    rfl
theorem after_of {K : PySem.W.Frag} {F H F' B' H' : Hp} {O' : Addr → Option Ow} {ios : List Addr} {pm : List PM} {outs : List Vl} {ρ : En} {σ : St} {τ : List (Sv × V)} (l3 : ios.length = (ioIx pm 0).length) (I : IvW ⟨K, H, F, (ioIx pm 0).zip ios, none⟩ F' B' O' ρ τ σ H') (ho : outsOf pm 0 ρ = some outs) : After K F H ios F' H' outs := by
  have eio : (Jx.mk K H F ((ioIx pm 0).zip ios) none).io = ios := zip_snd l3
  obtain ⟨h1, h2⟩ := outs_end (J := ⟨K, H, F, (ioIx pm 0).zip ios, none⟩) rfl I 0 l3 (fun p hp => lookup_zip ioIx_nd p hp) ho
  exact ⟨fun b o e n => I.base.keep b o e (by rw [eio]; exact n), I.base.f0, fun b o e => I.base.bh _ _ (I.base.fb b o e), I.base.new, h1, fun a ha => I.base.freeF (h2 a ha)⟩
theorem res_of {K : PySem.W.Frag} {F H F' B' H' : Hp} {O' : Addr → Option Ow} {ios : List (Nat × Addr)} {rm : Bool} {ρ : En} {σ : St} {s : Sv} {v : V} {τ : List (Sv × V)} (I : IvW ⟨K, H, F, ios, none⟩ F' B' O' ρ ((s, v) :: τ) σ H') (h : resOk rm s = true) (nf : s.m = .own → rm = true) : ResR K rm H F' H' s.d v := by
  unfold ResR
  split
  · rename_i q; exact Rep.sc (I.top.rep I.base) q
  · rename_i q
    have q' : isSc s.d = false := by simpa using q
    obtain ⟨m, d⟩ := s
    unfold resOk at h
    rw [q', Bool.false_or] at h
    cases m with
    | own =>
      rw [nf rfl]
      obtain ⟨a, o, e, g, r, _, nb, h0⟩ := I.top
      exact ⟨a, o, e, g, r, I.base.freeF nb, h0⟩
    | shr =>
      cases rm with
      | true => cases h
      | false => exact I.top
    | _ => cases rm <;> cases h
theorem argsR_io {K : PySem.W.Frag} {F H : Hp} {all : List Addr} : ∀ {pm : List PM} {ds : List Vl} {vs : List V} {as : List Addr}, ArgsR K F H all pm ds vs as → ∀ x, x ∈ as → ∃ o, H x = some o
  | [], [], [], _, h, x, hx => by rw [show _ = [] from h] at hx; cases hx
  | [], _ :: _, _, _, h, _, _ => by cases h
  | [], [], _ :: _, _, h, _, _ => by cases h
  | .sca :: pm, [], _, _, h, _, _ => by cases h
  | .bor :: pm, [], _, _, h, _, _ => by cases h
  | .shr :: pm, [], _, _, h, _, _ => by cases h
  | .io :: pm, [], _, _, h, _, _ => by cases h
  | .sca :: pm, _ :: _, [], _, h, _, _ => by cases h
  | .bor :: pm, _ :: _, [], _, h, _, _ => by cases h
  | .shr :: pm, _ :: _, [], _, h, _, _ => by cases h
  | .io :: pm, _ :: _, [], _, h, _, _ => by cases h
  | .sca :: pm, d :: ds, v :: vs, as, ⟨_, _, h⟩, x, hx => argsR_io h x hx
  | .bor :: pm, d :: ds, v :: vs, as, ⟨_, h⟩, x, hx => argsR_io h x hx
  | .shr :: pm, d :: ds, v :: vs, as, ⟨_, h⟩, x, hx => argsR_io h x hx
  | .io :: pm, d :: ds, v :: vs, as, ⟨a, r, e, _, ⟨o, g, _⟩, h⟩, x, hx => by
    subst e
    rcases List.mem_cons.mp hx with z | z
    · rw [z]; exact ⟨o, g⟩
    · exact argsR_io h x z
theorem body_ends {K : PySem.W.Frag} {F H : Hp} {ios : List Addr} {pm : List PM} {rm : Bool} {ds : List Vl} {n : Nat} {body : SemS} {Q : VK} {E : XK} (l3 : ios.length = (ioIx pm 0).length) (h : match runB pm rm n body ds with
    | .ret r outs => ∀ v H' F', After K F H ios F' H' outs → ResR K rm H F' H' r v → Q v H'
    | .exc c fs outs => ∀ cls d H' F', After K F H ios F' H' outs → ErrR K F' c fs cls d → E cls d H'
    | .bad => False) : OutS ⟨K, H, F, (ioIx pm 0).zip ios, none⟩ (fun cls d _ H => E cls d H) [] (body (initE pm ds n)) { nx := fun _ H' => Q .non H', rt := Q } := by
  have fin_ok : ∀ (s : Sv) (ρ : En), (match fin pm rm s ρ with
    | .ret r outs => ∀ v H' F', After K F H ios F' H' outs → ResR K rm H F' H' r v → Q v H'
    | .exc c fs outs => ∀ cls d H' F', After K F H ios F' H' outs → ErrR K F' c fs cls d → E cls d H'
    | .bad => False) → ∀ v σ H', Iv ⟨K, H, F, (ioIx pm 0).zip ios, none⟩ ρ [(s, v)] σ H' → Q v H' := fun s ρ h v σ H' I => by
    unfold fin at h
    cases e : outsOf pm 0 ρ with
    | none => rw [e] at h; exact h.elim
    | some outs =>
      rw [e] at h
      replace h : (match (match resOk rm s with | true => FRes.ret s.d outs | false => FRes.bad) with
        | .ret r outs => ∀ v H' F', After K F H ios F' H' outs → ResR K rm H F' H' r v → Q v H'
        | .exc c fs outs => ∀ cls d H' F', After K F H ios F' H' outs → ErrR K F' c fs cls d → E cls d H'
        | .bad => False) := h
      cases z : resOk rm s with
      | false => rw [z] at h; exact h.elim
      | true =>
        rw [z] at h
        obtain ⟨m, d⟩ := s
        by_cases y : m = .own ∧ rm = false
        · obtain ⟨y1, y2⟩ := y
          subst y1 y2
          obtain ⟨F', B', O', I⟩ := I
          obtain ⟨F', B', O', I2⟩ := I.frz
          have I3 : IvW ⟨K, H, F, (ioIx pm 0).zip ios, none⟩ F' B' O' ρ [(⟨.shr, d⟩, v)] σ H' := I2
          refine h v H' F' (after_of l3 I3 e) ?_
          unfold ResR
          split
          · exact I3.top
          · exact I3.top
        · obtain ⟨F', B', O', I⟩ := I
          refine h v H' F' (after_of l3 I e) (res_of I z fun q => ?_)
          cases rm with
          | true => rfl
          | false => exact absurd ⟨q, rfl⟩ y
  unfold runB at h
  cases e : body (initE pm ds n) with
  | ret s ρ => rw [e] at h; exact fun v σ H' I => fin_ok s ρ h v σ H' I
  | next ρ =>
    rw [e] at h
    refine fun σ H' I => fin_ok ⟨.shr, .non⟩ ρ h .non σ H' ?_
    obtain ⟨F', B', O', I⟩ := I
    exact I.push (s := ⟨.shr, .non⟩) rfl
  | exc c fs ρ =>
    rw [e] at h
    rintro cls d σ H' ⟨F', B', O', I, er⟩
    replace h : (match (match outsOf pm 0 ρ with | some outs => FRes.exc c fs outs | none => FRes.bad) with
        | .ret r outs => ∀ v H' F', After K F H ios F' H' outs → ResR K rm H F' H' r v → Q v H'
        | .exc c fs outs => ∀ cls d H' F', After K F H ios F' H' outs → ErrR K F' c fs cls d → E cls d H'
        | .bad => False) := h
    cases z : outsOf pm 0 ρ with
    | none => rw [z] at h; exact h.elim
    | some outs => rw [z] at h; exact h cls d H' F' (after_of l3 I z) er
  | brk ρ => rw [e] at h; exact h.elim
  | cont ρ => rw [e] at h; exact h.elim
  | bad => rw [e] at h; exact h.elim
theorem fn_mv {P : Program} {w : World} {K : PySem.W.Frag} {mg : Str → Option Value} {base : Heap} {x qual : Str} {params : Arguments} {body : List Stmt} {scope : Scope} {dvs : List V} {kws : List (Str × V)} {f : Addr} {fd : FuncData} {N ps : List Str} {k : Nat} {pm : List PM} {rm : Bool} {bd : SemS}
    (F : FunD K x qual params body scope dvs kws f fd) (S : FnScope N ps scope) (hp : pm.length = ps.length)
    (hb : ∀ (cdv : Value) (A : Around) (outer : List Env) (s : Shared) (H : Hp) (E : XK) (J : Jx), J.K = K → J.fx = none → Room k (A.deeper (envOfC qual scope s.heap.objs.size f cdv)) →
      XB (cxOf (L2N.CX P w) P w K mg base N qual scope f cdv A outer s H E) J (fun cls d _ H => E cls d H) body bd) :
    FnOk P w K mg base (L2N.CX P w) (k + 1) f fd ps (spF K pm rm (runB pm rm N.length bd)) := by
  have hpl : ps.length ≤ N.length := by have := congrArg List.length S.pre; rw [List.length_take] at this; omega
  refine F.ok S (fun vs H Q E h => ?_) fun cdv A outer s H vs Q E hr h => ?_
  · obtain ⟨F0, ios, ds, _, _, a, _⟩ := h
    rw [(a.len 0).2.1, hp]
  · obtain ⟨F0, ios, ds, hF, nd, a, m⟩ := h
    refine ⟨_, (hb cdv A outer s H E ⟨K, H, F0, (ioIx pm 0).zip ios, none⟩ rfl rfl hr).pss, initE pm ds N.length, [], entry (by rw [hp]; exact hpl) hF nd a (argsR_io a), fun _ h => by simp at h, body_ends (a.len 0).2.2 m⟩
end MV
namespace MV
open PySem PySem.Spec PyProof.Rows L2
def CallAt (X : Cx) (W : WX) (f : Addr) (sp : Sp) : Prop := ∀ (pins : List (Addr × Obj)) (σ : St) (H : Hp) (s : Shared) (Q : VK) (us : List Value) (vs : List V), Inv X pins σ H s → Vals vs us → sp vs H Q (WE W σ) →
  wpAny (model X.prog X.w) X.A (call (.ref f) us) (EP X pins σ Q) X.xe s
theorem callAt0 {X : Cx} {W : WX} {k : Nat} {f : Addr} {fd : FuncData} {ps : List Str} {sp : Sp} (F : FnOk X.prog X.w X.K X.mg X.base (L2N.CX X.prog X.w) k f fd ps sp) (hr : Room k X.A) (hb : Binds X.K fd ps []) (tk : Takes X W) :
    CallAt X W f sp := fun pins σ H s Q us vs I r h => run_fnS F hr hb (passAt tk σ) I r h
def ioSl : List PM → List Ar → List Nat
  | .io :: pm, .sl i :: as => i :: ioSl pm as
  | _ :: pm, _ :: as => ioSl pm as
  | _, _ => []
def chkA (is : List Nat) : List PM → List Ar → Bool
  | [], [] => true
  | .io :: pm, .sl _ :: as => chkA is pm as
  | .io :: _, .ex _ :: _ => false
  | _ :: pm, .sl i :: as => !(is.contains i) && chkA is pm as
  | _ :: pm, .ex _ :: as => chkA is pm as
  | _, _ => false
def arV (ρ : En) : Ar → Option Sv
  | .ex s => some s
  | .sl i => match ρ[i]? with
    | some (some s) => some s
    | _ => none
def arD (p : PM) (s : Sv) : Option Vl := match p with
  | .sca => if isSc s.d then some s.d else none
  | .bor => if s.m.isT then none else some s.d
  | .shr => match s.m with
    | .shr => some s.d
    | _ => none
  | .io => match s.m with
    | .own => some s.d
    | .io => some s.d
    | _ => none
def argVs (ρ : En) : List PM → List Ar → Option (List Vl)
  | [], [] => some []
  | p :: pm, a :: as => match arV ρ a with
    | some s => match arD p s with
      | some d => (argVs ρ pm as).map (d :: ·)
      | none => none
    | none => none
  | _, _ => none
theorem arV_sl {ρ : En} {i : Nat} : arV ρ (.sl i) = (match ρ[i]? with
    | some (some s) => some s
    | _ => none) := rfl
theorem argVs_cons {ρ : En} {p : PM} {pm : List PM} {a : Ar} {as : List Ar} : argVs ρ (p :: pm) (a :: as) = (match arV ρ a with
    | some s => match arD p s with
      | some d => (argVs ρ pm as).map (d :: ·)
      | none => none
    | none => none) := rfl
def putD (ρ : En) (i : Nat) (d : Vl) : En := match ρ[i]? with
  | some (some ⟨m, _⟩) => ρ.set i (some ⟨m, d⟩)
  | _ => ρ
def setOuts : List Nat → List Vl → En → En
  | i :: is, d :: ds, ρ => setOuts is ds (putD ρ i d)
  | _, _, ρ => ρ
def resM (rm : Bool) (r : Vl) : Sv := if isSc r then ⟨.shr, r⟩ else match rm with
  | true => ⟨.own, r⟩
  | false => ⟨.shr, r⟩
def ndB : List Nat → Bool
  | [] => true
  | i :: is => !(is.contains i) && ndB is
theorem ndB_nd : ∀ {is : List Nat}, ndB is = true → is.Nodup
  | [], _ => List.nodup_nil
  | i :: is, h => by
    obtain ⟨h1, h2⟩ := Bool.and_eq_true_iff.mp (show (!(is.contains i) && ndB is) = true from h)
    refine List.nodup_cons.mpr ⟨fun z => ?_, ndB_nd h2⟩
    rw [List.contains_iff_mem.mpr z] at h1
    cases h1
def kCall (pm : List PM) (rm : Bool) (fn : Fn) (as : List Ar) (ρ : En) : Rs Sv :=
  grd (ndB (ioSl pm as) && chkA (ioSl pm as) pm as) (match argVs ρ pm as with
    | none => .bad
    | some ds => match fn ds with
      | .ret r outs => .ok (resM rm r) (setOuts (ioSl pm as) outs ρ)
      | .exc c fs outs => .exc c fs (setOuts (ioSl pm as) outs ρ)
      | .bad => .bad)
def fCall (pm : List PM) (rm : Bool) (fn : Fn) (fa : SemA) : Sem1 := fun ρ => bnd (fa ρ) fun as ρ1 => kCall pm rm fn as ρ1
def adr (σ : St) (i : Nat) : Addr := match σ[i]? with
  | some (some (.ref a)) => a
  | _ => 0
def isO : Md → Bool
  | .own => true
  | .io => true
  | _ => false
section
variable {J : Jx} {F B H : Hp} {O : Addr → Option Ow} {ρ : En} {τ : List (Sv × V)} {σ : St} {ow : Ow} {s : Sv} {v : V}
theorem IvW.oslot {i : Nat} {m : Md} {d : Vl} (I : IvW J F B O ρ τ σ H) (e : ρ[i]? = some (some ⟨m, d⟩)) (hm : isO m = true) : σ[i]? = some (some (.ref (adr σ i))) ∧ (∃ o, H (adr σ i) = some o ∧ OwnO J.K F d o) ∧ O (adr σ i) = some (.inl i) ∧ B (adr σ i) = none ∧ (J.H0 (adr σ i) = none ∨ adr σ i ∈ J.io) := by
  obtain ⟨_, v, e1, r⟩ := I.slot i _ e
  cases m with
  | own =>
    obtain ⟨a, o, ev, g, w, q, n, z⟩ := r
    subst ev
    have : adr σ i = a := by unfold adr; rw [e1]
    rw [this]
    exact ⟨e1, ⟨o, g, w⟩, q, n, .inl z⟩
  | io =>
    obtain ⟨a, o, ev, g, w, q, n, j, ej, z⟩ := r
    subst ev
    have : adr σ i = a := by unfold adr; rw [e1]
    rw [this]
    exact ⟨e1, ⟨o, g, w⟩, q, n, .inr (lookup_io z)⟩
  | _ => cases hm
def OSl (ρ : En) (i : Nat) : Prop := ∃ m d, ρ[i]? = some (some ⟨m, d⟩) ∧ isO m = true
theorem arD_sca {s : Sv} {d : Vl} (e : arD .sca s = some d) : isSc s.d = true ∧ d = s.d := by
  unfold arD at e
  split at e
  · rename_i z; split at e
    · rename_i q; cases e; exact ⟨q, rfl⟩
    · cases e
  all_goals (rename_i h; cases h)
theorem arD_bor {s : Sv} {d : Vl} (e : arD .bor s = some d) : d = s.d ∧ s.m ≠ .tmp := by
  obtain ⟨m, d0⟩ := s
  cases m <;> first | (cases e; done) | (cases e; exact ⟨rfl, fun z => nomatch z⟩)
theorem Rep.up {K : PySem.W.Frag} {G G' : Hp} {d : Vl} {v : V} (q : Sub G G') (h : Rep K G d v) : Rep K G' d v := Rep.mono q h
theorem fmns {is : List Nat} (I : IvW J F B O ρ τ σ H) (ok : ∀ i ∈ is, OSl ρ i) : Sub F (mns H (is.map (adr σ))) := fun b o e => by
  refine mns_of (I.base.bh _ _ (I.base.fb _ _ e)) fun hm => ?_
  obtain ⟨i, hi, rfl⟩ := List.mem_map.mp hm
  obtain ⟨m, d, e1, e2⟩ := ok i hi
  have := (I.oslot e1 e2).2.2.2.1
  rw [I.base.fb _ _ e] at this
  cases this
theorem b0mns {is : List Nat} (I : IvW J F B O ρ τ σ H) (ok : ∀ i ∈ is, OSl ρ i) : Sub J.B0 (mns H (is.map (adr σ))) := fun b o e => by
  refine mns_of (I.base.b0h _ _ e) fun hm => ?_
  obtain ⟨i, hi, rfl⟩ := List.mem_map.mp hm
  obtain ⟨m, d, e1, e2⟩ := ok i hi
  unfold Jx.B0 at e
  split at e
  · cases e
  · rename_i n
    rcases (I.oslot e1 e2).2.2.2.2 with z | z
    · rw [z] at e; cases e
    · exact n z
theorem SR.bor {is : List Nat} (I : IvW J F B O ρ τ σ H) (ok : ∀ i ∈ is, OSl ρ i) (h : SR J F B H O ow s v) (nt : s.m ≠ .tmp) (hw : ∀ i ∈ is, ow ≠ .inl i) : Rep J.K (mns H (is.map (adr σ))) s.d v := by
  have key : ∀ {a : Addr} {o : HO}, H a = some o → O a = some ow → mns H (is.map (adr σ)) a = some o := fun {a o} g q => mns_of g fun hm => by
    obtain ⟨i, hi, e⟩ := List.mem_map.mp hm
    obtain ⟨m, d, e1, e2⟩ := ok i hi
    have := (I.oslot e1 e2).2.2.1
    rw [e, q] at this
    exact hw i hi (Option.some.inj this)
  obtain ⟨m, d⟩ := s
  cases m with
  | shr => exact Rep.mono (fmns I ok) h
  | bor => exact Rep.mono (b0mns I ok) h
  | tmp => exact absurd rfl nt
  | own => obtain ⟨a, o, e, g, r, q, _⟩ := h; subst e; exact r.rep (fmns I ok) (key g q)
  | io => obtain ⟨a, o, e, g, r, q, _⟩ := h; subst e; exact r.rep (fmns I ok) (key g q)
theorem nmem_of {is : List Nat} {i : Nat} (h : (!(is.contains i)) = true) : ∀ j ∈ is, (Sum.inl i : Ow) ≠ .inl j := fun j hj e => by
  cases e
  rw [List.contains_iff_mem.mpr hj] at h
  cases h
theorem args_R {is : List Nat} (nt : NoTmp τ) (ok : ∀ i ∈ is, OSl ρ i) : ∀ (pm : List PM) (as : List Ar) (ds : List Vl) (vs : List V) (τ τ' : List (Sv × V)), argVs ρ pm as = some ds → chkA is pm as = true → (∀ i ∈ ioSl pm as, i ∈ is) → Stk σ as vs τ τ' → IvW J F B O ρ τ' σ H →
    IvW J F B O ρ τ σ H ∧ ArgsR J.K F H (is.map (adr σ)) pm ds vs ((ioSl pm as).map (adr σ))
  | [], [], ds, vs, τ, τ', e, _, _, k, I => by
    cases e
    cases vs with
    | nil => rw [show τ' = τ from k] at I; exact ⟨I, rfl⟩
    | cons v vs => exact k.elim
  | [], a :: as, _, _, _, _, e, _, _, _, _ => by cases e
  | p :: pm, [], _, _, _, _, e, _, _, _, _ => by cases e
  | p :: pm, .ex s :: as, ds, [], τ, τ', e, c, hi, k, I => k.elim
  | p :: pm, .sl i :: as, ds, [], τ, τ', e, c, hi, k, I => k.elim
  | p :: pm, .ex s :: as, ds, v :: vs, τ, τ', e, c, hi, k, I => by
    have e' : (match arD p s with | some d => (argVs ρ pm as).map (d :: ·) | none => none) = some ds := e
    cases ed : arD p s with
    | none => rw [ed] at e'; cases e'
    | some d =>
      rw [ed] at e'
      obtain ⟨ds', e1, e2⟩ := Option.map_eq_some_iff.mp (show (argVs ρ pm as).map (d :: ·) = some ds from e')
      subst e2
      cases p with
      | io => cases c
      | sca =>
        obtain ⟨I1, r⟩ := args_R nt ok pm as ds' vs ((s, v) :: τ) τ' e1 c hi k I
        obtain ⟨q, hd⟩ := arD_sca ed
        subst hd
        exact ⟨I1.drop1, q, Rep.sc (I1.top.rep I1.base) q, r⟩
      | bor =>
        obtain ⟨I1, r⟩ := args_R nt ok pm as ds' vs ((s, v) :: τ) τ' e1 c hi k I
        obtain ⟨hd, nts⟩ := arD_bor ed
        subst hd
        exact ⟨I1.drop1, I1.top.bor I1 ok nts (fun _ _ z => nomatch z), r⟩
      | shr =>
        obtain ⟨I1, r⟩ := args_R nt ok pm as ds' vs ((s, v) :: τ) τ' e1 c hi k I
        obtain ⟨m, d0⟩ := s
        cases m <;> first | (cases ed; done) | (cases ed; exact ⟨I1.drop1, I1.top, r⟩)
  | p :: pm, .sl i :: as, ds, v :: vs, τ, τ', e, c, hi, k, I => by
    cases es : ρ[i]? with
    | none => rw [argVs_cons, arV_sl, es] at e; cases e
    | some so =>
      cases so with
      | none => rw [argVs_cons, arV_sl, es] at e; cases e
      | some s =>
        have e' : (match arD p s with | some d => (argVs ρ pm as).map (d :: ·) | none => none) = some ds := by
          rw [argVs_cons, arV_sl, es] at e; exact e
        cases ed : arD p s with
        | none => rw [ed] at e'; cases e'
        | some d =>
          rw [ed] at e'
          obtain ⟨ds', e1, e2⟩ := Option.map_eq_some_iff.mp (show (argVs ρ pm as).map (d :: ·) = some ds from e')
          subst e2
          obtain ⟨k1, k2⟩ := (show σ[i]? = some (some v) ∧ Stk σ as vs τ τ' from k)
          obtain ⟨nts, v', ev, r0⟩ := I.slot i s es
          rw [k1] at ev
          cases ev
          cases p with
          | io =>
            obtain ⟨I1, r⟩ := args_R nt ok pm as ds' vs τ τ' e1 c (fun j hj => hi j (List.mem_cons_of_mem _ hj)) k2 I
            have ho : ∃ m, s = ⟨m, d⟩ ∧ isO m = true := by
              obtain ⟨m, d0⟩ := s
              cases m <;> first | (cases ed; done) | (cases ed; exact ⟨_, rfl, rfl⟩)
            obtain ⟨m, hs, hm⟩ := ho
            subst hs
            obtain ⟨z1, z2, _⟩ := I1.oslot es hm
            rw [k1] at z1
            have z1 : v = .ref (adr σ i) := Option.some.inj (Option.some.inj z1)
            exact ⟨I1, adr σ i, _, rfl, z1, z2, r⟩
          | sca =>
            have c' := Bool.and_eq_true_iff.mp (show (!(is.contains i) && chkA is pm as) = true from c)
            obtain ⟨I1, r⟩ := args_R nt ok pm as ds' vs τ τ' e1 c'.2 hi k2 I
            obtain ⟨q, hd⟩ := arD_sca ed
            subst hd
            exact ⟨I1, q, Rep.sc (r0.rep I.base) q, r⟩
          | bor =>
            have c' := Bool.and_eq_true_iff.mp (show (!(is.contains i) && chkA is pm as) = true from c)
            obtain ⟨I1, r⟩ := args_R nt ok pm as ds' vs τ τ' e1 c'.2 hi k2 I
            obtain ⟨hd, nts⟩ := arD_bor ed
            subst hd
            exact ⟨I1, r0.bor I ok nts (nmem_of c'.1), r⟩
          | shr =>
            have c' := Bool.and_eq_true_iff.mp (show (!(is.contains i) && chkA is pm as) = true from c)
            obtain ⟨I1, r⟩ := args_R nt ok pm as ds' vs τ τ' e1 c'.2 hi k2 I
            obtain ⟨m, d0⟩ := s
            cases m <;> first | (cases ed; done) | (cases ed; exact ⟨I1, r0, r⟩)
theorem ioSl_ok : ∀ {pm : List PM} {as : List Ar} {ds : List Vl}, argVs ρ pm as = some ds → ∀ i ∈ ioSl pm as, OSl ρ i
  | [], as, ds, e, i, hi => by cases as <;> cases hi
  | p :: pm, [], ds, e, i, hi => by cases e
  | p :: pm, a :: as, ds, e, i, hi => by
    unfold argVs at e
    cases ea : arV ρ a with
    | none => rw [ea] at e; cases e
    | some s =>
      rw [ea] at e
      replace e : (match arD p s with | some d => (argVs ρ pm as).map (d :: ·) | none => none) = some ds := e
      cases ed : arD p s with
      | none => rw [ed] at e; cases e
      | some d =>
        rw [ed] at e
        obtain ⟨ds', e1, _⟩ := Option.map_eq_some_iff.mp (show (argVs ρ pm as).map (d :: ·) = some ds from e)
        cases p with
        | io =>
          cases a with
          | ex s => exact ioSl_ok e1 i hi
          | sl j =>
            rcases List.mem_cons.mp (show i ∈ j :: ioSl pm as from hi) with z | z
            · subst z
              rw [arV_sl] at ea
              cases er : ρ[i]? with
              | none => rw [er] at ea; cases ea
              | some so =>
                cases so with
                | none => rw [er] at ea; cases ea
                | some s' =>
                  rw [er] at ea
                  cases ea
                  obtain ⟨m, d0⟩ := s
                  cases m <;> first | (cases ed; done) | exact ⟨_, _, er, rfl⟩
            · exact ioSl_ok e1 i z
        | sca => cases a <;> exact ioSl_ok e1 i hi
        | bor => cases a <;> exact ioSl_ok e1 i hi
        | shr => cases a <;> exact ioSl_ok e1 i hi
theorem putD_ne {ρ : En} {i j : Nat} {d : Vl} (h : i ≠ j) : (putD ρ i d)[j]? = ρ[j]? := by
  unfold putD
  split
  · rw [List.getElem?_set_ne h]
  · rfl
theorem putD_len {ρ : En} {i : Nat} {d : Vl} : (putD ρ i d).length = ρ.length := by
  unfold putD
  split
  · rw [List.length_set]
  · rfl
theorem setOuts_len : ∀ {is : List Nat} {ds : List Vl} {ρ : En}, (setOuts is ds ρ).length = ρ.length
  | [], _, _ => rfl
  | _ :: _, [], _ => rfl
  | i :: is, d :: ds, ρ => by
    show (setOuts is ds (putD ρ i d)).length = _
    rw [setOuts_len, putD_len]
theorem setOuts_ne : ∀ {is : List Nat} {ds : List Vl} {ρ : En} {j : Nat}, j ∉ is → (setOuts is ds ρ)[j]? = ρ[j]?
  | [], _, _, _, _ => rfl
  | _ :: _, [], _, _, _ => rfl
  | i :: is, d :: ds, ρ, j, h => by
    show (setOuts is ds (putD ρ i d))[j]? = _
    rw [setOuts_ne fun z => h (List.mem_cons_of_mem _ z), putD_ne fun z => h (by rw [z]; exact List.mem_cons_self)]
theorem setOuts_at {K : PySem.W.Frag} {F' H' : Hp} {g : Nat → Addr} : ∀ {is : List Nat} {ds : List Vl} {ρ : En}, is.Nodup → OutsR K F' H' ds (is.map g) → ∀ j ∈ is, ∀ m d0, ρ[j]? = some (some ⟨m, d0⟩) → ∃ d, (setOuts is ds ρ)[j]? = some (some ⟨m, d⟩) ∧ ∃ o, H' (g j) = some o ∧ OwnO K F' d o
  | [], _, _, _, _, j, hj, _, _, _ => by cases hj
  | i :: is, [], ρ, nd, h, j, hj, m, d0, e => by cases h
  | i :: is, d :: ds, ρ, nd, ⟨a, r, ea, hd, h⟩, j, hj, m, d0, e => by
    obtain ⟨rfl, rfl⟩ := List.cons.inj ea
    obtain ⟨n1, n2⟩ := List.nodup_cons.mp nd
    show ∃ d', (setOuts is ds (putD ρ i d))[j]? = some (some ⟨m, d'⟩) ∧ _
    rcases List.mem_cons.mp hj with z | z
    · subst z
      refine ⟨d, ?_, hd⟩
      rw [setOuts_ne n1]
      unfold putD
      rw [e]
      show (ρ.set j (some ⟨m, d⟩))[j]? = _
      rw [List.getElem?_set_self (List.getElem?_eq_some_iff.mp e).1]
    · exact setOuts_at n2 h j z m d0 (by rw [putD_ne fun y => n1 (by rw [y]; exact z)]; exact e)
def bUp (B F' : Hp) : Hp := fun b => match B b with
  | some o => some o
  | none => F' b
theorem bUp_none {B F' : Hp} {a : Addr} (h1 : B a = none) (h2 : F' a = none) : bUp B F' a = none := by unfold bUp; rw [h1]; exact h2
theorem bUp_old {B F' : Hp} {a : Addr} {o : HO} (h1 : B a = some o) : bUp B F' a = some o := by unfold bUp; rw [h1]
def oUp (O : Addr → Option Ow) (H : Hp) : Addr → Option Ow := fun b => match H b with
  | some _ => O b
  | none => none
theorem oUp_old {O : Addr → Option Ow} {H : Hp} {a : Addr} {o : HO} (g : H a = some o) : oUp O H a = O a := by unfold oUp; rw [g]
theorem oUp_none {O : Addr → Option Ow} {H : Hp} {a : Addr} (g : H a = none) : oUp O H a = none := by unfold oUp; rw [g]
theorem IvW.call {F' H' : Hp} {is : List Nat} {outs : List Vl} (I : IvW J F B O ρ τ σ H) (nt : NoTmp τ) (nd : is.Nodup) (ok : ∀ i ∈ is, OSl ρ i) (A : After J.K F H (is.map (adr σ)) F' H' outs) :
    IvW J F' (bUp B F') (oUp O H) (setOuts is outs ρ) τ σ H' := by
  have own : ∀ a ∈ is.map (adr σ), ∃ i ∈ is, O a = some (.inl i) ∧ B a = none ∧ (J.H0 a = none ∨ a ∈ J.io) ∧ ∃ o, H a = some o := fun a ha => by
    obtain ⟨i, hi, rfl⟩ := List.mem_map.mp ha
    obtain ⟨m, d, e1, e2⟩ := ok i hi
    obtain ⟨_, ⟨o, g, _⟩, q, n, z⟩ := I.oslot e1 e2
    exact ⟨i, hi, q, n, z, o, g⟩
  have keepB : ∀ b o, B b = some o → H' b = some o := fun b o e => A.keep b o (I.base.bh _ _ e) fun z => by
    obtain ⟨_, _, _, n, _⟩ := own b z; rw [e] at n; cases n
  have freeF : ∀ a, (∃ o, H a = some o) → B a = none → F' a = none := fun a ⟨o, g⟩ n => by
    cases e : F' a with
    | none => rfl
    | some u =>
      rcases A.new a u e with z | z
      · rw [I.base.fb _ _ z] at n; cases n
      · rw [g] at z; cases z
  have fB : Sub F' (bUp B F') := fun b o e => by
    cases z : B b with
    | none => unfold bUp; rw [z]; exact e
    | some u =>
      rw [bUp_old z]
      rcases A.new b o e with y | y
      · rw [I.base.fb _ _ y] at z; exact z.symm
      · rw [I.base.bh _ _ z] at y; cases y
  have base : Base J F' (bUp B F') H' := by
    refine ⟨fB, fun b o e => ?_, fun b o e => A.ff _ _ (I.base.f0 _ _ e), fun b o e => ?_, fun b o e q => ?_, fun b e => ?_⟩
    · cases z : B b with
      | none => unfold bUp at e; rw [z] at e; exact A.fh _ _ e
      | some u => rw [bUp_old z] at e; cases e; exact keepB _ _ z
    · rcases A.new b o e with z | z
      · exact I.base.new _ _ z
      · exact .inr (I.base.freeH0 z)
    · refine A.keep b o (I.base.keep _ _ e q) fun z => ?_
      obtain ⟨_, _, _, _, y, _⟩ := own b z
      rcases y with y | y
      · rw [e] at y; cases y
      · exact q y
    · obtain ⟨o, g⟩ := I.base.iot b e
      by_cases z : b ∈ is.map (adr σ)
      · obtain ⟨i, hi, rfl⟩ := List.mem_map.mp z
        obtain ⟨m, d, e1, e2⟩ := ok i hi
        obtain ⟨d', _, o', g', _⟩ := setOuts_at nd A.outs i hi m d e1
        exact ⟨o', g'⟩
      · exact ⟨o, A.keep b o g z⟩
  have keep : ∀ (ow : Ow) (s : Sv) (v : V), s.m ≠ .tmp → (∀ i ∈ is, ow ≠ .inl i) → SR J F B H O ow s v → SR J F' (bUp B F') H' (oUp O H) ow s v := fun ow s v n1 n2 h => by
    have nm : ∀ {a : Addr}, O a = some ow → a ∉ is.map (adr σ) := fun {a} q z => by
      obtain ⟨i, hi, y, _⟩ := own a z
      rw [q] at y
      exact n2 i hi (Option.some.inj y)
    obtain ⟨m, d⟩ := s
    cases m with
    | shr => exact Rep.mono A.ff h
    | bor => exact h
    | tmp => exact absurd rfl n1
    | own =>
      obtain ⟨a, o, e, g, r, q, n, z⟩ := h
      exact ⟨a, o, e, A.keep _ _ g (nm q), r.mono A.ff, (oUp_old g).trans q, bUp_none n (freeF a ⟨o, g⟩ n), z⟩
    | io =>
      obtain ⟨a, o, e, g, r, q, n, z⟩ := h
      exact ⟨a, o, e, A.keep _ _ g (nm q), r.mono A.ff, (oUp_old g).trans q, bUp_none n (freeF a ⟨o, g⟩ n), z⟩
  refine ⟨base, I.len.of setOuts_len, fun j s e => ?_, I.temp.imp fun s v k hm _ h => keep _ s v (nt _ hm) (fun _ _ z => nomatch z) h⟩
  by_cases hj : j ∈ is
  · obtain ⟨m, d, e1, e2⟩ := ok j hj
    obtain ⟨d', e3, o', g', r'⟩ := setOuts_at nd A.outs j hj m d e1
    rw [e3] at e
    cases e
    obtain ⟨t, v, e4, h⟩ := I.slot j _ e1
    refine ⟨t, v, e4, ?_⟩
    have fr : F' (adr σ j) = none := A.iof _ (List.mem_map.mpr ⟨j, hj, rfl⟩)
    cases m with
    | own =>
      obtain ⟨a, o, ev, g, r, q, n, z⟩ := h
      subst ev
      have ha : adr σ j = a := by unfold adr; rw [e4]
      rw [ha] at g' fr
      exact ⟨a, o', rfl, g', r', (oUp_old g).trans q, bUp_none n fr, z⟩
    | io =>
      obtain ⟨a, o, ev, g, r, q, n, z⟩ := h
      subst ev
      have ha : adr σ j = a := by unfold adr; rw [e4]
      rw [ha] at g' fr
      exact ⟨a, o', rfl, g', r', (oUp_old g).trans q, bUp_none n fr, z⟩
    | _ => cases e2
  · rw [setOuts_ne hj] at e
    obtain ⟨t, v, e4, h⟩ := I.slot j s e
    exact ⟨t, v, e4, keep _ s v t (fun i hi z => hj (by cases z; exact hi)) h⟩
theorem IvW.res {F' H0 H' : Hp} {B' : Hp} {rm : Bool} {r : Vl} (I : IvW J F' B' O ρ τ σ H') (hn : ∀ a, H0 a = none → J.H0 a = none ∧ (F' a = none → B' a = none) ∧ O a = none) (h : ResR J.K rm H0 F' H' r v) : Iv J ρ ((resM rm r, v) :: τ) σ H' := by
  unfold ResR at h
  unfold resM
  split
  · rename_i q
    rw [if_pos q] at h
    exact I.push (s := ⟨.shr, r⟩) h
  · rename_i q
    rw [if_neg q] at h
    cases rm with
    | false => exact I.push (s := ⟨.shr, r⟩) h
    | true =>
      obtain ⟨a, o, ev, g, w, f, n⟩ := h
      obtain ⟨h1, h2, h3⟩ := hn a n
      have hO : ∀ (ow : Ow) s v, SR J F' B' H' O ow s v → SR J F' B' H' (fun b => if b = a then some (.inr τ.length) else O b) ow s v := fun ow s v h => by
        have ne : ∀ {x : Addr} {ow : Ow}, O x = some ow → x ≠ a := fun {x ow} e z => by subst z; rw [h3] at e; cases e
        obtain ⟨m, d⟩ := s
        cases m with
        | shr => exact h
        | bor => exact h
        | tmp => obtain ⟨x, u, e, g, r, j, q⟩ := h; exact ⟨x, u, e, g, r, j, (if_neg (ne q)).trans q⟩
        | own => obtain ⟨x, u, e, g, r, q, z⟩ := h; exact ⟨x, u, e, g, r, (if_neg (ne q)).trans q, z⟩
        | io => obtain ⟨x, u, e, g, r, q, z⟩ := h; exact ⟨x, u, e, g, r, (if_neg (ne q)).trans q, z⟩
      exact ⟨F', B', fun b => if b = a then some (.inr τ.length) else O b, I.base, I.len, fun i s e => (let ⟨t, v, e1, h⟩ := I.slot i s e; ⟨t, v, e1, hO _ _ _ h⟩), ⟨a, o, ev, g, w, if_pos rfl, h2 f, h1⟩, I.temp.imp fun s v k _ _ h => hO _ _ _ h⟩
theorem IvW.unstk : ∀ {as : List Ar} {vs : List V} {τ τ' : List (Sv × V)}, Stk σ as vs τ τ' → IvW J F B O ρ τ' σ H → IvW J F B O ρ τ σ H
  | [], [], τ, τ', k, I => by rw [show τ' = τ from k] at I; exact I
  | [], _ :: _, _, _, k, _ => k.elim
  | .ex s :: as, [], _, _, k, _ => k.elim
  | .sl i :: as, [], _, _, k, _ => k.elim
  | .ex s :: as, v :: vs, τ, τ', k, I => (IvW.unstk (show Stk σ as vs ((s, v) :: τ) τ' from k) I).drop1
  | .sl i :: as, v :: vs, τ, τ', k, I => IvW.unstk (show σ[i]? = some (some v) ∧ Stk σ as vs τ τ' from k).2 I
end
end MV
namespace MV
open PySem PySem.Spec PyProof.Rows L2
section
variable {X : Cx} {J : Jx} {W : WX} {pm : List PM} {rm : Bool} {fn : Fn} {fa : SemA} {q qo : Bool} {σ : St} {H : Hp} {Q : VK} {τ : List (Sv × V)} {ρ : En} {F B : Hp} {O : Addr → Option Ow}
theorem nd_map {α β : Type} {f : α → β} {l : List α} (h : ∀ x ∈ l, ∀ y ∈ l, f x = f y → x = y) (d : l.Nodup) : (l.map f).Nodup := by
  induction l with
  | nil => exact List.nodup_nil
  | cons a l ih =>
    obtain ⟨d1, d2⟩ := List.nodup_cons.mp d
    rw [List.map_cons]
    refine List.nodup_cons.mpr ⟨fun z => ?_, ih (fun x hx y hy => h x (List.mem_cons_of_mem _ hx) y (List.mem_cons_of_mem _ hy)) d2⟩
    obtain ⟨y, hy, e⟩ := List.mem_map.mp z
    rw [h y (List.mem_cons_of_mem _ hy) a List.mem_cons_self e] at hy
    exact d1 hy
theorem adr_nd {is : List Nat} (I : IvW J F B O ρ τ σ H) (nd : is.Nodup) (ok : ∀ i ∈ is, OSl ρ i) : (is.map (adr σ)).Nodup := by
  refine nd_map (fun i hi j hj e => ?_) nd
  obtain ⟨m, d, e1, e2⟩ := ok i hi
  obtain ⟨m', d', e3, e4⟩ := ok j hj
  have h1 := (I.oslot e1 e2).2.2.1
  have h2 := (I.oslot e3 e4).2.2.1
  rw [e] at h1
  rw [h1] at h2
  exact Sum.inl.inj (Option.some.inj h2)
theorem call_sp {as : List Ar} {vs : List V} {τ' : List (Sv × V)} (nt : NoTmp τ) (k : Stk σ as vs τ τ') (I : Iv J ρ τ' σ H) (m : Out J W τ σ (kCall pm rm fn as ρ) Q) : spF J.K pm rm fn vs H Q (WE W σ) := by
  obtain ⟨F, B, O, I⟩ := I
  obtain ⟨hc, m⟩ := out_grd (b := ndB (ioSl pm as) && chkA (ioSl pm as) pm as) m
  obtain ⟨h1, h2⟩ := Bool.and_eq_true_iff.mp hc
  have nd := ndB_nd h1
  cases e : argVs ρ pm as with
  | none => rw [e] at m; exact m.elim
  | some ds =>
    rw [e] at m
    have ok := ioSl_ok e
    obtain ⟨I1, ar⟩ := args_R nt ok pm as ds vs τ τ' e h2 (fun i hi => hi) k I
    refine ⟨F, (ioSl pm as).map (adr σ), ds, fmns I1 ok, adr_nd I1 nd ok, ar, ?_⟩
    have m : Out J W τ σ (match fn ds with
      | .ret r outs => .ok (resM rm r) (setOuts (ioSl pm as) outs ρ)
      | .exc c fs outs => .exc c fs (setOuts (ioSl pm as) outs ρ)
      | .bad => .bad) Q := m
    cases z : fn ds with
    | ret r outs =>
      rw [z] at m
      refine fun v H' F' A rr => m v H' ?_
      have I2 := I1.call nt nd ok A
      refine I2.res (H0 := H) (fun a n => ⟨I1.base.freeH0 n, fun f => bUp_none (I1.base.freeB n) f, oUp_none n⟩) rr
    | exc c fs outs =>
      rw [z] at m
      refine fun cls d H' F' A er => m cls d H' ?_
      have I2 := I1.call nt nd ok A
      exact ⟨F', _, _, ⟨I2.base, I2.len, I2.slot, trivial⟩, er⟩
    | bad => rw [z] at m; exact m.elim
theorem tA_call (h : tE J W false (fCall pm rm fn fa) σ H Q) : tA J W q fa σ H fun vs H1 => spF J.K pm rm fn vs H1 Q (WE W σ) := by
  obtain ⟨ρ, τ, I, c, m⟩ := h
  have nt : NoTmp τ := c.elim (fun z => nomatch z) id
  refine ⟨ρ, τ, I, .inr nt, ?_⟩
  unfold fCall at m
  cases e : fa ρ with
  | ok as ρ1 => rw [e] at m; exact fun vs τ' H1 k I1 => call_sp nt k I1 m
  | exc c fs ρ1 => rw [e] at m; exact m
  | bad => rw [e] at m; exact m
theorem xe_call {x : Str} {f : Addr} {p pos : Pos} {e : Expr} {es : List Expr} (hK : J.K = X.K) (hc : CallAt X W f (spF X.K pm rm fn)) (hg : Gl X x) (hm : X.mg x = some (.ref f)) (hk : PySem.W.keepIn X.K (.ref f) = true) (ha : XA X J W (e :: es) q fa)
    (hdb : (x == ("__debug__" : Str)) = false := by decide) (he : starEach (e :: es) X.env = (false, eval e X.env) :: starEach es X.env := by rfl) (hpl : (backTo pos (starEach es X.env)).any (·.1) = false := by rfl) :
    XE X J W (.Call (.Name x p) (e :: es) [] pos) false (fCall pm rm fn fa) := by
  refine ⟨⟨fun pins s σ H Q I h => ?_⟩⟩
  refine wpAny_Call_Name_kw (ld_glob I hg hm ?_ hdb)
  exact PySem.W.callWith_K (h₀ := X.base) I.ok.mod.kin hk (thn (ha.pa.run pos pins s σ H _ I (tA_call h)) fun us s1 ⟨vs, H1, I1, r, q⟩ => ⟨I1.kIn, hc _ _ _ _ _ _ _ I1 r (hK ▸ q)⟩) he hpl
abbrev SemR := En → Rs Ar
def OutR (J : Jx) (W : WX) (τ : List (Sv × V)) (σ : St) (r : Rs Ar) (Q : VK) : Prop := match r with
  | .ok a ρ => ∀ v τ' H, Stk σ [a] [v] τ τ' → Iv J ρ τ' σ H → Q v H
  | .exc c fs ρ => ∀ cls d H, Ix J ρ c fs σ H cls d → W cls d σ H
  | .bad => False
structure XR (X : Cx) (J : Jx) (W : WX) (e : Expr) (q : Bool) (f : SemR) : Prop where
  pe : PE X e (fun σ H Q => ∃ ρ τ, Iv J ρ τ σ H ∧ (q = true ∨ NoTmp τ) ∧ OutR J W τ σ (f ρ) Q)
def rSl (i : Nat) : SemR := fun ρ => grd (asg ρ i) (.ok (.sl i) ρ)
theorem xr_sl {i : Nat} {x : Str} {p : Pos} (hN : X.N[i]? = some x) (hv : Vis X.env.scope x) (hd : (x == ("__debug__" : Str)) = false := by decide) (hcd : (x == ("__classdict__" : Str)) = false := by decide) : XR X J W (.Name x p) true (rSl i) := by
  refine ⟨(pe_var hN hv hd hcd).imp ?_⟩
  rintro σ H Q ⟨ρ, τ, ⟨F, B, O, I⟩, c, m⟩
  unfold rSl asg at m
  cases e : ρ[i]? with
  | none => rw [e] at m; exact m.elim
  | some o =>
    cases o with
    | none => rw [e] at m; exact m.elim
    | some s =>
      rw [e] at m
      obtain ⟨_, v, e1, _⟩ := I.slot i s e
      exact ⟨v, e1, m v τ H ⟨e1, rfl⟩ ⟨F, B, O, I⟩⟩
def clsOk (c m : Str) (ρ : En) (a : Ar) : Bool := match arV ρ a with
  | some ⟨md, .ins c' fs⟩ => !md.isT && (c == c') && (fs.lookup m).isNone
  | _ => false
def fMeth (c m : Str) (pm : List PM) (rm : Bool) (fn : Fn) (fo : SemR) (fa : SemA) : Sem1 := fun ρ => bnd (fo ρ) fun a ρ1 => grd (clsOk c m ρ1 a) (bnd (fa ρ1) fun as ρ2 => kCall pm rm fn (a :: as) ρ2)
theorem clsOk_at {c m : Str} {a : Ar} {v : V} {τ' : List (Sv × V)} (h : clsOk c m ρ a = true) (k : Stk σ [a] [v] τ τ') (I : Iv J ρ τ' σ H) : ∃ x dx ws, v = .ref x ∧ H x = some (.ins (He.ga J.K c) dx ws) ∧ ws.lookup m = none ∧ (NoTmp τ → NoTmp τ') := by
  obtain ⟨F, B, O, I⟩ := I
  have key : ∀ {s : Sv} {ow : Ow}, SR J F B H O ow s v → arV ρ a = some s → ∃ x dx ws, v = .ref x ∧ H x = some (.ins (He.ga J.K c) dx ws) ∧ ws.lookup m = none ∧ s.m ≠ .tmp := fun {s ow} r e => by
    unfold clsOk at h
    rw [e] at h
    obtain ⟨md, d⟩ := s
    cases d with
    | ins c' fs =>
      obtain ⟨h12, h3⟩ := Bool.and_eq_true_iff.mp (show (!md.isT && (c == c') && (fs.lookup m).isNone) = true from h)
      obtain ⟨h1, h2⟩ := Bool.and_eq_true_iff.mp h12
      have hc : c = c' := eq_of_beq h2
      subst hc
      obtain ⟨p, dx, ws, e1, g, rf⟩ := r.ins I.base
      exact ⟨p, dx, ws, e1, g, rf.lookN (Option.isNone_iff_eq_none.mp h3), fun z => by rw [show md = .tmp from z] at h1; cases h1⟩
    | _ => cases h
  cases a with
  | ex s =>
    rw [show τ' = (s, v) :: τ from k] at I ⊢
    obtain ⟨x, dx, ws, h1, h2, h3, h4⟩ := key I.top rfl
    exact ⟨x, dx, ws, h1, h2, h3, fun n => n.cons h4⟩
  | sl i =>
    obtain ⟨k1, k2⟩ := (show σ[i]? = some (some v) ∧ τ' = τ from k)
    subst k2
    cases e : ρ[i]? with
    | none => unfold clsOk at h; rw [arV_sl, e] at h; cases h
    | some so =>
      cases so with
      | none => unfold clsOk at h; rw [arV_sl, e] at h; cases h
      | some s =>
        obtain ⟨_, v', e1, r⟩ := I.slot i s e
        rw [k1] at e1
        cases e1
        obtain ⟨x, dx, ws, h1, h2, h3, h4⟩ := key r (by rw [arV_sl, e])
        exact ⟨x, dx, ws, h1, h2, h3, id⟩
theorem stk_cons {a : Ar} {as : List Ar} {v : V} {vs : List V} {τ1 τ2 : List (Sv × V)} (h1 : Stk σ [a] [v] τ τ1) (h2 : Stk σ as vs τ1 τ2) : Stk σ (a :: as) (v :: vs) τ τ2 := by
  cases a with
  | ex s => rw [show τ1 = (s, v) :: τ from h1] at h2; exact h2
  | sl i => obtain ⟨k1, k2⟩ := (show σ[i]? = some (some v) ∧ τ1 = τ from h1); subst k2; exact ⟨k1, h2⟩
theorem tMeth_ok {c m : Str} {fo : SemR} {to : TE} (h : ∃ ρ τ, Iv J ρ τ σ H ∧ (false = true ∨ NoTmp τ) ∧ Out J W τ σ (fMeth c m pm rm fn fo fa ρ) Q) (hto : ∀ σ H Q, (∃ ρ τ, Iv J ρ τ σ H ∧ (qo = true ∨ NoTmp τ) ∧ OutR J W τ σ (fo ρ) Q) → to σ H Q) :
    to σ H fun x H1 => ∃ a dx ws, x = .ref a ∧ H1 a = some (.ins (He.ga J.K c) dx ws) ∧ ws.lookup m = none ∧ tA J W q fa σ H1 fun vs H2 => spF J.K pm rm fn (x :: vs) H2 Q (WE W σ) := by
  obtain ⟨ρ, τ, I, c0, m0⟩ := h
  have nt : NoTmp τ := c0.elim (fun z => nomatch z) id
  refine hto _ _ _ ⟨ρ, τ, I, .inr nt, ?_⟩
  unfold fMeth at m0
  cases e : fo ρ with
  | ok a ρ1 =>
    rw [e] at m0
    intro v τ' H1 k I1
    obtain ⟨hc, m1⟩ := out_grd (b := clsOk c m ρ1 a) m0
    obtain ⟨x, dx, ws, h1, h2, h3, h4⟩ := clsOk_at hc k I1
    refine ⟨x, dx, ws, h1, h2, h3, ρ1, τ', I1, .inr (h4 nt), ?_⟩
    cases e2 : fa ρ1 with
    | ok as ρ2 => rw [e2] at m1; exact fun vs τ2 H2 k2 I2 => call_sp nt (stk_cons k k2) I2 m1
    | exc cc fs ρ2 => rw [e2] at m1; exact m1
    | bad => rw [e2] at m1; exact m1
  | exc cc fs ρ1 => rw [e] at m0; exact m0
  | bad => rw [e] at m0; exact m0
theorem xe_meth {c m : Str} {f : Addr} {fo : SemR} {o : Expr} {p pos apos : Pos} {e : Expr} {es : List Expr} {pl : Sem Bool} (hK : J.K = X.K) (hc : CallAt X W f (spF X.K pm rm fn)) (k1 : Cls X.K (He.ga X.K c)) (k2 : Meth X.K (He.ga X.K c) m f) (ho : XR X J W o qo fo) (ha : XA X J W (e :: es) q fa)
    (hst : starEach (e :: es) X.env = (false, eval e X.env) :: starEach es X.env := by rfl) (hpl : (backTo pos (starEach es X.env)).any (·.1) = false := by rfl)
    (ht : eval (.Call (.Attribute o m apos) (e :: es) [] pos) X.env = (do
      let ov ← eval o X.env
      standAt apos.atName
      let (f, first) ← holding [ov] (getMethod ov m pl)
      callWith pos f first (backTo pos (starEach (e :: es) X.env)) (backToKw pos (keywordEach [] X.env))) := by rfl) :
    XE X J W (.Call (.Attribute o m apos) (e :: es) [] pos) false (fMeth c m pm rm fn fo fa) := by
  refine ⟨⟨fun pins s σ H Q I h => ?_⟩⟩
  refine PySem.W.methodCall_KW (pl := pl) (thn (ho.pe.run pins s σ H _ I (tMeth_ok (q := q) h fun _ _ _ z => z)) fun u s1 ⟨x, H1, I1, rx, a, dx, ws, ex, ea, l, q⟩ => ?_) ht
  subst ex
  obtain rfl : u = Value.ref a := rx
  refine getmeth_ok I1 (hK ▸ ea) k1 k2 l ?_
  refine PySem.W.callWith_K (first := [.ref a]) (h₀ := X.base) I.ok.mod.kin k2.kp (thn (ha.pa.run pos pins s1 σ H1 _ I1 q) fun us s2 ⟨vs, H2, I2, r, q2⟩ => ⟨I2.kIn, ?_⟩) hst hpl
  exact hc _ _ _ _ _ (.ref a :: us) (.ref a :: vs) I2 (.cons rfl r) (hK ▸ q2)
theorem xe_meth0 {c m : Str} {f : Addr} {fo : SemR} {o : Expr} {p pos apos : Pos} {pl : Sem Bool} (hK : J.K = X.K) (hc : CallAt X W f (spF X.K pm rm fn)) (k1 : Cls X.K (He.ga X.K c)) (k2 : Meth X.K (He.ga X.K c) m f) (ho : XR X J W o qo fo)
    (ht : eval (.Call (.Attribute o m apos) [] [] pos) X.env = (do
      let ov ← eval o X.env
      standAt apos.atName
      let (f, first) ← holding [ov] (getMethod ov m pl)
      callWith pos f first (backTo pos (starEach [] X.env)) (backToKw pos (keywordEach [] X.env))) := by rfl) :
    XE X J W (.Call (.Attribute o m apos) [] [] pos) false (fMeth c m pm rm fn fo aNil) := by
  refine ⟨⟨fun pins s σ H Q I h => ?_⟩⟩
  refine PySem.W.methodCall_KW (pl := pl) (thn (ho.pe.run pins s σ H _ I (tMeth_ok (q := true) h fun _ _ _ z => z)) fun u s1 ⟨x, H1, I1, rx, a, dx, ws, ex, ea, l, q⟩ => ?_) ht
  subst ex
  obtain rfl : u = Value.ref a := rx
  refine getmeth_ok I1 (hK ▸ ea) k1 k2 l ?_
  have q' : spF J.K pm rm fn [.ref a] H1 Q (WE W σ) := by
    obtain ⟨ρ, τ, I2, _, m⟩ := q
    exact m [] τ H1 rfl I2
  exact PySem.W.callWith_K0 (first := [.ref a]) I1.kIn k2.kp (hc _ _ _ _ _ [.ref a] [.ref a] I1 (.cons rfl .nil) (hK ▸ q'))
end
end MV
namespace MV
open PySem PySem.Spec PyProof.Rows L2
def MakeAt (X : Cx) (W : WX) (C : Addr) (sp : Sp) : Prop := ∀ (pins : List (Addr × Obj)) (σ : St) (H : Hp) (s : Shared) (Q : VK) (us : List Value) (vs : List V), Inv X pins σ H s → Vals vs us →
  (∀ x dx, H x = none → H dx = none → dx ≠ x → sp (.ref x :: vs) (upd (upd H dx (.own x)) x (.ins C dx [])) (fun v H2 => v = .non ∧ Q (.ref x) H2) (WE W σ)) →
  wpAny (model X.prog X.w) X.A (call (.ref C) us) (EP X pins σ Q) X.xe s
theorem makeAt {X : Cx} {W : WX} {k : Nat} {C f : Addr} {fd : FuncData} {ps : List Str} {sp : Sp} {dvs : List V} {ds : List Value} (M : Mk X.K C f) (F : FnOk X.prog X.w X.K X.mg X.base (L2N.CX X.prog X.w) k f fd ps sp) (hr : Room (k + 1) X.A) (hb : Binds X.K fd ps ds) (hd : Vals dvs ds) (tk : Takes X W) :
    MakeAt X W C (fun vs => sp (vs ++ dvs)) := fun pins σ H s Q us vs I r h => by
  have hq := h (s.heap.objs.size + 1) s.heap.objs.size (I.hok.fresh (Nat.le_succ _)) (I.hok.fresh (Nat.le_refl _)) (Nat.ne_of_lt (Nat.lt_succ_self _))
  have I2 := Inv.made (C := C) I
  have r2 : Vals (V.ref (s.heap.objs.size + 1) :: (vs ++ dvs)) (Value.ref (s.heap.objs.size + 1) :: (us ++ ds)) := .cons rfl (r.append hd)
  have hl : (Value.ref (s.heap.objs.size + 1) :: us ++ ds).length = ps.length := by
    have e := r2.length
    have hq' : sp (V.ref (s.heap.objs.size + 1) :: (vs ++ dvs)) _ _ _ := hq
    rw [F.len _ _ _ _ hq'] at e
    exact e.symm
  refine wpAny_call (make_map (f := f) I.kIn M.makes M.init (beq_iff_eq.mp M.fn) (codeAny_mono (F.run _ X.stack _ _ ⟨Value.ref (s.heap.objs.size + 1) :: us, []⟩ (Value.ref (s.heap.objs.size + 1) :: (us ++ ds)) _ _ (WE W σ) (hr.make C us [])
    (I2.env0.make C us []) (hb _ (Value.ref (s.heap.objs.size + 1) :: us) I2.kIn hl) r2 hq) fun r s' hq' => ?_))
  cases r with
  | error e => exact passAt tk σ pins _ _ e s' I2 hq'
  | ok fl =>
    cases fl with
    | ret u =>
      obtain ⟨v, H', I3, rv, ev, q3⟩ := I2.after hq'
      subst ev
      exact ⟨rv, ⟨V.ref (s.heap.objs.size + 1), H', I3, rfl, q3⟩⟩
    | next => exact False.elim hq'
    | brk => exact False.elim hq'
    | cont => exact False.elim hq'
theorem makeAt0 {X : Cx} {W : WX} {k : Nat} {C f : Addr} {fd : FuncData} {ps : List Str} {sp : Sp} (M : Mk X.K C f) (F : FnOk X.prog X.w X.K X.mg X.base (L2N.CX X.prog X.w) k f fd ps sp) (hr : Room (k + 1) X.A) (hb : Binds X.K fd ps []) (tk : Takes X W) : MakeAt X W C sp := by
  have h := makeAt (dvs := []) M F hr hb .nil tk
  intro pins σ H s Q us vs I r g
  refine h pins σ H s Q us vs I r fun x dx h1 h2 h3 => ?_
  have g' := g x dx h1 h2 h3
  show sp ((V.ref x :: vs) ++ []) _ _ _
  rw [List.append_nil]
  exact g'
def kMake (c : Str) (pm : List PM) (fn : Fn) (as : List Ar) (ρ : En) : Rs Sv :=
  grd ((ioSl pm as).isEmpty && chkA [] pm as) (match argVs ρ pm as with
    | none => .bad
    | some ds => match fn (.ins c [] :: ds) with
      | .ret .non [d] => .ok ⟨.own, d⟩ ρ
      | .exc c fs [_] => .exc c fs ρ
      | _ => .bad)
def fMake (c : Str) (pm : List PM) (fn : Fn) (fa : SemA) : Sem1 := fun ρ => bnd (fa ρ) fun as ρ1 => kMake c pm fn as ρ1
section
variable {X : Cx} {J : Jx} {W : WX} {pm : List PM} {rm : Bool} {fn : Fn} {fa : SemA} {q qo : Bool} {σ : St} {H : Hp} {Q : VK} {τ : List (Sv × V)} {ρ : En} {F B : Hp} {O : Addr → Option Ow}
theorem argsR_up {K : PySem.W.Frag} {H2 : Hp} {x : Addr} (hx : H x = none) (hs : ∀ b o, H b = some o → H2 b = some o) : ∀ {pm : List PM} {ds : List Vl} {vs : List V}, ArgsR K F H [] pm ds vs [] → ArgsR K F H2 [x] pm ds vs []
  | [], [], [], _ => rfl
  | [], _ :: _, _, h => by cases h
  | [], [], _ :: _, h => by cases h
  | .sca :: pm, [], _, h => by cases h
  | .bor :: pm, [], _, h => by cases h
  | .shr :: pm, [], _, h => by cases h
  | .io :: pm, [], _, h => by cases h
  | .sca :: pm, _ :: _, [], h => by cases h
  | .bor :: pm, _ :: _, [], h => by cases h
  | .shr :: pm, _ :: _, [], h => by cases h
  | .io :: pm, _ :: _, [], h => by cases h
  | .sca :: pm, d :: ds, v :: vs, ⟨h1, h2, h⟩ => ⟨h1, h2, argsR_up hx hs h⟩
  | .bor :: pm, d :: ds, v :: vs, ⟨h1, h⟩ => ⟨Rep.mono (fun b o e => mns_of (hs _ _ (mns_sub _ _ e)) fun z => by
    rw [List.mem_singleton] at z
    subst z
    rw [mns_sub _ _ e] at hx; cases hx) h1, argsR_up hx hs h⟩
  | .shr :: pm, d :: ds, v :: vs, ⟨h1, h⟩ => ⟨h1, argsR_up hx hs h⟩
  | .io :: pm, d :: ds, v :: vs, ⟨a, r, e, _⟩ => by cases e
theorem IvW.made {F' H2 H' : Hp} {x : Addr} {d : Vl} (I : IvW J F B O ρ τ σ H) (nt : NoTmp τ) (hx : H x = none) (hs : ∀ b o, H b = some o → H2 b = some o) (hn : ∀ b, H2 b = none → H b = none) (A : After J.K F H2 [x] F' H' [d]) :
    IvW J F' (bUp B F') (fun b => if b = x then some (.inr τ.length) else oUp O H b) ρ ((⟨.own, d⟩, .ref x) :: τ) σ H' := by
  have nx : ∀ {b : Addr} {o : HO}, H b = some o → b ≠ x := fun {b o} e z => by subst z; rw [hx] at e; cases e
  have keepH : ∀ b o, H b = some o → H' b = some o := fun b o e => A.keep b o (hs _ _ e) fun z => nx e (List.mem_singleton.mp z)
  have new : ∀ b o, F' b = some o → F b = some o ∨ H b = none := fun b o e => (A.new b o e).imp id (hn b)
  have freeF : ∀ a, (∃ o, H a = some o) → B a = none → F' a = none := fun a ⟨o, g⟩ n => by
    cases e : F' a with
    | none => rfl
    | some u =>
      rcases new a u e with z | z
      · rw [I.base.fb _ _ z] at n; cases n
      · rw [g] at z; cases z
  have fB : Sub F' (bUp B F') := fun b o e => by
    cases z : B b with
    | none => unfold bUp; rw [z]; exact e
    | some u =>
      rw [bUp_old z]
      rcases new b o e with y | y
      · rw [I.base.fb _ _ y] at z; exact z.symm
      · rw [I.base.bh _ _ z] at y; cases y
  have base : Base J F' (bUp B F') H' := by
    refine ⟨fB, fun b o e => ?_, fun b o e => A.ff _ _ (I.base.f0 _ _ e), fun b o e => ?_, fun b o e q => ?_, fun b e => ?_⟩
    · cases z : B b with
      | none => unfold bUp at e; rw [z] at e; exact A.fh _ _ e
      | some u => rw [bUp_old z] at e; cases e; exact keepH _ _ (I.base.bh _ _ z)
    · rcases new b o e with z | z
      · exact I.base.new _ _ z
      · exact .inr (I.base.freeH0 z)
    · exact keepH b o (I.base.keep _ _ e q)
    · obtain ⟨o, g⟩ := I.base.iot b e
      exact ⟨o, keepH b o g⟩
  have keep : ∀ (ow : Ow) (s : Sv) (v : V), s.m ≠ .tmp → SR J F B H O ow s v → SR J F' (bUp B F') H' (fun b => if b = x then some (.inr τ.length) else oUp O H b) ow s v := fun ow s v n1 h => by
    obtain ⟨m, d⟩ := s
    cases m with
    | shr => exact Rep.mono A.ff h
    | bor => exact h
    | tmp => exact absurd rfl n1
    | own =>
      obtain ⟨a, o, e, g, r, q, n, z⟩ := h
      exact ⟨a, o, e, keepH _ _ g, r.mono A.ff, (if_neg (nx g)).trans ((oUp_old g).trans q), bUp_none n (freeF a ⟨o, g⟩ n), z⟩
    | io =>
      obtain ⟨a, o, e, g, r, q, n, z⟩ := h
      exact ⟨a, o, e, keepH _ _ g, r.mono A.ff, (if_neg (nx g)).trans ((oUp_old g).trans q), bUp_none n (freeF a ⟨o, g⟩ n), z⟩
  obtain ⟨a, r, e, ⟨o, g, w⟩, _⟩ := A.outs
  obtain ⟨rfl, _⟩ := List.cons.inj e
  have fx : F' x = none := A.iof x (List.mem_singleton.mpr rfl)
  exact ⟨base, I.len, fun i s e => (let ⟨t, v, e1, h⟩ := I.slot i s e; ⟨t, v, e1, keep _ _ _ t h⟩), ⟨x, o, rfl, g, w, if_pos rfl, bUp_none (I.base.freeB hx) fx, I.base.freeH0 hx⟩, I.temp.imp fun s v k hm _ h => keep _ s v (nt _ hm) h⟩
theorem make_sp {c : Str} {as : List Ar} {vs : List V} {τ' : List (Sv × V)} (nt : NoTmp τ) (k : Stk σ as vs τ τ') (I : Iv J ρ τ' σ H) (m : Out J W τ σ (kMake c pm fn as ρ) Q) (x dx : Addr) (hx : H x = none) (hd : H dx = none) (hne : dx ≠ x) :
    spF J.K (.io :: pm) rm fn (.ref x :: vs) (upd (upd H dx (.own x)) x (.ins (He.ga J.K c) dx [])) (fun v H2 => v = .non ∧ Q (.ref x) H2) (WE W σ) := by
  obtain ⟨F, B, O, I⟩ := I
  obtain ⟨hc, m⟩ := out_grd (b := (ioSl pm as).isEmpty && chkA [] pm as) m
  obtain ⟨h1, h2⟩ := Bool.and_eq_true_iff.mp hc
  have h1 : ioSl pm as = [] := List.isEmpty_iff.mp h1
  cases e : argVs ρ pm as with
  | none => rw [e] at m; exact m.elim
  | some ds =>
    rw [e] at m
    obtain ⟨I1, ar⟩ := args_R (is := []) nt (fun i hi => by cases hi) pm as ds vs τ τ' e h2 (fun i hi => by rw [h1] at hi; exact hi) k I
    rw [h1] at ar
    have ar : ArgsR J.K F H [] pm ds vs [] := ar
    have hs : ∀ b o, H b = some o → upd (upd H dx (.own x)) x (.ins (He.ga J.K c) dx []) b = some o := fun b o g => by
      rw [upd_ne (ne_of_none g hx), upd_ne (ne_of_none g hd)]; exact g
    have hn : ∀ b, upd (upd H dx (.own x)) x (.ins (He.ga J.K c) dx []) b = none → H b = none := fun b g => by
      cases z : H b with
      | none => rfl
      | some o => rw [hs _ _ z] at g; cases g
    have fx : Sub F (mns (upd (upd H dx (.own x)) x (.ins (He.ga J.K c) dx [])) [x]) := fun b o g => by
      have g := I1.base.bh _ _ (I1.base.fb _ _ g)
      exact mns_of (hs _ _ g) fun z => by
        rw [List.mem_singleton] at z
        subst z
        rw [hx] at g; cases g
    refine ⟨F, [x], .ins c [] :: ds, fx, List.nodup_cons.mpr ⟨(fun z => by cases z), List.nodup_nil⟩, ⟨x, [], rfl, rfl, ⟨_, upd_same, dx, [], rfl, rfl⟩, argsR_up hx hs ar⟩, ?_⟩
    have m : Out J W τ σ (match fn (.ins c [] :: ds) with
      | .ret .non [d] => .ok ⟨.own, d⟩ ρ
      | .exc c fs [_] => .exc c fs ρ
      | _ => .bad) Q := m
    cases z : fn (.ins c [] :: ds) with
    | ret r outs =>
      rw [z] at m
      intro v H' F' A rr
      cases r with
      | non =>
        cases outs with
        | nil => exact m.elim
        | cons d outs =>
          cases outs with
          | cons _ _ => exact m.elim
          | nil => exact ⟨(show Rep J.K F' .non v from rr), m _ H' ⟨_, _, _, I1.made nt hx hs hn A⟩⟩
      | _ => exact m.elim
    | exc cc fs outs =>
      rw [z] at m
      intro cls d H' F' A er
      cases outs with
      | nil => exact m.elim
      | cons d' outs =>
        cases outs with
        | cons _ _ => exact m.elim
        | nil =>
          have I2 := I1.made nt hx hs hn A
          exact m cls d H' ⟨_, _, _, ⟨I2.base, I2.len, I2.slot, trivial⟩, er⟩
    | bad => rw [z] at m; exact m.elim
theorem xe_make {c x : Str} {p pos : Pos} {e : Expr} {es : List Expr} (hK : J.K = X.K) (hc : MakeAt X W (He.ga X.K c) (spF X.K (.io :: pm) rm fn)) (hg : Gl X x) (hm : X.mg x = some (.ref (He.ga X.K c))) (hk : PySem.W.keepIn X.K (.ref (He.ga X.K c)) = true) (ha : XA X J W (e :: es) q fa)
    (hdb : (x == ("__debug__" : Str)) = false := by decide) (he : starEach (e :: es) X.env = (false, eval e X.env) :: starEach es X.env := by rfl) (hpl : (backTo pos (starEach es X.env)).any (·.1) = false := by rfl) :
    XE X J W (.Call (.Name x p) (e :: es) [] pos) false (fMake c pm fn fa) := by
  refine ⟨⟨fun pins s σ H Q I h => ?_⟩⟩
  refine wpAny_Call_Name_kw (ld_glob I hg hm ?_ hdb)
  refine PySem.W.callWith_K (h₀ := X.base) I.ok.mod.kin hk (thn (ha.pa.run pos pins s σ H (fun vs H1 => ∀ x dx, H1 x = none → H1 dx = none → dx ≠ x → spF J.K (.io :: pm) rm fn (.ref x :: vs) (upd (upd H1 dx (.own x)) x (.ins (He.ga J.K c) dx [])) (fun v H2 => v = .non ∧ Q (.ref x) H2) (WE W σ)) I ?_) fun us s1 ⟨vs, H1, I1, r, q⟩ => ⟨I1.kIn, hc _ _ _ _ _ _ _ I1 r (hK ▸ q)⟩) he hpl
  obtain ⟨ρ, τ, I, c0, m⟩ := h
  have nt : NoTmp τ := c0.elim (fun z => nomatch z) id
  refine ⟨ρ, τ, I, .inr nt, ?_⟩
  unfold fMake at m
  cases e : fa ρ with
  | ok as ρ1 => rw [e] at m; exact fun vs τ' H1 k I1 x dx h1 h2 h3 => make_sp nt k I1 m x dx h1 h2 h3
  | exc c fs ρ1 => rw [e] at m; exact m
  | bad => rw [e] at m; exact m
def noX (r : Rs Sv) : Rs Sv := match r with
  | .exc _ _ _ => .bad
  | r => r
def fProp (c f : Str) (rm : Bool) (fn : Fn) (fo : SemR) : Sem1 := fun ρ => bnd (fo ρ) fun a ρ1 => grd (clsOk c f ρ1 a) (noX (kCall [.bor] rm fn [a] ρ1))
theorem out_noX {r : Rs Sv} (h : Out J W τ σ (noX r) Q) : Out J (fun _ _ _ _ => False) τ σ r Q := by
  cases r with
  | ok s ρ => exact h
  | exc c fs ρ => exact h.elim
  | bad => exact h.elim
end
section
variable {X : Cx} {J : Jx} {W : WX} {rm : Bool} {fn : Fn} {q qo : Bool}
theorem xe_prop {c f : Str} {p g : Addr} {k : Nat} {fd : FuncData} {ps : List Str} {fo : SemR} {o : Expr} {pos : Pos} (hK : J.K = X.K) (k1 : Cls X.K (He.ga X.K c)) (hp : PropOf X.K (He.ga X.K c) f p g) (F : FnOk X.prog X.w X.K X.mg X.base (L2N.CX X.prog X.w) k g fd ps (spF X.K [.bor] rm fn))
    (hr : Room (k + 1) X.A) (hb : Binds X.K fd ps []) (ho : XR X J W o qo fo) (hab : attributeBase o f X.env (eval o X.env) = eval o X.env := by rfl) : XE X J W (.Attribute o f pos) false (fProp c f rm fn fo) := by
  refine ⟨⟨fun pins s σ H Q I h => ?_⟩⟩
  obtain ⟨ρ, τ, I0, c0, m0⟩ := h
  have nt : NoTmp τ := c0.elim (fun z => nomatch z) id
  have h1 : ∃ ρ τ, Iv J ρ τ σ H ∧ (qo = true ∨ NoTmp τ) ∧ OutR J W τ σ (fo ρ) (fun x H1 => ∃ a dx ws, x = .ref a ∧ H1 a = some (.ins (He.ga X.K c) dx ws) ∧ spF X.K [.bor] rm fn [.ref a] H1 Q (fun _ _ _ => False)) := by
    refine ⟨ρ, τ, I0, .inr nt, ?_⟩
    unfold fProp at m0
    cases e : fo ρ with
    | ok a ρ1 =>
      rw [e] at m0
      intro v τ' H1 k0 I1
      obtain ⟨hc, m1⟩ := out_grd (b := clsOk c f ρ1 a) m0
      obtain ⟨x, dx, ws, h1, h2, h3, h4⟩ := clsOk_at hc k0 I1
      subst h1
      exact ⟨x, dx, ws, rfl, hK ▸ h2, hK ▸ call_sp nt k0 I1 (out_noX m1)⟩
    | exc cc fs ρ1 => rw [e] at m0; exact m0
    | bad => rw [e] at m0; exact m0
  refine attr_of hab (thn (ho.pe.run pins s σ H _ I h1) fun u s1 ⟨x, H1, I1, rx, a, dx, fs, ex, ea, q⟩ => ?_)
  subst ex
  obtain rfl : u = Value.ref a := rx
  exact getprop_ok I1 ea k1 hp F hr hb .nil (L2N.passes_call (W := fun _ _ _ _ => False) takes_none5 (fun _ _ _ _ h => h)) q
end
end MV
namespace MV
open PySem PySem.Spec PyProof.Rows L2
def spX (fs : List Str) (K : PySem.W.Frag) : Sp := fun vs H Q E => ∃ (a C : Addr) (ws : List V), vs = .ref a :: ws ∧ ws.length = fs.length ∧ OexC K C ∧ (∀ f, f ∈ fs → PySem.W.findIn K (.ref C) f = some none) ∧ H a = some (exo a C none) ∧
  ∀ (dx : Addr) (H' : Hp), H dx = none → dx ≠ a → H' a = some (exo a C (some dx)) → H' dx = some (exd dx (fs.zip ws).reverse) → (∀ b, b ≠ a → b ≠ dx → H' b = H b) → Q .non H'
section
variable {P : Program} {w : World} {K : PySem.W.Frag} {mg : Str → Option Value} {base : Heap} {qual : Str} {params : Arguments} {body : List Stmt} {scope : Scope} {dvs : List V} {kws : List (Str × V)} {f : Addr} {fd : FuncData} {k : Nat} {name : Str}
theorem fn_ex1 {x : Str} {p1 p2 p3 p4 : Pos} (F : FunD K name qual params [.Assign [.Attribute (.Name "self" p1) x p2] (.Name x p3) p4] scope dvs kws f fd) (S : FnScope ["self", x] ["self", x] scope) (v1 : Vis scope "self") (v2 : Vis scope x)
    (hs : ∀ env : Env, swapsWith (.Name x p3) (some (.Attribute (.Name "self" p1) x p2)) p4.line env = pure false := by intro _; rfl)
    (hd : (x == ("__debug__" : Str)) = false := by decide) (hcd : (x == ("__classdict__" : Str)) = false := by decide) : FnOk P w K mg base (L2N.CX P w) (k + 1) f fd ["self", x] (spX [x] K) := by
  refine F.ok S (fun vs H Q E h => ?_) fun cdv A outer s H vs Q E hr h => ?_
  · obtain ⟨a, C, ws, e, l, _⟩ := h
    rw [e, List.length_cons, l]; rfl
  · obtain ⟨a, C, ws, rfl, l, T, hn, ea, q⟩ := h
    match ws, l with
    | [y], _ =>
      refine ⟨_, pss_cons (ps_ost (pe_var (i := 0) rfl v1 (by decide) (by decide)) (pe_var (i := 1) rfl v2 hd hcd) (hs _)) pss_nil, ?_⟩
      refine ⟨y, rfl, V.ref a, rfl, a, C, rfl, T, hn x (by simp), .inl ⟨ea, fun dx h1 h2 => ?_⟩⟩
      refine q dx _ h1 h2 upd_same ?_ fun b h3 h4 => ?_
      · rw [upd_ne h2, upd_same]; rfl
      · rw [upd_ne h3, upd_ne h4]
theorem fn_ex2 {x y : Str} {p1 p2 p3 p4 p5 p6 p7 p8 : Pos} (F : FunD K name qual params [.Assign [.Attribute (.Name "self" p1) x p2] (.Name x p3) p4, .Assign [.Attribute (.Name "self" p5) y p6] (.Name y p7) p8] scope dvs kws f fd) (S : FnScope ["self", x, y] ["self", x, y] scope) (v1 : Vis scope "self") (v2 : Vis scope x) (v3 : Vis scope y)
    (hs : ∀ env : Env, swapsWith (.Name x p3) (some (.Attribute (.Name "self" p1) x p2)) p4.line env = pure false := by intro _; rfl) (hs2 : ∀ env : Env, swapsWith (.Name y p7) (some (.Attribute (.Name "self" p5) y p6)) p8.line env = pure false := by intro _; rfl)
    (hd : (x == ("__debug__" : Str)) = false := by decide) (hcd : (x == ("__classdict__" : Str)) = false := by decide) (hd2 : (y == ("__debug__" : Str)) = false := by decide) (hcd2 : (y == ("__classdict__" : Str)) = false := by decide) : FnOk P w K mg base (L2N.CX P w) (k + 1) f fd ["self", x, y] (spX [x, y] K) := by
  refine F.ok S (fun vs H Q E h => ?_) fun cdv A outer s H vs Q E hr h => ?_
  · obtain ⟨a, C, ws, e, l, _⟩ := h
    rw [e, List.length_cons, l]; rfl
  · obtain ⟨a, C, ws, rfl, l, T, hn, ea, q⟩ := h
    match ws, l with
    | [u, z], _ =>
      refine ⟨_, pss_cons (ps_ost (pe_var (i := 0) rfl v1 (by decide) (by decide)) (pe_var (i := 1) rfl v2 hd hcd) (hs _)) (pss_cons (ps_ost (pe_var (i := 0) rfl v1 (by decide) (by decide)) (pe_var (i := 2) rfl v3 hd2 hcd2) (hs2 _)) pss_nil), ?_⟩
      refine ⟨u, rfl, V.ref a, rfl, a, C, rfl, T, hn x (by simp), .inl ⟨ea, fun dx h1 h2 => ?_⟩⟩
      refine ⟨z, rfl, V.ref a, rfl, a, C, rfl, T, hn y (by simp), .inr ⟨dx, [(x, u)], upd_same, by rw [upd_ne h2, upd_same], Nat.le_of_ble_eq_true rfl, ?_⟩⟩
      refine q dx _ h1 h2 ?_ upd_same fun b h3 h4 => ?_
      · rw [upd_ne (fun e => h2 e.symm), upd_same]
      · rw [upd_ne h4, upd_ne h3, upd_ne h4]
end
section
variable {X : Cx} {J : Jx} {W : WX} {q : Bool} {fa : SemA} {σ : St} {H : Hp} {τ : List (Sv × V)} {ρ : En} {F B : Hp} {O : Addr → Option Ow}
section
variable {X : Cx} {e : Expr} {es : List Expr} {ta : TA} {p pos : Pos}
theorem pmk_oexN {CX : CXT} {x : Str} {C fI : Addr} {k : Nat} {fd : FuncData} {ps : List Str} {sp : Sp} {ds : List Value} {dvs : List V} (T : OexC X.K C) (iC : PySem.W.findIn X.K (.ref C) "__init__" = some (some (.ref fI))) (tI : PySem.W.typeIn X.K (.ref fI) = some (.type "function"))
    (F1 : FnOk X.prog X.w X.K X.mg X.base CX k fI fd ps sp) (hr : Room (k + 1) X.A) (hb : Binds X.K fd ps ds) (hd : Vals dvs ds) (hx : Passes CX X (fun _ _ _ => False)) (hg : Gl X x) (hm : X.mg x = some (.ref C)) (ha : PA X (e :: es) ta)
    (hdb : (x == ("__debug__" : Str)) = false := by decide) (he : starEach (e :: es) X.env = (false, eval e X.env) :: starEach es X.env := by rfl) (hpl : (backTo pos (starEach es X.env)).any (·.1) = false := by rfl) :
    L2N.PMk X (.Call (.Name x p) (e :: es) [] pos) (tMkO C sp dvs ta) := by
  intro pins s σ H Q I h
  obtain ⟨_, _, _, _, bm, _, _, _, _, _, _, _, _, _, _, hC, hbm⟩ := T.cls
  refine wpAny_Call_Name_kw (ld_glob I hg hm ?_ hdb)
  refine PySem.W.callWith_K (h₀ := X.base) I.ok.mod.kin T.kC (thn (ha.run pos pins s σ H _ I h) fun us s1 ⟨vs, H1, I1, r1, hz, q1⟩ => ⟨I1.kIn, ?_⟩) he hpl
  show wpAny _ _ (call (.ref C) us) _ _ _
  obtain ⟨hp, g, dr, tk, os⟩ := s1
  generalize hn1 : hp.objs.size + 1 = n1
  have le1 : hp.objs.size ≤ n1 := by omega
  have hq := q1 n1 (I1.hok.fresh le1)
  generalize hnew : (hp.push (PySem.W.kdv_tup us)).push (PySem.HandSPX.excO C hp.objs.size) = hN
  have up : ∀ b o, hp.get? b = some o → hN.get? b = some o := fun b o z => by rw [← hnew]; exact Heap.get?_push_of_some _ (Heap.get?_push_of_some _ z)
  have at1 : hN.get? n1 = some (PySem.HandSPX.excO C hp.objs.size) := by rw [← hnew, ← hn1]; heap_get
  have I2 : Inv X pins σ (upd H1 n1 (exo n1 C none)) ⟨hN, g, dr, tk, os⟩ := I1.laid (t' := tk) (a := n1) (o := exo n1 C none) (h' := hN) up le1 (exo_ok at1)
  have r2 : Vals (V.ref n1 :: (vs ++ dvs)) (Value.ref n1 :: (us ++ ds)) := .cons rfl (r1.append hd)
  have len2 : (Value.ref n1 :: us ++ ds).length = ps.length := by
    have z := r2.length
    rw [F1.len _ _ _ _ hq] at z
    exact z.symm
  have small : us.length ≤ sizeLine := by rw [← Paired.length r1, sizeLine_eq]; omega
  subst hnew
  subst hn1
  refine wpAny_call (PySem.HandSPX.call_own F.excBase_ValueError (fun Y => PySem.HandSPX.refsVE_contains Y bm hbm) (I1.kIn _ _ hC) (PySem.W.looks_findIn I1.kIn iC) (fun self => PySem.W.bind_fn I1.kIn self tI) small
    (codeAny_mono (F1.run _ X.stack _ _ ⟨Value.ref (hp.objs.size + 1) :: us, []⟩ (Value.ref (hp.objs.size + 1) :: (us ++ ds)) _ _ (fun _ _ _ => False) (hr.make C us []) (I2.env0.make C us []) (hb _ (Value.ref (hp.objs.size + 1) :: us) I2.kIn len2) r2 hq) fun r s' hq' => ?_))
  cases r with
  | error er => exact hx pins σ _ _ er s' I2 hq'
  | ok fl =>
    cases fl with
    | ret u =>
      obtain ⟨v, H2, os2, bare2, un2, hok2, rv, rfl, d, fs, ea, ed, hd1, q2⟩ := hq'
      obtain ⟨h2, g2, d2, t2, os'⟩ := s'
      obtain ⟨t0, G, J, kG, ge, hoe, na⟩ := mk_end0 (d2 := d2) (t2 := t2) I1 le1 up un2 hok2 os2 bare2 ea ed hd1
      exact ⟨rv, ⟨hp.objs.size + 1, _, _, ⟨G, g2, d2, t2, os'⟩, _, .ref C, some d, rfl, J, kG, ge, hoe, ⟨rfl, rfl, fun vs hv => by cases hv; rfl⟩, rfl, rfl, na, rfl, bare2, raises_own T.exC T.tyC, q2⟩⟩
    | next => exact False.elim hq'
    | brk => exact False.elim hq'
    | cont => exact False.elim hq'
end
def sRaise (c : Str) (fs : List Str) (fa : SemA) : SemS := fun ρ => bndA (fa ρ) fun as ρ1 => match argVs ρ1 (fs.map fun _ => .shr) as with
    | some ds => .exc c (fs.zip ds).reverse ρ1
    | none => .bad
where
  bndA (r : Rs (List Ar)) (k : List Ar → En → Sr) : Sr := match r with
    | .ok as ρ => k as ρ
    | .exc c fs ρ => .exc c fs ρ
    | .bad => .bad
theorem IvW.addF {o : HO} {p : Addr} (I : IvW J F B O ρ τ σ H) (np : H p = none) : IvW J (upd F p o) (upd B p o) O ρ τ σ (upd H p o) := by
  have nB := I.base.freeB np
  have nF := I.base.freeF nB
  have hs := upd_sub (o := o) np
  refine ⟨I.base.grow hs upd_same (I.base.freeH0 np) nF nB, I.len, fun i s e => ?_, ?_⟩
  · obtain ⟨t, v, e1, h⟩ := I.slot i s e
    exact ⟨t, v, e1, h.grow nF nB hs fun a u g _ => ne_of_none g np⟩
  · exact I.temp.imp fun s v k _ _ h => h.grow nF nB hs fun a u g _ => ne_of_none g np
theorem argsShr {K : PySem.W.Frag} {all : List Addr} : ∀ {fs : List Str} {ds : List Vl} {vs : List V}, ArgsR K F H all (fs.map fun _ => .shr) ds vs [] → vs.length = fs.length ∧ ds.length = fs.length ∧ RepL K F ds vs
  | [], [], [], _ => ⟨rfl, rfl, rfl⟩
  | [], _ :: _, _, h => by cases h
  | [], [], _ :: _, h => by cases h
  | f :: fs, [], _, h => by cases h
  | f :: fs, _ :: _, [], h => by cases h
  | f :: fs, d :: ds, v :: vs, ⟨h1, h⟩ => by
    obtain ⟨h2, h3, h4⟩ := argsShr h
    exact ⟨by rw [List.length_cons, List.length_cons, h2], by rw [List.length_cons, List.length_cons, h3], v, vs, rfl, h1, h4⟩
theorem ioSl_shr : ∀ {fs : List Str} {as : List Ar}, ioSl (fs.map fun _ => .shr) as = []
  | [], as => by cases as <;> rfl
  | f :: fs, [] => rfl
  | f :: fs, .ex s :: as => ioSl_shr (fs := fs)
  | f :: fs, .sl i :: as => ioSl_shr (fs := fs)
theorem chkA_shr {ρ : En} : ∀ {fs : List Str} {as : List Ar} {ds : List Vl}, argVs ρ (fs.map fun _ => .shr) as = some ds → chkA [] (fs.map fun _ => .shr) as = true
  | [], [], _, _ => rfl
  | [], a :: as, _, e => by cases e
  | f :: fs, [], _, e => by cases e
  | f :: fs, a :: as, ds, e => by
    have e : argVs ρ (.shr :: fs.map fun _ => .shr) (a :: as) = some ds := e
    rw [argVs_cons] at e
    cases ea : arV ρ a with
    | none => rw [ea] at e; cases e
    | some s =>
      rw [ea] at e
      replace e : (match arD .shr s with | some d => (argVs ρ (fs.map fun _ => .shr) as).map (d :: ·) | none => none) = some ds := e
      cases ed : arD .shr s with
      | none => rw [ed] at e; cases e
      | some d =>
        rw [ed] at e
        obtain ⟨ds', e1, _⟩ := Option.map_eq_some_iff.mp (show (argVs ρ (fs.map fun _ => .shr) as).map (d :: ·) = some ds from e)
        have ih := chkA_shr e1
        cases a with
        | ex s => exact ih
        | sl i => exact ih
theorem repF_zip {K : PySem.W.Frag} {G : Hp} : ∀ {fs : List Str} {ds : List Vl} {vs : List V}, RepL K G ds vs → RepF K G (fs.zip ds) (fs.zip vs)
  | [], _, _, _ => rfl
  | f :: fs, [], vs, h => by rw [show vs = [] from h]; exact rfl
  | f :: fs, d :: ds, vs, ⟨v, r, e, h1, h2⟩ => by subst e; exact ⟨v, _, rfl, h1, repF_zip h2⟩
theorem repF_app {K : PySem.W.Frag} {G : Hp} : ∀ {a b : List (Str × Vl)} {u v : List (Str × V)}, RepF K G a u → RepF K G b v → RepF K G (a ++ b) (u ++ v)
  | [], b, u, v, h, g => by rw [show u = [] from h]; exact g
  | (f, x) :: a, b, u, v, ⟨y, r, e, h1, h2⟩, g => by subst e; exact ⟨y, _, rfl, h1, repF_app h2 g⟩
theorem repF_rev {K : PySem.W.Frag} {G : Hp} : ∀ {a : List (Str × Vl)} {u : List (Str × V)}, RepF K G a u → RepF K G a.reverse u.reverse
  | [], u, h => by rw [show u = [] from h]; exact rfl
  | (f, x) :: a, u, ⟨y, r, e, h1, h2⟩ => by
    subst e
    rw [List.reverse_cons, List.reverse_cons]
    exact repF_app (repF_rev h2) ⟨y, [], rfl, h1, rfl⟩
theorem exo_clean {H1 H' : Hp} {a C dx : Addr} {l : List (Str × V)} (hn : H1 a = none) (hne : dx ≠ a) (hk : ∀ b, b ≠ a → b ≠ dx → H' b = upd H1 a (exo a C none) b) : upd (del H' a) dx (.xd l) = upd H1 dx (.xd l) := by
  funext b
  by_cases h1 : b = dx
  · subst h1; rw [upd_same, upd_same]
  · rw [upd_ne h1, upd_ne h1]
    by_cases h2 : b = a
    · subst h2; rw [del_same, hn]
    · rw [del_ne h2, hk b h2 h1, upd_ne h2]
theorem xs_raise {c x : Str} {fI : Addr} {k : Nat} {fd : FuncData} {ps : List Str} {fs : List Str} {e : Expr} {es : List Expr} {p pos pos2 : Pos} (hK : J.K = X.K) (hc : X.calm = true) (tk : Takes X W)
    (T : OexC X.K (He.ga X.K c)) (hn : ∀ f, f ∈ fs → PySem.W.findIn X.K (.ref (He.ga X.K c)) f = some none) (iC : PySem.W.findIn X.K (.ref (He.ga X.K c)) "__init__" = some (some (.ref fI))) (tI : PySem.W.typeIn X.K (.ref fI) = some (.type "function"))
    (F1 : FnOk X.prog X.w X.K X.mg X.base (L2N.CX X.prog X.w) k fI fd ps (spX fs X.K)) (hr : Room (k + 1) X.A) (hb : Binds X.K fd ps []) (hg : Gl X x) (hm : X.mg x = some (.ref (He.ga X.K c))) (hl : (fs.length ≤ 1000) := by decide) (ha : XA X J W (e :: es) q fa)
    (hdb : (x == ("__debug__" : Str)) = false := by decide) (he : starEach (e :: es) X.env = (false, eval e X.env) :: starEach es X.env := by rfl) (hpl : (backTo pos (starEach es X.env)).any (·.1) = false := by rfl) :
    XS X J W (.Raise (some (.Call (.Name x p) (e :: es) [] pos)) none pos2) (sRaise c fs fa) := by
  refine ⟨(L2N.ps_raise hc tk (pmk_oexN (dvs := []) (ds := []) T iC tI F1 hr hb .nil (L2N.passes_call (W := fun _ _ _ _ => False) takes_none5 (fun _ _ _ _ h => h)) hg hm ha.pa hdb he hpl)).imp fun σ H D h => ?_⟩
  obtain ⟨ρ, τ, I, nt, m⟩ := h
  refine ⟨ρ, τ, I, .inr nt, ?_⟩
  unfold sRaise sRaise.bndA at m
  cases z : fa ρ with
  | ok as ρ1 =>
    rw [z] at m
    rintro vs τ' H1 k ⟨F, B, O, I1⟩
    have m : OutS J W τ (match argVs ρ1 (fs.map fun _ => .shr) as with
      | some ds => .exc c (fs.zip ds).reverse ρ1
      | none => .bad) D := m
    cases ea : argVs ρ1 (fs.map fun _ => .shr) as with
    | none => rw [ea] at m; exact m.elim
    | some ds =>
      rw [ea] at m
      obtain ⟨I2, ar⟩ := args_R (is := []) nt (fun i hi => by cases hi) _ as ds vs τ τ' ea (chkA_shr ea) (fun i hi => by rw [ioSl_shr] at hi; exact hi) k I1
      rw [ioSl_shr] at ar
      obtain ⟨l1, l2, rl⟩ := argsShr (show ArgsR J.K F H1 [] (fs.map fun _ => .shr) ds vs [] from ar)
      refine ⟨by rw [l1]; exact hl, fun a na => ?_⟩
      rw [List.append_nil]
      refine ⟨a, _, vs, rfl, l1, T, hn, upd_same, fun dx H' h1 h2 h3 h4 h5 => ⟨rfl, dx, _, h3, h4, ?_, ?_⟩⟩
      · rw [upd_ne h2] at h1; exact h1
      · rw [exo_clean na h2 h5]
        rw [upd_ne h2] at h1
        have I3 := I2.addF (o := .xd (fs.zip vs).reverse) h1
        refine m _ _ _ _ ⟨_, _, _, ⟨I3.base, I3.len, I3.slot, trivial⟩, by rw [hK], .inr ⟨dx, (fs.zip vs).reverse, rfl, upd_same, fun f y e => ?_⟩⟩
        have rl2 : RepL J.K (upd F dx (.xd (fs.zip vs).reverse)) ds vs := rl.mono (upd_sub (I2.base.freeF (I2.base.freeB h1)))
        exact (repF_rev (repF_zip rl2)).look e
  | exc cc fs' ρ1 => rw [z] at m; intro cls d H1 hx; exact m cls d σ H1 hx
  | bad => rw [z] at m; exact m.elim
end
end MV
namespace MV
open PySem PySem.Spec PyProof.Rows L2
abbrev Hdl := Option Nat × Value × (Addr → Value → Option Addr → TS)
def unD (D : Ends) : Option Nat → Ends
  | none => D
  | some i => { nx := fun σ' H' => D.nx (σ'.set i none) H', rt := D.rt, bk := fun σ' H' => D.bk (σ'.set i none) H', ct := fun σ' H' => D.ct (σ'.set i none) H' }
def inSt (σ : St) (a : Addr) : Option Nat → St
  | none => σ
  | some i => σ.set i (some (.ref a))
def wManyA (K : PySem.W.Frag) (Wout : WX) (D : Ends) : List Hdl → WX
  | [] => Wout
  | (o, c, ts) :: r => fun cls d σ H => ∃ b, PySem.W.exmOne K cls c = some b ∧ (b = true → ∀ a, H a = none → ts a cls d (unD D o) (inSt σ a o) H) ∧ (b = false → wManyA K Wout D r cls d σ H)
inductive HdsA (X : Cx) : List ExceptHandler → List Hdl → Prop
  | nil : HdsA X [] []
  | cons {x : Str} {c : Value} {ts : Addr → Value → Option Addr → TS} {b₀ : Stmt} {suite : List Stmt} {np pos' : Pos} {hds : List ExceptHandler} {l : List Hdl} (hc : Names X x c)
      (hsu : ∀ (a : Addr) (oe : Obj) (cls : Value) (d : Option Addr) (pn : List (Addr × Obj)), L2N.Zn cls d oe → (∃ vs, oe.data = .fields vs) → PSs (X.suite a ((a, oe) :: pn)) (b₀ :: suite) (ts a cls d)) (r : HdsA X hds l) :
      HdsA X (.ExceptHandler (some (.Name x np)) none (b₀ :: suite) pos' :: hds) ((none, c, ts) :: l)
  | as {x n : Str} {i : Nat} {c : Value} {ts : Addr → Value → Option Addr → TS} {b₀ : Stmt} {suite : List Stmt} {np pos' : Pos} {hds : List ExceptHandler} {l : List Hdl} (hc : Names X x c) (hi : X.N[i]? = some n) (hln : X.env.kindOf n = some .local)
      (hsu : ∀ (a : Addr) (oe : Obj) (cls : Value) (d : Option Addr) (pn : List (Addr × Obj)), L2N.Zn cls d oe → (∃ vs, oe.data = .fields vs) → PSs (X.suite a ((a, oe) :: pn)) (b₀ :: suite) (ts a cls d)) (r : HdsA X hds l) :
      HdsA X (.ExceptHandler (some (.Name x np)) (some n) (b₀ :: suite) pos' :: hds) ((some i, c, ts) :: l)
section
variable {X : Cx} {body : List Stmt} {h₀ : ExceptHandler} {hds : List ExceptHandler} {l : List Hdl} {pos : Pos} {tb : WX → TS} {Wout : WX}
theorem ps_try_all (hs : X.stack = X.env :: X.outer) (hf : X.env.frame = some X.env.locals) (hN : X.N.Nodup) (tk : Takes X Wout)
    (hb : ∀ (W : WX) (pn : List (Addr × Obj)) (xe : Value → Shared → Prop), Takes (X.tr pn xe) W → PassesOwn (model X.prog X.w) X.A X.env xe → PSs (X.tr pn xe) body (tb W))
    (hh : HdsA X (h₀ :: hds) l) : PS X (.Try body (h₀ :: hds) [] [] pos) (fun D σ H => tb (wManyA X.K Wout D l) D σ H) := by
  refine ⟨fun pins s σ H D I h => ?_⟩
  have ok := I.ok
  have hfr : X.A.frames = some (X.env :: X.outer) := by rw [ok.frames, hs]
  refine wpAny_Try_except ?_
  refine wpAny_mono ((hb (wManyA X.K Wout D l) (X.pn ++ pins) (fun e s₁ => wpAny (model X.prog X.w) X.A (noteFrame e X.env) (fun _ s₂ => wpAny (model X.prog X.w) X.A (setFlight e none) (fun _ s₃ =>
    wpAny (model X.prog X.w) X.A (handleBy e X.env (h₀ :: hds)) (SP X pins D) X.xe s₃) X.xe s₂) X.xe s₁) (fun u s' xx => ?_) PassesOwn.looking).run [] s σ H D (I.toTry _) h) (fun f s1 hsp => ?_) (fun e s1 he => he)
  · obtain ⟨a, B, sI, pins', σ', H', cls, d, rfl, J', nb, up, sky, na, os, ag, w⟩ := xx
    have J : Inv X pins σ' H' sI := J'.ofTry ok
    have sky' : Sky B (X.env :: X.outer) a (L2N.Zn cls d) X.env.locals s'.heap := by rw [← hs]; exact sky
    show wpAny (model X.prog X.w) X.A (noteFrame (.ref a) X.env) _ _ _
    refine L2N.Sky.land L2N.Zn.steady hfr hf sky' fun h3 fl3 up3 => ?_
    have J3 : Inv X pins σ' H' { s' with heap := h3 } := J.landed nb fl3.1 (up.trans up3) os ag
    obtain ⟨oe3, vs3, he3, hz3, hd3⟩ := fl3.there
    have notFr : ∀ {h : Heap} {o : Obj} {vs : Array Value}, h.FunFrames B (X.env :: X.outer) → h.get? a = some o → o.data = .fields vs → a ∉ frs (X.env :: X.outer) := fun {h o vs} ff e dd hm => by
      obtain ⟨_, o', e', hnf⟩ := ff.mem hm
      rw [e] at e'; cases e'
      exact hnf _ dd
    have nfr := notFr fl3.2.2.1 he3 hd3
    have nL : a ≠ X.env.locals := fun z => nfr (List.mem_filterMap.mpr ⟨X.env, List.mem_cons_self, by rw [hf, z]⟩)
    have nF : a ∉ X.fs := fun hm => by
      obtain ⟨e, he, q⟩ := List.mem_filterMap.mp hm
      exact nfr (List.mem_filterMap.mpr ⟨e, List.mem_cons_of_mem _ he, q⟩)
    have S3 := J3.suite he3 hd3 na nL nF
    have LT : PySem.W.Looks (model X.prog X.w) h3 (typeOf (.ref a)) cls := fun A Q E s k q => wpAny_typeOf_ref (k _ _ he3) (by rw [hz3.1]; exact q)
    have test : ∀ {x : Str} {c : Value} {np : Pos} {Q : Value → Shared → Prop} {E : Value → Shared → Prop}, Names X x c → Q c { s' with heap := h3 } → wpAny (model X.prog X.w) (X.A.mark (some (.ref a))) (eval (.Name x np) X.env) Q E { s' with heap := h3 } := fun {x c np Q E} hc q => by
      obtain ⟨hg, hdbg, hm | ⟨hm, hv, hnn⟩⟩ := hc
      · exact ld_glob (X := X.suite a ((a, oe3) :: (X.pn ++ pins))) S3 hg hm q hdbg
      · exact ld_blt (X := X.suite a ((a, oe3) :: (X.pn ++ pins))) S3 hg hm hv q hnn hdbg
    have go : ∀ {hds' : List ExceptHandler} {l' : List Hdl}, HdsA X hds' l' → wManyA X.K Wout D l' cls d σ' H' →
        wpAny (model X.prog X.w) X.A (handleBy (.ref a) X.env hds') (SP X pins D) X.xe { s' with heap := h3 } := by
      intro hds' l' hk
      induction hk with
      | nil =>
        intro w
        refine wpAny_handleBy_nil ?_
        obtain ⟨k1, k2, k3, oe, vs, T, oT, ts', he, hz, hd, h1, hr⟩ := id fl3
        unfold PySem.passOn
        refine wpAny_bind (wpAny_field he hd h1 ?_)
        rw [if_neg (show ¬ ((Value.ref T == Value.none) = true) from by simp)]
        have fin : wpAny (model X.prog X.w) X.A (setFlight (.ref a) X.env.frame) (fun _ s4 => wpAny (model X.prog X.w) X.A (throw (.ref a) : Sem Flow) (SP X pins D) X.xe s4) X.xe { s' with heap := h3 } := by
          rw [hf]
          refine HandSPX.setFlight_upZ fl3 fun h4 hh4 up4 => wpAny_throw (tk _ _ ?_)
          exact ⟨a, B, sI, pins, σ', H', cls, d, rfl, J, nb, (up.trans up3).trans up4, .inr (.inr (by rw [hs]; exact hh4)), na, os, ag, w⟩
        first
          | exact wpAny_bind (wpAny_pure (wpAny_bind fin))
          | exact wpAny_bind fin
      | @cons x c ts b₀ suite np pos' hds2 l2 hc hsu r ih =>
        intro w
        obtain ⟨b, hb1, hyes, hno⟩ := w
        refine wpAny_handleBy_cons (codeAny_handlers_test ?_) (by intro q; cases q)
        refine test hc ((PySem.W.exm_one (M := model X.prog X.w) (J3.kIn) LT hb1).here ?_)
        cases b with
        | true =>
          refine codeAny_handlers_suite ?_
          refine HandSPX.lands_againZ fl3 fun h4 fl4 up4 => ?_
          have J4 : Inv X pins σ' H' { s' with heap := h4 } := J.landed nb fl4.1 ((up.trans up3).trans up4) os ag
          obtain ⟨oe4, vs4, he4, hz4, hd4⟩ := fl4.there
          have S4 := J4.suite he4 hd4 na nL nF
          refine wpAny_mono ((hsu a oe4 cls d (X.pn ++ pins) hz4 ⟨_, hd4⟩).run [] _ _ H' _ S4 (hyes rfl a na)) (fun f s6 hsp => ?_) (fun _ _ z => False.elim z)
          cases f with
          | next =>
            obtain ⟨σ6, H6, S6, q6⟩ := hsp
            exact ⟨_, _, S6.unsuite ok, q6⟩
          | brk =>
            obtain ⟨σ6, H6, S6, q6⟩ := hsp
            exact ⟨_, _, S6.unsuite ok, q6⟩
          | cont =>
            obtain ⟨σ6, H6, S6, q6⟩ := hsp
            exact ⟨_, _, S6.unsuite ok, q6⟩
          | ret u =>
            obtain ⟨v6, σ6, H6, S6, r6, q6⟩ := hsp
            exact ⟨_, _, _, S6.unsuite ok, r6, q6⟩
        | false =>
          show wpAny _ X.A (handleBy (.ref a) X.env hds2) _ _ _
          exact ih (hno rfl)
      | @as x n i c ts b₀ suite np pos' hds2 l2 hc hi hln hsu r ih =>
        intro w
        obtain ⟨b, hb1, hyes, hno⟩ := w
        refine wpAny_handleBy_cons (codeAny_handlers_test ?_) (by intro q; cases q)
        refine test hc ((PySem.W.exm_one (M := model X.prog X.w) (J3.kIn) LT hb1).here ?_)
        cases b with
        | true =>
          refine codeAny_handlers_suite_as ?_
          refine HandSPX.lands_againZ fl3 fun h4 fl4 up4 => ?_
          have J4 : Inv X pins σ' H' { s' with heap := h4 } := J.landed nb fl4.1 ((up.trans up3).trans up4) os ag
          obtain ⟨oe4, vs4, he4, hz4, hd4⟩ := fl4.there
          have S4 := J4.suite he4 hd4 na nL nF
          refine store_ok (X := X.suite a ((a, oe4) :: (X.pn ++ pins))) (v := .ref a) S4 hN hi (.inl hln) rfl (fun s5 S5 => ?_) (.inr hln)
          refine wpAny_mono ((hsu a oe4 cls d (X.pn ++ pins) hz4 ⟨_, hd4⟩).run [] s5 _ H' _ S5 (hyes rfl a na)) (fun f s6 hsp => ?_) (fun _ _ z => False.elim z)
          have end_ : ∀ {σ6 : St} {H6 : Hp} {Q : Shared → Prop}, Inv (X.suite a ((a, oe4) :: (X.pn ++ pins))) [] σ6 H6 s6 → (∀ s7, Inv X pins (σ6.set i none) H6 s7 → Q s7) →
              wpAny (model X.prog X.w) X.A (do bindName X.env n .none; unbindBehindTheSuite X.env n pos') (fun _ s7 => Q s7) X.xe s6 := fun {σ6 H6 Q} S6 hq => gone_ok (S6.unsuite ok) hN hi hln hq
          cases f with
          | next =>
            obtain ⟨σ6, H6, S6, q6⟩ := hsp
            exact end_ S6 fun s7 J7 => ⟨_, _, J7, q6⟩
          | brk =>
            obtain ⟨σ6, H6, S6, q6⟩ := hsp
            exact end_ S6 fun s7 J7 => ⟨_, _, J7, q6⟩
          | cont =>
            obtain ⟨σ6, H6, S6, q6⟩ := hsp
            exact end_ S6 fun s7 J7 => ⟨_, _, J7, q6⟩
          | ret u =>
            obtain ⟨v6, σ6, H6, S6, r6, q6⟩ := hsp
            exact end_ S6 fun s7 J7 => ⟨_, _, _, J7, r6, q6⟩
        | false =>
          show wpAny _ X.A (handleBy (.ref a) X.env hds2) _ _ _
          exact ih (hno rfl)
    exact go hh w
  · cases f with
    | next =>
      obtain ⟨σ', H', J', q⟩ := hsp
      exact wpAny_execs_nil ⟨σ', H', J'.ofTry ok, q⟩
    | brk =>
      obtain ⟨σ', H', J', q⟩ := hsp
      exact ⟨σ', H', J'.ofTry ok, q⟩
    | cont =>
      obtain ⟨σ', H', J', q⟩ := hsp
      exact ⟨σ', H', J'.ofTry ok, q⟩
    | ret u =>
      obtain ⟨v, σ', H', J', r, q⟩ := hsp
      exact ⟨v, σ', H', J'.ofTry ok, r, q⟩
end
structure XS0 (X : Cx) (J : Jx) (W : WX) (st : Stmt) (f : SemS) : Prop where
  ps : PS X st (fun D σ H => ∃ ρ, Iv J ρ [] σ H ∧ OutS J W [] (f ρ) D)
structure XB0 (X : Cx) (J : Jx) (W : WX) (sts : List Stmt) (f : SemS) : Prop where
  pss : PSs X sts (fun D σ H => ∃ ρ, Iv J ρ [] σ H ∧ OutS J W [] (f ρ) D)
structure HSem where
  o : Option Nat
  mt : Str → Option Bool
  su : Str → List (Str × Vl) → SemS
def unR (o : Option Nat) (r : Sr) : Sr := match o with
  | none => (match r with
    | .exc _ _ _ => .bad
    | r => r)
  | some i => (match r with
    | .next ρ => .next (ρ.set i none)
    | .brk ρ => .brk (ρ.set i none)
    | .cont ρ => .cont (ρ.set i none)
    | .ret s ρ => .ret s ρ
    | .exc _ _ _ => .bad
    | .bad => .bad)
def outS' (ρ : En) : Option Nat → Option En
  | none => some ρ
  | some i => if noIo ρ i && decide (i < ρ.length) then some (ρ.set i none) else none
def hRun : List HSem → Str → List (Str × Vl) → En → Sr
  | [], c, fs, ρ => .exc c fs ρ
  | h :: r, c, fs, ρ => match h.mt c with
    | some true => (match outS' ρ h.o with
      | some ρ1 => unR h.o (h.su c fs ρ1)
      | none => .bad)
    | some false => hRun r c fs ρ
    | none => .bad
def sTry (f : SemS) (hs : List HSem) : SemS := fun ρ => match f ρ with
  | .exc c fs ρ1 => hRun hs c fs ρ1
  | r => r
def Jx.sub (J : Jx) (F : Hp) (fx : Option (Nat × V)) : Jx := ⟨J.K, J.H0, F, J.ios, fx⟩
section
variable {X : Cx} {J : Jx} {W : WX} {F B H : Hp} {O : Addr → Option Ow} {ρ : En} {τ : List (Sv × V)} {σ : St} {F' : Hp} {fx : Option (Nat × V)}
theorem sr_sub {ow : Ow} {s : Sv} {v : V} : SR (J.sub F' fx) F B H O ow s v = SR J F B H O ow s v := by
  obtain ⟨m, d⟩ := s
  cases m <;> rfl
theorem tok_sub : ∀ {τ : List (Sv × V)}, TOk (J.sub F' fx) F B H O τ = TOk J F B H O τ
  | [] => rfl
  | (s, v) :: t => by
    show (SR (J.sub F' fx) F B H O _ s v ∧ TOk (J.sub F' fx) F B H O t) = (SR J F B H O _ s v ∧ TOk J F B H O t)
    rw [sr_sub, tok_sub]
theorem IvW.enter {o : Option Nat} {a : Addr} {ρ1 : En} (I : IvW J F B O ρ τ σ H) (h : outS' ρ o = some ρ1) : IvW (J.sub F (o.map fun i => (i, V.ref a))) F B O ρ1 τ (inSt σ a o) H := by
  have base : Base (J.sub F (o.map fun i => (i, V.ref a))) F B H := ⟨I.base.fb, I.base.bh, fun _ _ e => e, fun b u e => .inl e, I.base.keep, I.base.iot⟩
  cases o with
  | none =>
    cases h
    exact ⟨base, ⟨I.len.eq, fun i v e => by cases e⟩, fun i s e => (let ⟨t, v, e1, r⟩ := I.slot i s e; ⟨t, v, e1, by rw [sr_sub]; exact r⟩), by rw [tok_sub]; exact I.temp⟩
  | some k =>
    have h : (if noIo ρ k && decide (k < ρ.length) then some (ρ.set k none) else none) = some ρ1 := h
    by_cases c : (noIo ρ k && decide (k < ρ.length)) = true
    · rw [if_pos c] at h
      cases h
      have hl := of_decide_eq_true (Bool.and_eq_true_iff.mp c).2
      refine ⟨base, ⟨by show (ρ.set k none).length = (σ.set k _).length; rw [List.length_set, List.length_set]; exact I.len.eq, fun i v e => ?_⟩, fun i s e => ?_, by rw [tok_sub]; exact I.temp⟩
      · cases e
        show (σ.set k (some (.ref a)))[k]? = _
        rw [List.getElem?_set_self (by rw [← I.len.eq]; exact hl)]
      · by_cases hi : k = i
        · subst hi
          rw [List.getElem?_set_self hl] at e; cases e
        · rw [List.getElem?_set_ne hi] at e
          obtain ⟨t, v, e1, r⟩ := I.slot i s e
          refine ⟨t, v, ?_, by rw [sr_sub]; exact r⟩
          show (σ.set k (some (.ref a)))[i]? = _
          rw [List.getElem?_set_ne hi]; exact e1
    · rw [if_neg c] at h; cases h
def unσ (σ : St) : Option Nat → St
  | none => σ
  | some i => σ.set i none
def unρ (ρ : En) : Option Nat → En
  | none => ρ
  | some i => ρ.set i none
theorem IvW.leave {o : Option Nat} {F0 : Hp} (hfx : J.fx = none) (hs : Sub J.F0 F0) (hn : ∀ b u, F0 b = some u → J.F0 b = some u ∨ J.H0 b = none) (I : IvW (J.sub F0 fx) F B O ρ τ σ H) : IvW J F B O (unρ ρ o) τ (unσ σ o) H := by
  have base : Base J F B H := ⟨I.base.fb, I.base.bh, fun b u e => I.base.f0 _ _ (hs _ _ e), fun b u e => (I.base.new b u e).elim (hn b u) .inr, I.base.keep, I.base.iot⟩
  cases o with
  | none => exact ⟨base, ⟨I.len.eq, fun i v e => by rw [hfx] at e; cases e⟩, fun i s e => (let ⟨t, v, e1, r⟩ := I.slot i s e; ⟨t, v, e1, by rw [sr_sub] at r; exact r⟩), by have t := I.temp; rw [tok_sub] at t; exact t⟩
  | some k =>
    refine ⟨base, ⟨by show (ρ.set k none).length = (σ.set k none).length; rw [List.length_set, List.length_set]; exact I.len.eq, fun i v e => by rw [hfx] at e; cases e⟩, fun i s e => ?_, by have t := I.temp; rw [tok_sub] at t; exact t⟩
    by_cases hi : k = i
    · subst hi
      have e : (ρ.set k none)[k]? = some (some s) := e
      by_cases hl : k < ρ.length
      · rw [List.getElem?_set_self hl] at e; cases e
      · rw [List.getElem?_eq_none (by simpa using hl)] at e; cases e
    · have e : (ρ.set k none)[i]? = some (some s) := e
      rw [List.getElem?_set_ne hi] at e
      obtain ⟨t, v, e1, r⟩ := I.slot i s e
      refine ⟨t, v, ?_, by rw [sr_sub] at r; exact r⟩
      show (σ.set k none)[i]? = _
      rw [List.getElem?_set_ne hi]; exact e1
def tsOf (K : PySem.W.Frag) (h : HSem) : Addr → Value → Option Addr → TS := fun a cls d D σ H => ∃ (J' : Jx) (k : Str) (fs : List (Str × Vl)), J'.K = K ∧ J'.fx = (h.o.map fun i => (i, V.ref a)) ∧ ErrR J'.K J'.F0 k fs cls d ∧ h.mt k = some true ∧ tS J' WN (h.su k fs) D σ H
inductive HM (X : Cx) : List ExceptHandler → List (HSem × Value) → Prop
  | nil : HM X [] []
  | cons {x : Str} {c : Value} {h : HSem} {b₀ : Stmt} {suite : List Stmt} {np pos' : Pos} {hds : List ExceptHandler} {l : List (HSem × Value)} (hc : Names X x c) (ho : h.o = none) (hmt : ∀ k b, h.mt k = some b → PySem.W.exmOne X.K (.ref (He.ga X.K k)) c = some b)
      (hsu : ∀ (a : Addr) (oe : Obj) (d : Option Addr) (pn : List (Addr × Obj)) (J' : Jx) (k : Str) (fs : List (Str × Vl)), J'.K = X.K → J'.fx = none → L2N.Zn (.ref (He.ga X.K k)) d oe → (∃ vs, oe.data = .fields vs) → h.mt k = some true → XB (X.suite a ((a, oe) :: pn)) J' WN (b₀ :: suite) (h.su k fs))
      (r : HM X hds l) : HM X (.ExceptHandler (some (.Name x np)) none (b₀ :: suite) pos' :: hds) ((h, c) :: l)
  | as {x n : Str} {i : Nat} {c : Value} {h : HSem} {b₀ : Stmt} {suite : List Stmt} {np pos' : Pos} {hds : List ExceptHandler} {l : List (HSem × Value)} (hc : Names X x c) (hi : X.N[i]? = some n) (hln : X.env.kindOf n = some .local) (ho : h.o = some i) (hmt : ∀ k b, h.mt k = some b → PySem.W.exmOne X.K (.ref (He.ga X.K k)) c = some b)
      (hsu : ∀ (a : Addr) (oe : Obj) (d : Option Addr) (pn : List (Addr × Obj)) (J' : Jx) (k : Str) (fs : List (Str × Vl)), J'.K = X.K → J'.fx = some (i, .ref a) → ErrR J'.K J'.F0 k fs (.ref (He.ga X.K k)) d → L2N.Zn (.ref (He.ga X.K k)) d oe → (∃ vs, oe.data = .fields vs) → h.mt k = some true → XB (X.suite a ((a, oe) :: pn)) J' WN (b₀ :: suite) (h.su k fs))
      (r : HM X hds l) : HM X (.ExceptHandler (some (.Name x np)) (some n) (b₀ :: suite) pos' :: hds) ((h, c) :: l)
theorem hm_hds {hds : List ExceptHandler} {l : List (HSem × Value)} (h : HM X hds l) : HdsA X hds (l.map fun p => (p.1.o, p.2, tsOf X.K p.1)) := by
  induction h with
  | nil => exact .nil
  | cons hc ho hmt hsu r ih =>
    rw [List.map_cons, ho]
    refine .cons hc (fun a oe cls d pn hz hf => ⟨fun pins s σ H D I hts => ?_⟩) ih
    obtain ⟨J', k, fs, hK, hx, er, hm, ht⟩ := hts
    rw [ho] at hx
    obtain ⟨ec, _⟩ := id er
    rw [hK] at ec
    subst ec
    exact (hsu a oe d pn J' k fs hK hx hz hf hm).pss.run pins s σ H D I ht
  | as hc hi hln ho hmt hsu r ih =>
    rw [List.map_cons, ho]
    refine .as hc hi hln (fun a oe cls d pn hz hf => ⟨fun pins s σ H D I hts => ?_⟩) ih
    obtain ⟨J', k, fs, hK, hx, er, hm, ht⟩ := hts
    rw [ho] at hx
    obtain ⟨ec, _⟩ := id er
    rw [hK] at ec
    subst ec
    exact (hsu a oe d pn J' k fs hK hx er hz hf hm).pss.run pins s σ H D I ht
theorem hrun_ok {hds : List ExceptHandler} {l : List (HSem × Value)} {D : Ends} {c : Str} {fs : List (Str × Vl)} {cls : Value} {d : Option Addr} (hfx : J.fx = none) (hK : J.K = X.K) (h : HM X hds l) (m : OutS J W [] (hRun (l.map (·.1)) c fs ρ) D) (hx : Ix J ρ c fs σ H cls d) :
    wManyA X.K W D (l.map fun p => (p.1.o, p.2, tsOf X.K p.1)) cls d σ H := by
  obtain ⟨F, B, O, I, er⟩ := hx
  have ec : cls = .ref (He.ga X.K c) := hK ▸ er.1
  have key : ∀ {h : HSem} {u : Value}, (∀ k b, h.mt k = some b → PySem.W.exmOne X.K (.ref (He.ga X.K k)) u = some b) → ∀ {r : List HSem} {l2 : List Hdl}, (OutS J W [] (hRun r c fs ρ) D → wManyA X.K W D l2 cls d σ H) → OutS J W [] (hRun (h :: r) c fs ρ) D →
      wManyA X.K W D ((h.o, u, tsOf X.K h) :: l2) cls d σ H := fun {h u} hmt {r l2} ih m => by
    have m : OutS J W [] (match h.mt c with
      | some true => (match outS' ρ h.o with
        | some ρ1 => unR h.o (h.su c fs ρ1)
        | none => .bad)
      | some false => hRun r c fs ρ
      | none => .bad) D := m
    cases e : h.mt c with
    | none => rw [e] at m; exact m.elim
    | some b =>
      refine ⟨b, by rw [ec]; exact hmt c b e, fun hb a na => ?_, fun hb => ?_⟩
      · subst hb
        rw [e] at m
        have m : OutS J W [] (match outS' ρ h.o with
          | some ρ1 => unR h.o (h.su c fs ρ1)
          | none => .bad) D := m
        cases e2 : outS' ρ h.o with
        | none => rw [e2] at m; exact m.elim
        | some ρ1 =>
          rw [e2] at m
          have m : OutS J W [] (unR h.o (h.su c fs ρ1)) D := m
          have I1 := I.enter (a := a) e2
          refine ⟨J.sub F (h.o.map fun i => (i, V.ref a)), c, fs, hK, rfl, er, e, ρ1, [], ⟨F, B, O, I1⟩, (fun _ h => by cases h), ?_⟩
          have back : ∀ {ρ2 : En} {τ2 : List (Sv × V)} {σ2 : St} {H2 : Hp}, Iv (J.sub F (h.o.map fun i => (i, V.ref a))) ρ2 τ2 σ2 H2 → Iv J (unρ ρ2 h.o) τ2 (unσ σ2 h.o) H2 := fun ⟨F2, B2, O2, I2⟩ =>
            ⟨F2, B2, O2, I2.leave hfx I.base.f0 I.base.new⟩
          have back0 : ∀ {ρ2 : En} {τ2 : List (Sv × V)} {σ2 : St} {H2 : Hp}, Iv (J.sub F (h.o.map fun i => (i, V.ref a))) ρ2 τ2 σ2 H2 → Iv J ρ2 τ2 σ2 H2 := fun ⟨F2, B2, O2, I2⟩ =>
            ⟨F2, B2, O2, I2.leave (o := none) hfx I.base.f0 I.base.new⟩
          revert m back back0
          cases h.o with
          | none =>
            intro m back back0
            cases e3 : h.su c fs ρ1 with
            | next ρ2 => rw [e3] at m; exact fun σ2 H2 I2 => m _ _ (back I2)
            | brk ρ2 => rw [e3] at m; exact fun σ2 H2 I2 => m _ _ (back I2)
            | cont ρ2 => rw [e3] at m; exact fun σ2 H2 I2 => m _ _ (back I2)
            | ret s ρ2 => rw [e3] at m; exact fun v σ2 H2 I2 => m v _ _ (back0 I2)
            | exc c2 fs2 ρ2 => rw [e3] at m; exact m.elim
            | bad => rw [e3] at m; exact m.elim
          | some k =>
            intro m back back0
            cases e3 : h.su c fs ρ1 with
            | next ρ2 => rw [e3] at m; exact fun σ2 H2 I2 => m _ _ (back I2)
            | brk ρ2 => rw [e3] at m; exact fun σ2 H2 I2 => m _ _ (back I2)
            | cont ρ2 => rw [e3] at m; exact fun σ2 H2 I2 => m _ _ (back I2)
            | ret s ρ2 => rw [e3] at m; exact fun v σ2 H2 I2 => m v _ _ (back0 I2)
            | exc c2 fs2 ρ2 => rw [e3] at m; exact m.elim
            | bad => rw [e3] at m; exact m.elim
      · subst hb
        rw [e] at m
        exact ih m
  induction h with
  | nil => exact m cls d σ H ⟨F, B, O, I, er⟩
  | cons hc ho hmt hsu r ih => exact key hmt ih m
  | as hc hi hln ho hmt hsu r ih => exact key hmt ih m
theorem _root_.L2.PS.imp0 {X : Cx} {st : Stmt} {t t' : TS} (h : PS X st t) (i : ∀ D σ H, t' D σ H → t D σ H) : PS X st t' := ⟨fun pins s σ H D I q => h.run pins s σ H D I (i D σ H q)⟩
theorem xs0_try {body : List Stmt} {h₀ : ExceptHandler} {hds : List ExceptHandler} {l : List (HSem × Value)} {pos : Pos} {f : SemS} (hs : X.stack = X.env :: X.outer) (hf : X.env.frame = some X.env.locals) (hN : X.N.Nodup) (tk : Takes X W) (hfx : J.fx = none) (hK : J.K = X.K)
    (hb : ∀ (W' : WX) (pn : List (Addr × Obj)) (xe : Value → Shared → Prop), Takes (X.tr pn xe) W' → PassesOwn (model X.prog X.w) X.A X.env xe → XB (X.tr pn xe) J W' body f) (hh : HM X (h₀ :: hds) l) :
    XS0 X J W (.Try body (h₀ :: hds) [] [] pos) (sTry f (l.map (·.1))) := by
  refine ⟨(ps_try_all (tb := fun W' => tS J W' f) hs hf hN tk (fun W' pn xe tk' po => (hb W' pn xe tk' po).pss) (hm_hds hh)).imp0 fun D σ H h => ?_⟩
  obtain ⟨ρ, I, m⟩ := h
  refine ⟨ρ, [], I, (fun _ h => by cases h), ?_⟩
  unfold sTry at m
  cases e : f ρ with
  | exc c fs ρ1 =>
    rw [e] at m
    exact fun cls d σ1 H1 hx => hrun_ok hfx hK hh m hx
  | next ρ1 => rw [e] at m; exact m
  | brk ρ1 => rw [e] at m; exact m
  | cont ρ1 => rw [e] at m; exact m
  | ret s ρ1 => rw [e] at m; exact m
  | bad => rw [e] at m; exact m
theorem XS.to0 {st : Stmt} {f : SemS} (h : XS X J W st f) : XS0 X J W st f := ⟨h.ps.imp0 fun D σ H ⟨ρ, I, m⟩ => ⟨ρ, [], I, (fun _ h => by cases h), m⟩⟩
variable {st : Stmt} {sts body orelse : List Stmt} {f g : SemS} {c e : Expr} {gc : SemB} {pos : Pos} {qc : Bool}
theorem XB.to0 (h : XB X J W sts f) : XB0 X J W sts f := ⟨h.pss.imp fun σ H D ⟨ρ, I, m⟩ => ⟨ρ, [], I, (fun _ h => by cases h), m⟩⟩
theorem xb0_cons (h1 : XS0 X J W st f) (h2 : XB0 X J W sts g) : XB0 X J W (st :: sts) (sSeq f g) := by
  refine ⟨(pss_cons h1.ps h2.pss).imp fun σ H D h => ?_⟩
  obtain ⟨ρ, I, m⟩ := h
  refine ⟨ρ, I, ?_⟩
  unfold sSeq at m
  cases e : f ρ with
  | next ρ1 => rw [e] at m; exact fun σ1 H1 I1 => ⟨ρ1, I1, m⟩
  | brk ρ1 => rw [e] at m; exact m
  | cont ρ1 => rw [e] at m; exact m
  | ret s ρ1 => rw [e] at m; exact m
  | exc cc fs ρ1 => rw [e] at m; exact m
  | bad => rw [e] at m; exact m
theorem xb0_one (h1 : XS0 X J W st f) : XB0 X J W [st] f := ⟨pss_one h1.ps⟩
end
theorem fn_mv0 {P : Program} {w : World} {K : PySem.W.Frag} {mg : Str → Option Value} {base : Heap} {x qual : Str} {params : Arguments} {body : List Stmt} {scope : Scope} {dvs : List V} {kws : List (Str × V)} {f : Addr} {fd : FuncData} {N ps : List Str} {k : Nat} {pm : List PM} {rm : Bool} {bd : SemS}
    (F : FunD K x qual params body scope dvs kws f fd) (S : FnScope N ps scope) (hp : pm.length = ps.length)
    (hb : ∀ (cdv : Value) (A : Around) (outer : List Env) (s : Shared) (H : Hp) (E : XK) (J : Jx), J.K = K → J.fx = none → Room k (A.deeper (envOfC qual scope s.heap.objs.size f cdv)) →
      XB0 (cxOf (L2N.CX P w) P w K mg base N qual scope f cdv A outer s H E) J (fun cls d _ H => E cls d H) body bd) :
    FnOk P w K mg base (L2N.CX P w) (k + 1) f fd ps (spF K pm rm (runB pm rm N.length bd)) := by
  have hpl : ps.length ≤ N.length := by have := congrArg List.length S.pre; rw [List.length_take] at this; omega
  refine F.ok S (fun vs H Q E h => ?_) fun cdv A outer s H vs Q E hr h => ?_
  · obtain ⟨F0, ios, ds, _, _, a, _⟩ := h
    rw [(a.len 0).2.1, hp]
  · obtain ⟨F0, ios, ds, hF, nd, a, m⟩ := h
    exact ⟨_, (hb cdv A outer s H E ⟨K, H, F0, (ioIx pm 0).zip ios, none⟩ rfl rfl hr).pss, initE pm ds N.length, entry (by rw [hp]; exact hpl) hF nd a (argsR_io a), body_ends (a.len 0).2.2 m⟩
section
variable {X : Cx} {J : Jx} {W : WX} {i : Nat} {a : Addr} {oe : Obj} {d : Option Addr} {pn : List (Addr × Obj)} {k n : Str} {fs : List (Str × Vl)} {p pos : Pos}
theorem fx_at {F B H : Hp} {O : Addr → Option Ow} {ρ : En} {τ : List (Sv × V)} {σ : St} (hx : J.fx = some (i, .ref a)) (I : IvW J F B O ρ τ σ H) : σ[i]? = some (some (.ref a)) := I.len.fx i _ hx
def fXf (fs : List (Str × Vl)) (f : Str) : Sem1 := fun ρ => match fs.lookup f with
  | some d => .ok ⟨.shr, d⟩ ρ
  | none => .bad
theorem xe_xf {f : Str} (hK : J.K = X.K) (hx : J.fx = some (i, .ref a)) (er : ErrR J.K J.F0 k fs (.ref (He.ga X.K k)) d) (hz : L2N.Zn (.ref (He.ga X.K k)) d oe) (hf : ∃ vs, oe.data = .fields vs) (T : XfC X.K (He.ga X.K k)) (hno : PySem.W.findIn X.K (.ref (He.ga X.K k)) f = some none)
    (hN : X.N[i]? = some n) (hv : Vis X.env.scope n) (hd : (n == ("__debug__" : Str)) = false := by decide) (hcd : (n == ("__classdict__" : Str)) = false := by decide)
    (hb : attributeBase (.Name n p) f X.env (eval (.Name n p) X.env) = eval (.Name n p) X.env := by rfl) : XE (X.suite a ((a, oe) :: pn)) J W (.Attribute (.Name n p) f pos) true (fXf fs f) := by
  refine ⟨(pe_xf T hno hz.zc hf (pe_var (X := X.suite a ((a, oe) :: pn)) hN hv hd hcd) hb).imp ?_⟩
  rintro σ H Q ⟨ρ, τ, ⟨F, B, O, I⟩, _, m⟩
  refine ⟨_, fx_at hx I, rfl, rfl, ?_⟩
  unfold fXf at m
  cases e : fs.lookup f with
  | none => rw [e] at m; exact m.elim
  | some x =>
    rw [e] at m
    obtain ⟨_, ⟨e1, _⟩ | ⟨dd, ws, e1, e2, e3⟩⟩ := er
    · rw [e1] at e; cases e
    · obtain ⟨v, e4, r⟩ := e3 f x e
      have g := I.base.f0 _ _ e2
      exact ⟨dd, ws, v, e1, I.base.bh _ _ (I.base.fb _ _ g), e4, m v H (I.push (s := ⟨.shr, x⟩) (Rep.mono I.base.f0 r))⟩
end
end MV
namespace PySem.W
open PySem PySem.Spec PySem.Calls PyProof.Rows
section
variable {prog : Program} {w : World} {A : Around} {E : Value → Shared → Prop} {s : Shared} {K : Frag} {x D : Addr} {ox od : Obj}
theorem mv_kin_class {Q : Option Value → Shared → Prop} (hga : findIn K (.ref D) "__getattribute__" = some (some (.builtin "BaseException.__getattribute__"))) (hgt : findIn K (.ref D) "__getattr__" = some none) (hsub : subIn K (.ref D) (.type "BaseException") = some true)
    (hdct : hasDictIn K D = true) (ha : findIn K (.ref D) "__class__" = some (some (.builtin "object.__class__")))
    (hn : specialIn K (.builtin "object.__class__") "__get__" = some (some (.builtin "getset_descriptor.__get__"))) (htk : takesIn K (.builtin "object.__class__") = some true) (hm : mroIn K D (.type "object") = some true)
    (X : K.In s.heap) (I : InstAt s.heap x ox D (some od)) (h : Q (some (.ref D)) { s with toks := s.toks + 1 }) : wpAny (model prog w) A (getAttr? (.ref x) "__class__") Q E s := by
  have hf : findObj K D (some od) "__class__" = some (.bind (.builtin "getset_descriptor.__get__") (.builtin "object.__class__")) := findObj_data (by obtain ⟨cd, hc, _⟩ := any_some hdct; rw [hc]; rfl) ha hn htk
  obtain ⟨hp, g, d, t, os⟩ := s
  have L0 := I.type (M := model prog w)
  have L1 := looks_findIn (M := model prog w) X hga
  have L2 := looks_findIn (M := model prog w) X hgt
  have L3 := looks_find (M := model prog w) X I hf
  have sub : Looks (model prog w) hp (isInstance (.ref x) (.type "BaseException")) true := L0.andThen (looks_subIn X hsub)
  have n0 : (false && onTheHeap (Value.builtin "BaseException.__getattribute__")) = false := rfl
  have n2 : (Value.builtin "BaseException.__getattribute__" == Value.builtin "object.__getattribute__") = false := by decide +kernel
  have n1 : (onTheHeap (Value.ref D) && Value.builtin "BaseException.__getattribute__" == Value.builtin "object.__getattribute__") = false := by rw [n2]; rfl
  unfold getAttr? getAttrBy? getAttrBy
  refine wpAny_bind (wpAny_mkText (wpAny_bind (wpAny_attempt (wpAny_holding (wpAny_bind (L0.at (wpAny_bind (L1.at ?_))))))))
  show wpAny _ _ (if (onTheHeap (Value.ref D) && Value.builtin "BaseException.__getattribute__" == Value.builtin "object.__getattribute__") = true then _ else _) _ _ _
  rw [n1, if_neg Bool.false_ne_true]
  unfold getAttrByItsOwn hookBefore
  refine wpAny_bind ?_
  rw [if_pos (show onTheHeap (Value.ref D) = true from rfl)]
  refine L2.at ?_
  refine wpAny_bind (wpAny_attempt (wpAny_holding ?_))
  unfold callGetattribute
  rw [n0, if_neg Bool.false_ne_true]
  unfold boundAndCalled
  rw [PySem.F.excAttr_ValueError.ga.bind (.ref x)]
  refine wpAny_bind (wpAny_pure ?_)
  show wpAny _ _ (call (.builtin "BaseException.__getattribute__") [.ref x, .str "__class__" t]) _ _ _
  refine wpAny_call (codeAny_call_builtin PySem.F.excAttr_ValueError.ga.plain PySem.F.entry_bexc_ga ?_)
  refine @check_slot (model prog w) _ _ ⟨hp, g, d, t + 1, os⟩ "BaseException.__getattribute__" "BaseException" "__getattribute__" (.ref x) [.str "__class__" t] [] _ (by decide +kernel) (by decide +kernel) sub (PySem.F.args_bexc_ga (.ref x) (.str "__class__" t)) ?_
  unfold Builtin.«object.__getattribute__»
  refine wpAny_bind (wpAny_of_eq (a := ((Value.ref x : Value), [Value.str "__class__" t])) (by first | rfl | (simp only [slotArgs]; rfl)) ?_)
  refine wpAny_bind (wpAny_pure (wpAny_bind (L0.at (wpAny_bind (L3.at ?_)))))
  show wpAny _ _ (holding [Value.builtin "object.__class__"] (call (.builtin "getset_descriptor.__get__") [.builtin "object.__class__", .ref x, .ref D]) >>= ret) _ _ _
  refine wpAny_bind (wpAny_holding (wpAny_call (class_get (s := ⟨hp, g, d, t + 1, os⟩) (ox := ox) (od := some od) X I hm ?_)))
  refine wpAny_pure ?_
  show wpAny _ _ (handedOut (.ref D)) _ _ _
  rw [handedOut_of (v := .ref D) rfl]
  first
    | exact wpAny_pure (wpAny_pure h)
    | exact wpAny_pure h
    | exact wpAny_pure (wpAny_bind (wpAny_pure (wpAny_pure h)))
theorem mv_kit_exc (hga : findIn K (.ref D) "__getattribute__" = some (some (.builtin "BaseException.__getattribute__"))) (hgt : findIn K (.ref D) "__getattr__" = some none) (hsub : subIn K (.ref D) (.type "BaseException") = some true) (hdct : hasDictIn K D = true) (ha : findIn K (.ref D) "__class__" = some (some (.builtin "object.__class__")))
    (hn : specialIn K (.builtin "object.__class__") "__get__" = some (some (.builtin "getset_descriptor.__get__"))) (htk : takesIn K (.builtin "object.__class__") = some true) (hm : mroIn K D (.type "object") = some true) :
    KitX K (.ref x) (.ref D) (fun h => InstAt h x ox D (some od)) where
  ty := fun _ _ _ I => I.type
  it := fun _ _ X _ => by
    obtain ⟨cdD, hcD, _⟩ := any_some hdct
    unfold clsIn at hcD
    split at hcD
    · rename_i c' d' cd' sl' ho
      intro A' Q' E' s' k q
      unfold isType loadHead
      exact wpAny_bind (wpAny_loadPart (k _ _ (X _ _ ho)) (wpAny_pure q))
    · cases hcD
  ne := fun h tp dd its n sl X htp => by
    obtain ⟨cdD, hcD, _⟩ := any_some hdct
    refine Bool.eq_false_iff.mpr fun q => ?_
    have e : D = tp := Value.ref.inj (beq_iff_eq.mp q)
    subst e
    unfold clsIn at hcD
    split at hcD
    · rename_i c' d' cd' sl' ho
      have z := (X _ _ ho).symm.trans htp
      cases z
    · cases hcD
  ca := fun X I k => mv_kin_class hga hgt hsub hdct ha hn htk hm X I k
end
end PySem.W
namespace MV
open PySem PySem.Spec PyProof.Rows L2
section
variable {X : Cx} {J : Jx} {W : WX} {e a b c tg iter elt : Expr} {es : List Expr} {q qa : Bool} {fa : Sem1} {pos p : Pos} {τ : List (Sv × V)} {σ : St} {H : Hp} {ρ : En}
theorem pe_tyN {x : Str} {T : String} (hg : Gl X x) (hm : X.mg x = none) (hv : bootBuiltins x = some (.type T)) (hn : x ≠ "__name__" := by decide) (hdb : (x == ("__debug__" : Str)) = false := by decide) : PE X (.Name x p) (tC (.ty T)) :=
  ⟨fun pins s σ H Q I h => ld_blt I hg hm hv ⟨.ty T, H, I, rfl, h⟩ hn hdb⟩
theorem pe_ownN {x : Str} {C : Addr} (hg : Gl X x) (hm : X.mg x = some (.ref C)) (hdb : (x == ("__debug__" : Str)) = false := by decide) : PE X (.Name x p) (tC (.ref C)) := pe_glob hg hm rfl hdb
def IsOk (K : PySem.W.Frag) (u : Value) (g : Vl → Option Bool) : Prop := ∀ (H : Hp) (d : Vl) (v : V) (b : Bool), Rep K H d v → g d = some b → ∃ t, TyX K H v t ∧ PySem.W.kitOne K t u = some b
def kIsi (g : Vl → Option Bool) : K1 := fun s ρ => match g s.d with
  | some b => .ok ⟨.shr, .bl b⟩ ρ
  | none => .bad
theorem xe_isi {cv : V} {u : Value} {g : Vl → Option Bool} (hk : J.K = X.K) (hi : IsOk X.K u g) (hcv : ClsV cv u) (hg : Gl X "isinstance") (hm : X.mg "isinstance" = none) (hv : bootBuiltins "isinstance" = some (.builtin "isinstance")) (ha : XE X J W a qa fa) (hc : PE X c (tC cv))
    (he : starEach [a, c] X.env = (false, eval a X.env) :: starEach [c] X.env := by rfl) (he2 : starEach [c] X.env = (false, eval c X.env) :: starEach [] X.env := by rfl) (hpl : (backTo pos (starEach [c] X.env)).any (·.1) = false := by rfl) :
    XE X J W (.Call (.Name "isinstance" p) [a, c] [] pos) qa (fOne fa (kIsi g)) := by
  refine ⟨(pe_callB call_isi hg hm hv (pa_cons ha.pe (pa_cons hc pa_nil he2) he) (by decide) (by decide) he hpl).imp fun σ H Q h => tE_one (fun _ _ _ _ _ I _ _ _ o h => o _ _ _ _ _ _ _ I h) (r := fun v H Q => rIsi X.K [v, cv] H Q) ?_ h⟩
  rintro ρ τ σ H s v Q ⟨F, B, O, I⟩ m
  unfold kIsi at m
  cases e : g s.d with
  | none => rw [e] at m; exact m.elim
  | some b =>
    rw [e] at m
    obtain ⟨t, h1, h2⟩ := hi H s.d v b (hk ▸ I.top.rep I.base) e
    exact ⟨v, cv, t, u, b, rfl, hcv, h1, h2, m _ _ (I.drop1.pushSc (d := .bl b) rfl rfl)⟩
def isInt : Vl → Option Bool
  | .int _ => some true
  | .bl _ => some true
  | .ins _ _ => none
  | .scr _ => none
  | .hole => none
  | _ => some false
def isBl : Vl → Option Bool
  | .bl _ => some true
  | .ins _ _ => none
  | .scr _ => none
  | .hole => none
  | _ => some false
def isStr : Vl → Option Bool
  | .str _ => some true
  | .ins _ _ => none
  | .scr _ => none
  | .hole => none
  | _ => some false
theorem isOk_int {K : PySem.W.Frag} : IsOk K (.type "int") isInt := fun H d v b r e => by
  cases d with
  | non => cases e; cases (show v = .non from r); exact ⟨_, .base .non, kit_ty (by decide +kernel)⟩
  | bl x => cases e; cases (show v = .bl x from r); exact ⟨_, .base (.bl x), kit_ty (by decide +kernel)⟩
  | int x => cases e; cases (show v = .int x from r); exact ⟨_, .base (.int x), kit_ty (by decide +kernel)⟩
  | str x => cases e; cases (show v = .str x from r); exact ⟨_, .base (.str x), kit_ty (by decide +kernel)⟩
  | lst xs => cases e; obtain ⟨a, vs, rfl, g, _⟩ := r; exact ⟨_, .base (.lst g), kit_ty (by decide +kernel)⟩
  | tup xs => cases e; obtain ⟨a, vs, rfl, g, _⟩ := r; exact ⟨_, .base (.tup g), kit_ty (by decide +kernel)⟩
  | ins c fs => cases e
  | scr ns => cases e
  | hole => cases e
theorem isOk_bl {K : PySem.W.Frag} : IsOk K (.type "bool") isBl := fun H d v b r e => by
  cases d with
  | non => cases e; cases (show v = .non from r); exact ⟨_, .base .non, kit_ty (by decide +kernel)⟩
  | bl x => cases e; cases (show v = .bl x from r); exact ⟨_, .base (.bl x), kit_ty (by decide +kernel)⟩
  | int x => cases e; cases (show v = .int x from r); exact ⟨_, .base (.int x), kit_ty (by decide +kernel)⟩
  | str x => cases e; cases (show v = .str x from r); exact ⟨_, .base (.str x), kit_ty (by decide +kernel)⟩
  | lst xs => cases e; obtain ⟨a, vs, rfl, g, _⟩ := r; exact ⟨_, .base (.lst g), kit_ty (by decide +kernel)⟩
  | tup xs => cases e; obtain ⟨a, vs, rfl, g, _⟩ := r; exact ⟨_, .base (.tup g), kit_ty (by decide +kernel)⟩
  | ins c fs => cases e
  | scr ns => cases e
  | hole => cases e
theorem isOk_str {K : PySem.W.Frag} : IsOk K (.type "str") isStr := fun H d v b r e => by
  cases d with
  | non => cases e; cases (show v = .non from r); exact ⟨_, .base .non, kit_ty (by decide +kernel)⟩
  | bl x => cases e; cases (show v = .bl x from r); exact ⟨_, .base (.bl x), kit_ty (by decide +kernel)⟩
  | int x => cases e; cases (show v = .int x from r); exact ⟨_, .base (.int x), kit_ty (by decide +kernel)⟩
  | str x => cases e; cases (show v = .str x from r); exact ⟨_, .base (.str x), kit_ty (by decide +kernel)⟩
  | lst xs => cases e; obtain ⟨a, vs, rfl, g, _⟩ := r; exact ⟨_, .base (.lst g), kit_ty (by decide +kernel)⟩
  | tup xs => cases e; obtain ⟨a, vs, rfl, g, _⟩ := r; exact ⟨_, .base (.tup g), kit_ty (by decide +kernel)⟩
  | ins c fs => cases e
  | scr ns => cases e
  | hole => cases e
end
section
variable {X : Cx} {J : Jx} {W : WX} {i : Nat} {a D : Addr} {oe : Obj} {d : Option Addr} {pn : List (Addr × Obj)} {k n : Str} {fs : List (Str × Vl)} {p p2 pos : Pos} {c : Expr} {es : List Expr}
def fIsX (b : Bool) : Sem1 := fun ρ => .ok ⟨.shr, .bl b⟩ ρ
theorem exc_at (hz : L2N.Zn (.ref D) d oe) (hf : ∃ vs, oe.data = .fields vs) {pins : List (Addr × Obj)} {σ : St} {H : Hp} {s : Shared} (I : Inv (X.suite a ((a, oe) :: pn)) pins σ H s) (hd : d = none ∨ ∃ dd ws, d = some dd ∧ H dd = some (.xd ws)) : ∃ od, PySem.W.InstAt s.heap a oe D od := by
  obtain ⟨hget, _⟩ := I.pin (a, oe) (List.mem_append.mpr (.inl List.mem_cons_self))
  obtain ⟨vs, hv⟩ := hf
  rcases hd with hd | ⟨dd, ws, hd, g⟩
  · subst hd
    exact ⟨none, hget, hz.1, by unfold PySem.W.notCls; rw [hv] <;> rfl, by rw [hz.2.1]; exact trivial⟩
  · subst hd
    obtain ⟨mA, hns, hr⟩ := (show ObjOk X.prog X.w H s.heap dd (.xd ws) from I.hok dd _ g)
    obtain ⟨od, ho, hl⟩ := lookIn_ns hns
    exact ⟨some od, hget, hz.1, by unfold PySem.W.notCls; rw [hv] <;> rfl, by rw [hz.2.1]; exact ho⟩
theorem exc_kit {K : PySem.W.Frag} {od : Option Obj} (C : ExcC K D) : PySem.W.KitX K (.ref a) (.ref D) (fun h => PySem.W.InstAt h a oe D od) := by
  cases od with
  | none => exact PySem.W.handS_kitx_exc C.hg C.hk C.hs C.hd C.ha C.hn C.ht C.hm
  | some od => exact PySem.W.mv_kit_exc C.hg C.hk C.hs C.hd C.ha C.hn C.ht C.hm
def rXI (K : PySem.W.Frag) (D a : Addr) (d : Option Addr) : List V → Hp → VK → Prop := fun xs H Q => ∃ (c : V) (cv : Value) (b : Bool), xs = [.ref a, c] ∧ (d = none ∨ ∃ dd ws, d = some dd ∧ H dd = some (.xd ws)) ∧ ClsV c cv ∧ PySem.W.kitOne K (.ref D) cv = some b ∧ Q (.bl b) H
theorem call_xi (C : ExcC X.K D) (hz : L2N.Zn (.ref D) d oe) (hf : ∃ vs, oe.data = .fields vs) : CallR (X.suite a ((a, oe) :: pn)) (.builtin "isinstance") (rXI X.K D a d) := by
  intro pins s σ H xs us Q I r h
  obtain ⟨c, cv, b, rfl, hd, hcv, e, q⟩ := h
  obtain ⟨u1, u2, rfl, r1, r2⟩ := vals2 r
  cases (show u1 = Value.ref a from r1)
  have ec := hcv.eq r2
  subst ec
  obtain ⟨od, J⟩ := exc_at hz hf I hd
  exact PySem.W.kia_one (exc_kit C) I.kIn J e (fun z => nomatch z) fun tk => ⟨.bl b, H, I.kept (t' := tk) fun _ _ z => z, rfl, q⟩
def rXT (K : PySem.W.Frag) (D a : Addr) (d : Option Addr) : List V → Hp → VK → Prop := fun xs H Q => ∃ (tp : Addr) (cs : List V) (us : List Value) (b : Bool), xs = [.ref a, .ref tp] ∧ (d = none ∨ ∃ dd ws, d = some dd ∧ H dd = some (.xd ws)) ∧ H tp = some (.tup cs) ∧ Paired ClsV cs us ∧ PySem.W.kitAny K (.ref D) us = some b ∧ Q (.bl b) H
theorem call_xt (C : ExcC X.K D) (hz : L2N.Zn (.ref D) d oe) (hf : ∃ vs, oe.data = .fields vs) : CallR (X.suite a ((a, oe) :: pn)) (.builtin "isinstance") (rXT X.K D a d) := by
  intro pins s σ H xs us Q I r h
  obtain ⟨tp, cs, ws, b, rfl, hd, hT, k, e, q⟩ := h
  obtain ⟨u1, u2, rfl, r1, r2⟩ := vals2 r
  cases (show u1 = Value.ref a from r1)
  cases (show u2 = Value.ref tp from r2)
  obtain ⟨od, J⟩ := exc_at hz hf I hd
  obtain ⟨_, its, rv, o, h1, h2, n, h3⟩ := (show ObjOk X.prog X.w H s.heap tp (.tup cs) from I.hok tp _ hT)
  have e3 := ClsV.all k rv
  subst e3
  obtain ⟨oc, od', dt, sl⟩ := o
  simp only at h2 h3
  subst h2 h3
  exact PySem.W.kia_tup (exc_kit C) I.kIn J h1 e (fun z => nomatch z) fun tk => ⟨.bl b, H, I.kept (t' := tk) fun _ _ z => z, rfl, q⟩
theorem err_dict {F : Hp} {K : PySem.W.Frag} {cls : Value} (er : ErrR K F k fs cls d) : d = none ∨ ∃ dd ws, d = some dd ∧ F dd = some (.xd ws) := by
  obtain ⟨_, ⟨_, e⟩ | ⟨dd, ws, e1, e2, _⟩⟩ := er
  · exact .inl e
  · exact .inr ⟨dd, ws, e1, e2⟩
theorem xe_isx {cv : V} {u : Value} {b : Bool} (hx : J.fx = some (i, .ref a)) (hK : J.K = X.K) (er : ErrR J.K J.F0 k fs (.ref (He.ga X.K k)) d) (hz : L2N.Zn (.ref (He.ga X.K k)) d oe) (hf : ∃ vs, oe.data = .fields vs) (C : ExcC X.K (He.ga X.K k)) (hcv : ClsV cv u) (hb : PySem.W.kitOne X.K (.ref (He.ga X.K k)) u = some b)
    (hg : Gl X "isinstance") (hm : X.mg "isinstance" = none) (hv : bootBuiltins "isinstance" = some (.builtin "isinstance")) (hN : X.N[i]? = some n) (hvis : Vis X.env.scope n) (hc : PE (X.suite a ((a, oe) :: pn)) c (tC cv))
    (hd : (n == ("__debug__" : Str)) = false := by decide) (hcd : (n == ("__classdict__" : Str)) = false := by decide)
    (he : starEach [.Name n p2, c] X.env = (false, eval (.Name n p2) X.env) :: starEach [c] X.env := by rfl) (he2 : starEach [c] X.env = (false, eval c X.env) :: starEach [] X.env := by rfl) (hpl : (backTo pos (starEach [c] X.env)).any (·.1) = false := by rfl) :
    XE (X.suite a ((a, oe) :: pn)) J W (.Call (.Name "isinstance" p) [.Name n p2, c] [] pos) true (fIsX b) := by
  refine ⟨(pe_callB (X := X.suite a ((a, oe) :: pn)) (call_xi C hz hf) hg hm hv (pa_cons (pe_var (X := X.suite a ((a, oe) :: pn)) hN hvis hd hcd) (pa_cons hc pa_nil he2) he) (by decide) (by decide) he hpl).imp ?_⟩
  rintro σ H Q ⟨ρ, τ, ⟨F, B, O, I⟩, _, m⟩
  refine ⟨_, fx_at hx I, cv, u, b, rfl, ?_, hcv, hb, m _ H (I.push (s := ⟨.shr, .bl b⟩) rfl)⟩
  rcases err_dict er with h | ⟨dd, ws, h1, h2⟩
  · exact .inl h
  · exact .inr ⟨dd, ws, h1, I.base.bh _ _ (I.base.fb _ _ (I.base.f0 _ _ h2))⟩
inductive PCs (X : Cx) : List Expr → List V → List Value → Prop
  | nil : PCs X [] [] []
  | cons {e : Expr} {es : List Expr} {v : V} {vs : List V} {u : Value} {us : List Value} (h : PE X e (tC v)) (k : ClsV v u) (r : PCs X es vs us) (hs : starEach (e :: es) X.env = (false, eval e X.env) :: starEach es X.env := by rfl) : PCs X (e :: es) (v :: vs) (u :: us)
theorem pcs_pa {X : Cx} {es : List Expr} {vs : List V} {us : List Value} (h : PCs X es vs us) : PA X es (fun σ H Q => Q vs H) ∧ Paired ClsV vs us := by
  induction h with
  | nil => exact ⟨pa_nil, .nil⟩
  | cons h k r hs ih => exact ⟨(pa_cons h ih.1 hs).imp fun σ H Q q => q, .cons k ih.2⟩
theorem xe_isxT {vs : List V} {us : List Value} {b : Bool} {k1} {p3 : Pos} (hx : J.fx = some (i, .ref a)) (hK : J.K = X.K) (er : ErrR J.K J.F0 k fs (.ref (He.ga X.K k)) d) (hz : L2N.Zn (.ref (He.ga X.K k)) d oe) (hf : ∃ vs, oe.data = .fields vs) (C : ExcC X.K (He.ga X.K k)) (hl : vs.length ≤ 1000) (hb : PySem.W.kitAny X.K (.ref (He.ga X.K k)) us = some b)
    (hg : Gl X "isinstance") (hm : X.mg "isinstance" = none) (hv : bootBuiltins "isinstance" = some (.builtin "isinstance")) (hN : X.N[i]? = some n) (hvis : Vis X.env.scope n) (hc : PCs (X.suite a ((a, oe) :: pn)) es vs us)
    (hd : (n == ("__debug__" : Str)) = false := by decide) (hcd : (n == ("__classdict__" : Str)) = false := by decide)
    (he : starEach [.Name n p2, .Tuple es k1 p3] X.env = (false, eval (.Name n p2) X.env) :: starEach [.Tuple es k1 p3] X.env := by rfl) (he2 : starEach [.Tuple es k1 p3] X.env = (false, eval (.Tuple es k1 p3) X.env) :: starEach [] X.env := by rfl) (hpl : (backTo pos (starEach [.Tuple es k1 p3] X.env)).any (·.1) = false := by rfl) :
    XE (X.suite a ((a, oe) :: pn)) J W (.Call (.Name "isinstance" p) [.Name n p2, .Tuple es k1 p3] [] pos) true (fIsX b) := by
  obtain ⟨h1, h2⟩ := pcs_pa hc
  refine ⟨(pe_callB (X := X.suite a ((a, oe) :: pn)) (call_xt C hz hf) hg hm hv (pa_cons (pe_var (X := X.suite a ((a, oe) :: pn)) hN hvis hd hcd) (pa_cons (pe_tup h1) pa_nil he2) he) (by decide) (by decide) he hpl).imp ?_⟩
  rintro σ H Q ⟨ρ, τ, ⟨F, B, O, I⟩, _, m⟩
  refine ⟨_, fx_at hx I, thousand hl, fun tp np => ?_⟩
  have I2 := I.addF (o := .tup vs) np
  refine ⟨tp, vs, us, b, rfl, ?_, upd_same, h2, hb, m _ _ (I2.push (s := ⟨.shr, .bl b⟩) rfl)⟩
  rcases err_dict er with h | ⟨dd, ws, h1, h2⟩
  · exact .inl h
  · have g := I.base.bh _ _ (I.base.fb _ _ (I.base.f0 _ _ h2))
    exact .inr ⟨dd, ws, h1, by rw [upd_ne (ne_of_none g np)]; exact g⟩
end
end MV
namespace MV
open PySem PySem.Spec PyProof.Rows L2 He
def oexB (K : PySem.W.Frag) (C : Addr) : Bool := match K.lookup C with
  | some ⟨.type "type", _, .cls cd, sl⟩ => (match cd.mro, sl.toList with
    | .ref C' :: bm, [_, _, _, _, some (.builtin n), _] => C' == C && (n == "ValueError.__new__" && (!cd.hasDel && (cd.hasDict && PySem.HandSPX.refsVE bm)))
    | _, _ => false)
  | _ => false
theorem oexB_ok {K : PySem.W.Frag} {C : Addr} (h : oexB K C = true) : ∃ nm q N bs bm sn sub ab col dd k0 k1 k2 k3 k5, K.lookup C = some (excClassObj nm q C N bs bm true sn sub ab col dd k0 k1 k2 k3 k5 "ValueError.__new__") ∧ PySem.HandSPX.refsVE bm = true := by
  unfold oexB at h
  split at h
  · rename_i dd cd sl ho
    split at h
    · rename_i C' bm k0 k1 k2 k3 n k5 hm hs
      simp only [Bool.and_eq_true, beq_iff_eq, Bool.not_eq_true'] at h
      obtain ⟨rfl, rfl, hdel, hd, hr⟩ := h
      obtain ⟨nm, bs, mro, ns, qn, hdct, sn, sub, ab, col, del⟩ := cd
      dsimp only at hm hdel hd
      subst hm hdel hd
      have hsl : sl = #[k0, k1, k2, k3, some (.builtin "ValueError.__new__"), k5] := by
        obtain ⟨l⟩ := sl
        simp only at hs
        rw [hs]
      subst hsl
      exact ⟨nm, qn, ns, bs, bm, sn, sub, ab, col, dd, k0, k1, k2, k3, k5, ho, hr⟩
    · cases h
  · cases h
def recAt (T : String) (K : PySem.W.Frag) (c f : Str) : Addr := match PySem.W.recIn K (ma K (ga K c) f) T with
  | some (.ref g :: _) => g
  | _ => 0
inductive Fm where
  | std (f : Fa)
  | xc (c : Str) (fs : List Str)
  | xr (c : Str)
  | kit (c u : Str) (b : Bool)
  | kiT (c : Str) (T : String) (b : Bool)
  | xT (c : Str) (T : String) (b : Bool)
  | prop (c f : Str)
  | cval (c f : Str) (i : Int)
  | same (x y : Str)
  | stat (c m : Str)
  | own (c m : Str)
  | insO (c : Str)
  | kiA (c : Str)
  | ownI (c m r : Str)
def eqV (a b : Option Value) : Bool := decide (a = b)
def Fm.ok (K : PySem.W.Frag) : Fm → Bool
  | .same x y => decide (ga K x = ga K y)
  | .insO c => eqO (PySem.W.findIn K (.ref (ga K c)) "__class__") (some (some (.builtin "object.__class__"))) && (eqO (PySem.W.specialIn K (.builtin "object.__class__") "__get__") (some (some (.builtin "getset_descriptor.__get__"))) && (decide (PySem.W.takesIn K (.builtin "object.__class__") = some true) && decide (PySem.W.mroIn K (ga K c) (.type "object") = some true)))
  | .ownI c m r => eqO (PySem.W.findIn K (.ref (ga K c)) m) (some (some (.ref (ma K (ga K c) m)))) && (PySem.W.isFn K (.ref (ma K (ga K c) m)) && (PySem.W.selfFirst K (ga K c) && (eqO (PySem.W.findIn K (.ref (ga K c)) r) (some none) && ((PySem.W.findIn K (.type "int") m).isSome && ((PySem.W.findIn K (.type "int") r).isSome && decide (PySem.W.subIn K (.type "int") (.ref (ga K c)) = some false))))))
  | .kiA c => decide (PySem.W.kitOne K (.type "NoneType") (.ref (ga K c)) = some false) && (decide (PySem.W.kitOne K (.type "bool") (.ref (ga K c)) = some false) && (decide (PySem.W.kitOne K (.type "int") (.ref (ga K c)) = some false) && (decide (PySem.W.kitOne K (.type "str") (.ref (ga K c)) = some false) && (decide (PySem.W.kitOne K (.type "list") (.ref (ga K c)) = some false) && decide (PySem.W.kitOne K (.type "tuple") (.ref (ga K c)) = some false)))))
  | .own c m => eqO (PySem.W.findIn K (.ref (ga K c)) m) (some (some (.ref (ma K (ga K c) m)))) && (PySem.W.isFn K (.ref (ma K (ga K c) m)) && PySem.W.selfFirst K (ga K c))
  | .stat c m => PySem.W.readsIn K (ga K c) (.type "type") && (eqO (PySem.W.specialIn K (.ref (ga K c)) "__getattribute__") (some (some (.builtin "type.__getattribute__"))) && (decide ((PySem.W.recIn K (ma K (ga K c) m) "staticmethod").bind (·.head?) = some (.ref (recAt "staticmethod" K c m))) && (match PySem.W.findCls K (.ref (ga K c)) (.type "type") m with
    | some (.get (.builtin b) (.ref p) .none (.ref C)) => decide (b = "staticmethod.__get__") && (decide (p = ma K (ga K c) m) && decide (C = ga K c))
    | _ => false)))
  | .cval c f i => PySem.W.readsIn K (ga K c) (.type "type") && (eqO (PySem.W.specialIn K (.ref (ga K c)) "__getattribute__") (some (some (.builtin "type.__getattribute__"))) && (match PySem.W.findCls K (.ref (ga K c)) (.type "type") f with
    | some (.val (.int j _)) => decide (j = i)
    | _ => false))
  | .std f => f.ok K
  | .xc c fs => oexB K (ga K c) && (eqO (PySem.W.findIn K (.ref (ga K c)) "__setattr__") (some (some (.builtin "object.__setattr__"))) && (decide (PySem.W.subIn K (.ref (ga K c)) (.type "BaseException") = some true) && (decide (PySem.W.typeIn K (.ref (ga K c)) = some (.type "type")) && (PySem.W.keepIn K (.ref (ga K c)) &&
      (fs.all (fun f => eqO (PySem.W.findIn K (.ref (ga K c)) f) (some none)) && (eqO (PySem.W.findIn K (.ref (ga K c)) "__init__") (some (some (.ref (ma K (ga K c) "__init__")))) && decide (PySem.W.typeIn K (.ref (ma K (ga K c) "__init__")) = some (.type "function"))))))))
  | .xr c => xfB K (ga K c) && (eqO (PySem.W.findIn K (.ref (ga K c)) "__class__") (some (some (.builtin "object.__class__"))) && (eqO (PySem.W.specialIn K (.builtin "object.__class__") "__get__") (some (some (.builtin "getset_descriptor.__get__"))) && (decide (PySem.W.takesIn K (.builtin "object.__class__") = some true) && decide (PySem.W.mroIn K (ga K c) (.type "object") = some true))))
  | .kit c u b => decide (PySem.W.kitOne K (.ref (ga K c)) (.ref (ga K u)) = some b)
  | .kiT c T b => decide (PySem.W.kitOne K (.ref (ga K c)) (.type T) = some b)
  | .xT c T b => decide (PySem.W.exmOne K (.ref (ga K c)) (.type T) = some b)
  | .prop c f => decide ((PySem.W.recIn K (ma K (ga K c) f) "property").bind (·.head?) = some (.ref (recAt "property" K c f))) && (eqO (PySem.W.findIn K (.ref (ga K c)) f) (some (some (.ref (ma K (ga K c) f)))) && (eqO (PySem.W.specialIn K (.ref (ma K (ga K c) f)) "__get__") (some (some (.builtin "property.__get__"))) && decide (PySem.W.takesIn K (.ref (ma K (ga K c) f)) = some true)))
section
variable {K : PySem.W.Frag}
theorem xc_ok {c : Str} {fs : List Str} (h : (Fm.xc c fs).ok K = true) : OexC K (ga K c) ∧ (∀ f, f ∈ fs → PySem.W.findIn K (.ref (ga K c)) f = some none) ∧ PySem.W.findIn K (.ref (ga K c)) "__init__" = some (some (.ref (ma K (ga K c) "__init__"))) ∧ PySem.W.typeIn K (.ref (ma K (ga K c) "__init__")) = some (.type "function") := by
  obtain ⟨h1, h⟩ := ba h
  obtain ⟨h2, h⟩ := ba h
  obtain ⟨h3, h⟩ := ba h
  obtain ⟨h4, h⟩ := ba h
  obtain ⟨h5, h⟩ := ba h
  obtain ⟨h6, h⟩ := ba h
  obtain ⟨h7, h8⟩ := ba h
  exact ⟨⟨oexB_ok h1, eqO_ok h2, of_decide_eq_true h3, of_decide_eq_true h4, h5⟩, fun f hf => eqO_ok (List.all_eq_true.mp h6 f hf), eqO_ok h7, of_decide_eq_true h8⟩
theorem xr_ok {c : Str} (h : (Fm.xr c).ok K = true) : XfC K (ga K c) ∧ ExcC K (ga K c) := by
  obtain ⟨h1, h⟩ := ba h
  obtain ⟨h2, h⟩ := ba h
  obtain ⟨h3, h⟩ := ba h
  obtain ⟨h4, h5⟩ := ba h
  have x := xfB_ok h1
  exact ⟨x, ⟨x.ga, x.gg, x.exC, x.hdC, eqO_ok h2, eqO_ok h3, of_decide_eq_true h4, of_decide_eq_true h5⟩⟩
theorem kit_ok {c u : Str} {b : Bool} (h : (Fm.kit c u b).ok K = true) : PySem.W.kitOne K (.ref (ga K c)) (.ref (ga K u)) = some b := of_decide_eq_true h
theorem prop_ok {c f : Str} (h : (Fm.prop c f).ok K = true) : PropOf K (ga K c) f (ma K (ga K c) f) (recAt "property" K c f) := by
  obtain ⟨h1, h⟩ := ba h
  obtain ⟨h2, h⟩ := ba h
  obtain ⟨h3, h4⟩ := ba h
  refine ⟨eqO_ok h2, eqO_ok h3, of_decide_eq_true h4, ?_⟩
  have h1 := of_decide_eq_true h1
  cases q : PySem.W.recIn K (ma K (ga K c) f) "property" with
  | none => rw [q] at h1; cases h1
  | some vs =>
    rw [q] at h1
    cases vs with
    | nil => cases h1
    | cons v vs =>
      have : v = .ref (recAt "property" K c f) := Option.some.inj h1
      exact ⟨vs, by rw [this]⟩
theorem own_ok {c m : Str} (h : (Fm.own c m).ok K = true) : PySem.W.findIn K (.ref (ga K c)) m = some (some (.ref (ma K (ga K c) m))) ∧ PySem.W.isFn K (.ref (ma K (ga K c) m)) = true ∧ PySem.W.selfFirst K (ga K c) = true := by
  obtain ⟨h1, h⟩ := ba h
  obtain ⟨h2, h3⟩ := ba h
  exact ⟨eqO_ok h1, h2, h3⟩
theorem kiT_ok {c : Str} {T : String} {b : Bool} (h : (Fm.kiT c T b).ok K = true) : PySem.W.kitOne K (.ref (ga K c)) (.type T) = some b := of_decide_eq_true h
end
structure DfM where
  ad : PySem.W.Frag → Addr
  name : Str
  qual : Str
  params : Arguments
  body : List Stmt
  scope : Scope
  dfl : List Dv := []
def fnWM (K : PySem.W.Frag) (a : Addr) : FnW := match K.lookup a with
  | some ⟨_, _, .func fd, _⟩ => some (fd.name, fd.qualname, fd.params, fd.body, fd.scope, fd.globals, fd.closure, fd.builtins)
  | _ => none
def DfM.val (d : DfM) : FnW := some (d.name, d.qual, d.params, .stmts d.body, d.scope, mainGlobals, [], builtinsNs)
def DfM.dvs (K : PySem.W.Frag) (d : DfM) : List V := d.dfl.map (Dv.v K)
def DfM.ok (K : PySem.W.Frag) (d : DfM) : Bool := PySem.W.keepIn K (.ref (d.ad K)) && (match K.lookup (d.ad K) with
  | some ⟨_, _, .func fd, _⟩ => PySem.W.codeIn K fd.code d.qual && dflB K fd.defaults (d.dvs K)
  | _ => false)
theorem DfM.funD {K : PySem.W.Frag} {d : DfM} (e : fnWM K (d.ad K) = d.val) (c : d.ok K = true) : ∃ fd, FunD K d.name d.qual d.params d.body d.scope (d.dvs K) [] (d.ad K) fd := by
  obtain ⟨kp, c2⟩ := ba c
  unfold fnWM at e
  cases q : K.lookup (d.ad K) with
  | none => rw [q] at c2; cases c2
  | some o =>
    obtain ⟨oc, od, dt, osl⟩ := o
    rw [q] at c2 e
    cases dt with
    | func fd =>
      obtain ⟨n1, n2, n3, n4, n5, n6, n7, n8, n9, n10, n11, n12, n13, n14, n15⟩ := fd
      have e2 : (some (n1, n2, n3, n4, n5, n6, n7, n15) : FnW) = some (d.name, d.qual, d.params, .stmts d.body, d.scope, mainGlobals, [], builtinsNs) := e
      simp only [Option.some.injEq, Prod.mk.injEq] at e2
      obtain ⟨h1, h2, h3, h4, h5, h6, h7, h8⟩ := e2
      subst h1 h2 h3 h4 h5 h6 h7 h8
      obtain ⟨k1, k2⟩ := ba (show (PySem.W.codeIn K n13 d.qual && dflB K n8 (d.dvs K)) = true from c2)
      exact ⟨_, ⟨oc, od, n8, n9, n10, n11, n12, n13, n14, osl, rfl, q, k1, dflB_ok k2, .inl rfl⟩, kp⟩
    | _ => cases c2
abbrev AlM : Type := Bool × List FnW
def obsM (fa : List Fm) (fn : List DfM) (K : PySem.W.Frag) : AlM := ((fa.all fun f => f.ok K) && fn.all fun d => d.ok K, fn.map fun d => fnWM K (d.ad K))
def valM (fn : List DfM) : AlM := (true, fn.map DfM.val)
def SaysM (fa : List Fm) (fn : List DfM) (K : PySem.W.Frag) : Prop := obsM fa fn K = valM fn
def obsMG (as : List Addr) (fa : List Fm) (fn : List DfM) (g : Addr → Option Obj) : AlM := obsM fa fn (frG g as)
def hookM (as : List Addr) (fa : List Fm) (fn : List DfM) : PySem.W.Hook where
  α := AlM
  obs := fun s => obsMG as fa fn s.heap.get?
  val := fun _ => valM fn
  says := fun _ h => ∃ K : PySem.W.Frag, K.In h ∧ SaysM fa fn K
  of := fun _ _ e => ⟨_, frG_in, e⟩
  keeps := fun _ _ _ ⟨K, hK, c⟩ k => ⟨K, PySem.W.Frag.In.keeps hK k, c⟩
theorem obsMG_eq {as : List Addr} {fa : List Fm} {fn : List DfM} {g : Addr → Option Obj} {s : Shared} (h : ∀ a, g a = s.heap.get? a) : obsMG as fa fn g = (hookM as fa fn).obs s := by
  have e : g = s.heap.get? := funext h
  rw [e] <;> rfl
theorem map3 {α β γ δ : Type} {e : Option α} {f : α → β} {g : α → γ} {h : α → δ} {a : β} {b : γ} {c : δ} (h1 : e.map f = some a) (h2 : e.map g = some b) (h3 : e.map h = some c) : e.map (fun s => (f s, g s, h s)) = some (a, b, c) := by
  cases e with
  | none => cases h1
  | some s =>
    show some (f s, g s, h s) = _
    rw [Option.some.inj h1, Option.some.inj h2, Option.some.inj h3]
section
variable {fa : List Fm} {fn : List DfM} {K : PySem.W.Frag}
theorem SaysM.fact (c : SaysM fa fn K) (i : Nat) {f : Fm} (h : fa[i]? = some f := by rfl) : f.ok K = true := by
  have c1 := (ba (show ((fa.all fun f => f.ok K) && fn.all fun d => d.ok K) = true from congrArg (fun z : AlM => z.1) c)).1
  exact List.all_eq_true.mp c1 f (List.mem_of_getElem? h)
theorem SaysM.def_ (c : SaysM fa fn K) (i : Nat) {d : DfM} (h : fn[i]? = some d := by rfl) : ∃ fd, FunD K d.name d.qual d.params d.body d.scope (d.dvs K) [] (d.ad K) fd := by
  have c2 := (ba (show ((fa.all fun f => f.ok K) && fn.all fun d => d.ok K) = true from congrArg (fun z : AlM => z.1) c)).2
  have e : fn.map (fun d => fnWM K (d.ad K)) = fn.map DfM.val := congrArg (fun z : AlM => z.2) c
  have e2 : (fn.map fun d => fnWM K (d.ad K))[i]? = (fn.map DfM.val)[i]? := by rw [e]
  rw [List.getElem?_map, List.getElem?_map, h] at e2
  exact DfM.funD (Option.some.inj e2) (List.all_eq_true.mp c2 d (List.mem_of_getElem? h))
end
structure FnC (P : Program) (w : World) (K : PySem.W.Frag) (mg : Str → Option Value) (base : Heap) (k : Nat) (f : Addr) (sp : Sp) : Prop where
  ex : ∃ fd ps, FnOk P w K mg base (L2N.CX P w) k f fd ps sp ∧ Binds K fd ps []
  kp : PySem.W.keepIn K (.ref f) = true
theorem FnC.at {X : Cx} {W : WX} {k j : Nat} {f : Addr} {sp : Sp} (F : FnC X.prog X.w X.K X.mg X.base j f sp) (hr : Room k X.A) (hj : j ≤ k) (tk : Takes X W) : CallAt X W f sp := by
  obtain ⟨⟨fd, ps, F, hb⟩, _⟩ := F
  exact callAt0 F (hr.mono hj) hb tk
theorem FnC.make {X : Cx} {W : WX} {k j : Nat} {C f : Addr} {sp : Sp} (F : FnC X.prog X.w X.K X.mg X.base j f sp) (M : Mk X.K C f) (hr : Room k X.A) (hj : j + 1 ≤ k) (tk : Takes X W) : MakeAt X W C sp := by
  obtain ⟨⟨fd, ps, F, hb⟩, _⟩ := F
  exact makeAt0 M F (hr.mono hj) hb tk
theorem law_spB {K : PySem.W.Frag} {rm : Bool} {fn : Fn} (h : ∀ ns : List Int, ns.length ≤ 63 → fn [.scr ns] = .ret (.bl true) []) (H : Hp) (a : Addr) (ns : List Int) (hl : ns.length ≤ 63) (hS : SqL K H a (ns.map V.int)) : spF K [.bor] rm fn [.ref a] H (fun v _ => v = .bl true) (fun _ _ _ => False) := by
  refine ⟨H, [], [.scr ns], fun b o e => mns_of e (by simp), List.nodup_nil, ⟨⟨a, rfl, hS.elim (fun h => .inl (h.elim (fun h => .inl (mns_of h (by simp))) fun ⟨o, h⟩ => .inr ⟨o, mns_of h (by simp)⟩)) .inr⟩, rfl⟩, ?_⟩
  rw [h ns hl]
  intro v H' F' A r
  exact r
end MV
namespace MV
open PySem PySem.Spec PyProof.Rows L2 He
def top (i : Nat) : Stmt := PySem.Challenge.pw_datelessrolls_k48_coat_counts.main.body.getD i (.Pass ⟨0, 0, 0, 0⟩)
def d_x_BadNumber : DfM := ⟨fun K => (ma K (ga K "BadNumber") "__init__"), "__init__", "BadNumber.__init__", defArgs (inClass (top 6) 0), defBody (inClass (top 6) 0), defScope (inClass (top 6) 0), []⟩
abbrev ix_x_BadNumber : Nat := 0
def d_x_OutOfWindow : DfM := ⟨fun K => (ma K (ga K "OutOfWindow") "__init__"), "__init__", "OutOfWindow.__init__", defArgs (inClass (top 5) 0), defBody (inClass (top 5) 0), defScope (inClass (top 5) 0), []⟩
abbrev ix_x_OutOfWindow : Nat := 1
def d_x_BadStretch : DfM := ⟨fun K => (ma K (ga K "BadStretch") "__init__"), "__init__", "BadStretch.__init__", defArgs (inClass (top 4) 0), defBody (inClass (top 4) 0), defScope (inClass (top 4) 0), []⟩
abbrev ix_x_BadStretch : Nat := 2
def d_x_BadCoat : DfM := ⟨fun K => (ma K (ga K "BadCoat") "__init__"), "__init__", "BadCoat.__init__", defArgs (inClass (top 9) 0), defBody (inClass (top 9) 0), defScope (inClass (top 9) 0), []⟩
abbrev ix_x_BadCoat : Nat := 3
def d_x_BadSize : DfM := ⟨fun K => (ma K (ga K "BadSize") "__init__"), "__init__", "BadSize.__init__", defArgs (inClass (top 3) 0), defBody (inClass (top 3) 0), defScope (inClass (top 3) 0), []⟩
abbrev ix_x_BadSize : Nat := 4
def d_l_begin : DfM := ⟨fun K => (ga K "_law_begin"), "_law_begin", "_law_begin", defArgs (top 31), defBody (top 31), defScope (top 31), []⟩
abbrev ix_l_begin : Nat := 5
def d_l_draw : DfM := ⟨fun K => (ga K "_law_draw"), "_law_draw", "_law_draw", defArgs (top 32), defBody (top 32), defScope (top 32), []⟩
abbrev ix_l_draw : Nat := 6
def d_l_coat_text : DfM := ⟨fun K => (ga K "_law_coat_text"), "_law_coat_text", "_law_coat_text", defArgs (top 33), defBody (top 33), defScope (top 33), []⟩
abbrev ix_l_coat_text : Nat := 7
def d_l_due : DfM := ⟨fun K => (ga K "_law_due"), "_law_due", "_law_due", defArgs (top 37), defBody (top 37), defScope (top 37), []⟩
abbrev ix_l_due : Nat := 8
def d_check_text : DfM := ⟨fun K => (ga K "check_text"), "check_text", "check_text", defArgs (top 27), defBody (top 27), defScope (top 27), []⟩
abbrev ix_check_text : Nat := 9
def d_before_of_text : DfM := ⟨fun K => (ga K "before_of_text"), "before_of_text", "before_of_text", defArgs (top 15), defBody (top 15), defScope (top 15), []⟩
abbrev ix_before_of_text : Nat := 10
def d_Coat___init__ : DfM := ⟨fun K => (ma K (ga K "Coat") "__init__"), "__init__", "Coat.__init__", defArgs (inClass (top 29) 1), defBody (inClass (top 29) 1), defScope (inClass (top 29) 1), []⟩
abbrev ix_Coat___init__ : Nat := 11
def d_l_made : DfM := ⟨fun K => (ga K "_law_made"), "_law_made", "_law_made", defArgs (top 39), defBody (top 39), defScope (top 39), []⟩
abbrev ix_l_made : Nat := 12
def d_l_spoilt : DfM := ⟨fun K => (ga K "_law_spoilt"), "_law_spoilt", "_law_spoilt", defArgs (top 34), defBody (top 34), defScope (top 34), []⟩
abbrev ix_l_spoilt : Nat := 13
def d_l_free : DfM := ⟨fun K => (ga K "_law_free"), "_law_free", "_law_free", defArgs (top 35), defBody (top 35), defScope (top 35), []⟩
abbrev ix_l_free : Nat := 14
def d_l_long : DfM := ⟨fun K => (ga K "_law_long"), "_law_long", "_law_long", defArgs (top 36), defBody (top 36), defScope (top 36), []⟩
abbrev ix_l_long : Nat := 15
def d_l_numbers : DfM := ⟨fun K => (ga K "_law_numbers"), "_law_numbers", "_law_numbers", defArgs (top 38), defBody (top 38), defScope (top 38), []⟩
abbrev ix_l_numbers : Nat := 16
def d_l_base : DfM := ⟨fun K => (ga K "_law_base"), "_law_base", "_law_base", defArgs (top 40), defBody (top 40), defScope (top 40), []⟩
abbrev ix_l_base : Nat := 17
def d_Coat___eq__ : DfM := ⟨fun K => (ma K (ga K "Coat") "__eq__"), "__eq__", "Coat.__eq__", defArgs (inClass (top 29) 17), defBody (inClass (top 29) 17), defScope (inClass (top 29) 17), []⟩
abbrev ix_Coat___eq__ : Nat := 18
def d_l_equal : DfM := ⟨fun K => (ga K "_law_equal"), "_law_equal", "_law_equal", defArgs (top 48), defBody (top 48), defScope (top 48), []⟩
abbrev ix_l_equal : Nat := 19
def d_check_stretch : DfM := ⟨fun K => (ga K "check_stretch"), "check_stretch", "check_stretch", defArgs (top 11), defBody (top 11), defScope (top 11), []⟩
abbrev ix_check_stretch : Nat := 20
def d_count_in : DfM := ⟨fun K => (ga K "count_in"), "count_in", "count_in", defArgs (top 17), defBody (top 17), defScope (top 17), []⟩
abbrev ix_count_in : Nat := 21
def d_Coat_count : DfM := ⟨fun K => (ma K (ga K "Coat") "count"), "count", "Coat.count", defArgs (inClass (top 29) 9), defBody (inClass (top 29) 9), defScope (inClass (top 29) 9), []⟩
abbrev ix_Coat_count : Nat := 22
def d_l_counted : DfM := ⟨fun K => (ga K "_law_counted"), "_law_counted", "_law_counted", defArgs (top 41), defBody (top 41), defScope (top 41), []⟩
abbrev ix_l_counted : Nat := 23
def d_l_count_due : DfM := ⟨fun K => (ga K "_law_count_due"), "_law_count_due", "_law_count_due", defArgs (top 42), defBody (top 42), defScope (top 42), []⟩
abbrev ix_l_count_due : Nat := 24
def d_l_stretches : DfM := ⟨fun K => (ga K "_law_stretches"), "_law_stretches", "_law_stretches", defArgs (top 47), defBody (top 47), defScope (top 47), []⟩
abbrev ix_l_stretches : Nat := 25
def d_Coat_text : DfM := ⟨fun K => (ma K (ga K "Coat") "text"), "text", "Coat.text", defArgs (inClass (top 29) 5), defBody (inClass (top 29) 5), defScope (inClass (top 29) 5), []⟩
abbrev ix_Coat_text : Nat := 26
def d_raw_Coat___len__ : DfM := ⟨fun K => (ma K (ga K "Coat") "__len__"), "__len__", "Coat.__len__", defArgs (inClass (top 29) 18), defBody (inClass (top 29) 18), defScope (inClass (top 29) 18), []⟩
abbrev ix_raw_Coat___len__ : Nat := 27
def d_Coat_colours : DfM := ⟨fun K => (recAt "property" K "Coat" "colours"), "colours", "Coat.colours", defArgs (inClass (top 29) 8), defBody (inClass (top 29) 8), defScope (inClass (top 29) 8), []⟩
abbrev ix_Coat_colours : Nat := 28
def d_Coat_places : DfM := ⟨fun K => (recAt "property" K "Coat" "places"), "places", "Coat.places", defArgs (inClass (top 29) 7), defBody (inClass (top 29) 7), defScope (inClass (top 29) 7), []⟩
abbrev ix_Coat_places : Nat := 29
def d_rwk_Coat___iter__ : DfM := ⟨fun K => (ma K (ga K "Coat") "__iter__"), "__iter__", "Coat.__iter__", defArgs (inClass (top 29) 19), defBody (inClass (top 29) 19), defScope (inClass (top 29) 19), []⟩
abbrev ix_rwk_Coat___iter__ : Nat := 30
def d_l_face : DfM := ⟨fun K => (ga K "_law_face"), "_law_face", "_law_face", defArgs (top 45), defBody (top 45), defScope (top 45), []⟩
abbrev ix_l_face : Nat := 31
def d_Coat_same : DfM := ⟨fun K => (ma K (ga K "Coat") "same"), "same", "Coat.same", defArgs (inClass (top 29) 10), defBody (inClass (top 29) 10), defScope (inClass (top 29) 10), []⟩
abbrev ix_Coat_same : Nat := 32
def d_l_alike : DfM := ⟨fun K => (ga K "_law_alike"), "_law_alike", "_law_alike", defArgs (top 43), defBody (top 43), defScope (top 43), []⟩
abbrev ix_l_alike : Nat := 33
def d_l_alike_due : DfM := ⟨fun K => (ga K "_law_alike_due"), "_law_alike_due", "_law_alike_due", defArgs (top 44), defBody (top 44), defScope (top 44), []⟩
abbrev ix_l_alike_due : Nat := 34
def d_l_gaps : DfM := ⟨fun K => (ga K "_law_gaps"), "_law_gaps", "_law_gaps", defArgs (top 46), defBody (top 46), defScope (top 46), []⟩
abbrev ix_l_gaps : Nat := 35
def d_l_asked : DfM := ⟨fun K => (ga K "_law_asked"), "_law_asked", "_law_asked", defArgs (top 49), defBody (top 49), defScope (top 49), []⟩
abbrev ix_l_asked : Nat := 36
def d_law : DfM := ⟨fun K => (ga K "law"), "law", "law", defArgs (top 50), defBody (top 50), defScope (top 50), []⟩
abbrev ix_law : Nat := 37
def fn : List DfM := [d_x_BadNumber, d_x_OutOfWindow, d_x_BadStretch, d_x_BadCoat, d_x_BadSize, d_l_begin, d_l_draw, d_l_coat_text, d_l_due, d_check_text, d_before_of_text, d_Coat___init__, d_l_made, d_l_spoilt, d_l_free, d_l_long, d_l_numbers, d_l_base, d_Coat___eq__, d_l_equal, d_check_stretch, d_count_in, d_Coat_count, d_l_counted, d_l_count_due, d_l_stretches, d_Coat_text, d_raw_Coat___len__, d_Coat_colours, d_Coat_places, d_rwk_Coat___iter__, d_l_face, d_Coat_same, d_l_alike, d_l_alike_due, d_l_gaps, d_l_asked, d_law]
def fa : List Fm := [.std (.free "int"),
  .std (.free "len"),
  .std (.free "abs"),
  .std (.free "range"),
  .std (.glo "_law_draw"),
  .std (.str "LETTERS" "abcdef"),
  .xc "BadSize" ["size"],
  .std (.glo "BadSize"),
  .std (.free "enumerate"),
  .xc "BadCoat" ["index"],
  .std (.glo "BadCoat"),
  .std (.glo "check_text"),
  .std (.cls "Coat"),
  .std (.noat "Coat" "_text"),
  .std (.glo "before_of_text"),
  .std (.free "tuple"),
  .std (.noat "Coat" "_before"),
  .std (.mkr "Coat"),
  .std (.glo "Coat"),
  .std (.exm "BadSize" "BadSize" true),
  .std (.exm "BadCoat" "BadSize" false),
  .xr "BadSize",
  .kit "BadSize" "BadCoat" false,
  .std (.glo "BadNumber"),
  .kit "BadSize" "BadNumber" false,
  .std (.glo "BadStretch"),
  .kit "BadSize" "BadStretch" false,
  .std (.free "isinstance"),
  .std (.exm "BadCoat" "BadCoat" true),
  .std (.exm "BadSize" "BadCoat" false),
  .xr "BadCoat",
  .kit "BadCoat" "BadSize" false,
  .kit "BadCoat" "BadNumber" false,
  .kit "BadCoat" "BadStretch" false,
  .std (.free "bool"),
  .std (.glo "RollError"),
  .std (.exm "BadCoat" "RollError" true),
  .std (.exm "BadSize" "RollError" true),
  .std (.free "ValueError"),
  .kiT "BadSize" "ValueError" true,
  .kiT "BadCoat" "ValueError" true,
  .kiA "Coat",
  .insO "Coat",
  .kit "Coat" "Coat" true,
  .own "Coat" "__eq__",
  .xc "BadStretch" ["begin", "end"],
  .std (.glo "check_stretch"),
  .xc "OutOfWindow" ["begin", "end"],
  .std (.glo "OutOfWindow"),
  .std (.glo "count_in"),
  .std (.meth "Coat" "count"),
  .std (.exm "BadStretch" "BadStretch" true),
  .std (.exm "OutOfWindow" "BadStretch" false),
  .std (.exm "BadCoat" "BadStretch" false),
  .std (.exm "BadSize" "BadStretch" false),
  .xr "BadStretch",
  .kit "BadStretch" "OutOfWindow" false,
  .std (.exm "OutOfWindow" "OutOfWindow" true),
  .std (.exm "BadStretch" "OutOfWindow" false),
  .std (.exm "BadCoat" "OutOfWindow" false),
  .std (.exm "BadSize" "OutOfWindow" false),
  .xr "OutOfWindow",
  .kit "OutOfWindow" "BadNumber" false,
  .std (.free "set"),
  .std (.glo "_law_counted"),
  .std (.glo "_law_count_due"),
  .std (.glo "_law_numbers"),
  .std (.meth "Coat" "text"),
  .std (.free "str"),
  .cval "Coat" "MOST_PLACES" 5,
  .own "Coat" "__len__",
  .prop "Coat" "colours",
  .prop "Coat" "places",
  .std (.free "iter"),
  .own "Coat" "__iter__",
  .xc "BadNumber" ["number"],
  .std (.meth "Coat" "same"),
  .std (.exm "BadNumber" "BadNumber" true),
  .std (.exm "OutOfWindow" "BadNumber" false),
  .std (.exm "BadStretch" "BadNumber" false),
  .std (.exm "BadCoat" "BadNumber" false),
  .std (.exm "BadSize" "BadNumber" false),
  .xr "BadNumber",
  .std (.glo "_law_alike"),
  .std (.glo "_law_alike_due"),
  .std (.glo "_law_face"),
  .std (.glo "_law_gaps"),
  .std (.glo "_law_stretches"),
  .std (.glo "_law_equal"),
  .std (.glo "_law_begin"),
  .std (.glo "_law_coat_text"),
  .std (.glo "_law_spoilt"),
  .std (.glo "_law_free"),
  .std (.glo "_law_long"),
  .std (.glo "_law_due"),
  .std (.glo "_law_made"),
  .std (.glo "_law_base"),
  .std (.glo "_law_asked"),
  .std (.glo "law")]
end MV
namespace MV
open PySem PySem.Spec PyProof.Rows L2 He
def nm0 : List PySem.Str := ["_wall", "RollError", "BadSize", "BadStretch", "OutOfWindow", "BadNumber", "Unlike", "NoRoom", "BadCoat", "check_stretch", "check_like", "LETTERS", "before_of_text", "text_of_before", "count_in", "count_rows", "before_of_rows", "product_before", "mirrored_before", "surplus_before"]
def nm1 : List PySem.Str := ["ahead_before", "behind_before", "MOST_TIMES", "check_text", "check_within", "Coat", "_law_begin", "_law_draw", "_law_coat_text", "_law_spoilt", "_law_free", "_law_long", "_law_due", "_law_numbers", "_law_made", "_law_base", "_law_counted", "_law_count_due", "_law_alike", "_law_alike_due"]
def nm2 : List PySem.Str := ["_law_face", "_law_gaps", "_law_stretches", "_law_equal", "_law_asked"]
def nms : List PySem.Str := nm0 ++ nm1 ++ nm2
abbrev RR : PySem.W.OpenRow := PySem.W.OpenLaw.row PySem.Challenge.rw_datelessrolls_k48_coat_counts
def asl : List Addr := [3, 2, 6, 4, 21, 31, 51, 70, 89, 108, 127, 146, 165, 174, 181, 188, 195, 202, 209, 216, 223, 228, 235, 242, 249, 256, 263, 417, 426, 433, 440, 447, 454, 461, 468, 475, 482, 489, 496, 503, 510, 517, 522, 529, 536, 543, 550, 555, 0, 20, 30, 50, 69, 88, 107, 126, 145, 164, 173, 180, 187, 194, 201, 208, 215, 222, 227, 234, 241, 248, 255, 262, 416, 425, 432, 439, 446, 453, 460, 467, 474, 481, 488, 495, 502, 509, 516, 521, 528, 535, 542, 549, 554, 15, 16, 17, 18, 19, 29, 32, 48, 49, 67, 68, 86, 87, 105, 106, 124, 125, 143, 144, 162, 163, 168, 169, 170, 171, 172, 175, 176, 177, 178, 179, 182, 183, 184, 185, 186, 189, 190, 191, 192, 193, 196, 197, 198, 199, 200, 203, 204, 205, 206, 207, 210, 211, 212, 213, 214, 217, 218, 219, 220, 221, 224, 225, 226, 229, 230, 231, 232, 233, 236, 237, 238, 239, 240, 243, 244, 245, 246, 247, 250, 251, 252, 253, 254, 257, 258, 259, 260, 261, 277, 286, 296, 306, 314, 321, 329, 337, 344, 351, 358, 365, 372, 379, 386, 393, 400, 407, 414, 415, 418, 419, 422, 423, 424, 427, 428, 429, 430, 431, 434, 435, 436, 437, 438, 441, 442, 443, 444, 445, 448, 449, 450, 451, 452, 455, 456, 457, 458, 459, 462, 463, 464, 465, 466, 469, 470, 471, 472, 473, 476, 477, 478, 479, 480, 483, 484, 485, 486, 487, 490, 491, 492, 493, 494, 497, 498, 499, 500, 501, 504, 505, 506, 507, 508, 511, 512, 513, 514, 515, 518, 519, 520, 523, 524, 525, 526, 527, 530, 531, 532, 533, 534, 537, 538, 539, 540, 541, 544, 545, 546, 547, 548, 551, 552, 553, 47, 66, 85, 104, 123, 142, 161, 276, 284, 285, 294, 295, 304, 305, 313, 320, 328, 336, 343, 350, 357, 364, 371, 378, 385, 392, 399, 406, 413, 42, 43, 44, 45, 46, 61, 62, 63, 64, 65, 80, 81, 82, 83, 84, 99, 100, 101, 102, 103, 118, 119, 120, 121, 122, 137, 138, 139, 140, 141, 156, 157, 158, 159, 160, 271, 272, 273, 274, 275, 283, 287, 293, 297, 303, 307, 308, 309, 310, 311, 312, 315, 316, 317, 318, 319, 327, 335, 338, 339, 340, 341, 342, 345, 346, 347, 348, 349, 352, 353, 354, 355, 356, 359, 360, 361, 362, 363, 366, 367, 368, 369, 370, 373, 374, 375, 376, 377, 380, 381, 382, 383, 384, 387, 388, 389, 390, 391, 394, 395, 396, 397, 398, 401, 402, 403, 404, 405, 408, 409, 410, 411, 412, 278, 279, 280, 281, 282, 288, 289, 290, 291, 292, 298, 299, 300, 301, 302, 322, 323, 324, 325, 326, 330, 331, 332, 333, 334]
abbrev hkM : PySem.W.Hook := hookM asl fa fn
def obM (s : PySem.W.SharedT) : AlM := obsMG asl fa fn (HandSHeadRun.getT s)
theorem obM_eq (s : PySem.W.SharedT) : obM s = hkM.obs s.abs := obsMG_eq (HandSHeadRun.getT_eq s)
noncomputable abbrev endM (w : World) (os : OsState) : Option PySem.W.SharedT := HandSHeadRun.endF (HandSHeadRun.stepQ (HandSHeadRun.denQ HandSHeadRun.tabQ) RR.prog w) 60000 RR.prog w os
open PySem.W PySem.Calls HandSHeadRun in
theorem run1 (w : World) (os : OsState) : (endM w os).map (fun s => looksF RR.prog (boot_heap w.params) s.abs) = some true := by kernel_rfl
open PySem.W PySem.Calls HandSHeadRun in
theorem run2 (w : World) (os : OsState) : (endM w os).map (fun s => seenQ (view RR.prog [50]) nms (importedModules RR.prog.main.body) (fun s => xlAt (view RR.prog [50]) [] s && recOk RR.toRowW.records s) s.abs) = some (openGood (view RR.prog [50]) nms) := by kernel_rfl
theorem run3 (w : World) (os : OsState) : (endM w os).map (fun s => obM s) = some (hkM.val w) := by kernel_rfl
theorem runM (w : World) : HandSHeadRun.RunEq RR (PySem.W.view RR.prog [50]) hkM obM 60000 nms w := fun os => map3 (run1 w os) (run2 w os) (run3 w os)
end MV
namespace MV
open PySem PySem.Spec PyProof.Rows L2 He
structure Fz (fa : List Fm) (fn : List DfM) (K : PySem.W.Frag) (mg : Str → Option Value) : Prop where
  c : SaysM fa fn K
  g : ∀ x, (Fa.glo x).ok K = true → mg x = some (.ref (ga K x))
  f : ∀ x, (Fa.free x).ok K = true → mg x = none
  i : ∀ x i, (Fa.int x i).ok K = true → ∃ t, mg x = some (.int i t)
  s : ∀ x z, (Fa.str x z).ok K = true → ∃ t, mg x = some (.str z t)
theorem Fz.of {fa : List Fm} {fn : List DfM} {K : PySem.W.Frag} {mg : Str → Option Value} {h : Heap} (X : K.In h) (G : h.Ns mainGlobals mg) (c : SaysM fa fn K) : Fz fa fn K mg :=
  ⟨c, fun _ q => glo_ok X G q, fun _ q => free_ok X G q, fun _ _ q => int_ok X G q, fun _ _ q => str_ok X G q⟩
theorem tk_cx {P : Program} {w : World} {K : PySem.W.Frag} {mg : Str → Option Value} {base : Heap} {N : List Str} {qual : Str} {scope : Scope} {f : Addr} {cdv : Value} {A : Around} {outer : List Env} {s : Shared} {H : Hp} {E : XK} :
    Takes (cxOf (L2N.CX P w) P w K mg base N qual scope f cdv A outer s H E) (fun cls d _ H => E cls d H) := L2N.takes_of rfl rfl rfl rfl
theorem po_cx {P : Program} {w : World} {K : PySem.W.Frag} {mg : Str → Option Value} {base : Heap} {N : List Str} {qual : Str} {scope : Scope} {f : Addr} {cdv : Value} {A : Around} {outer : List Env} {s : Shared} {H : Hp} {E : XK} :
    PassesOwn (model P w) (cxOf (L2N.CX P w) P w K mg base N qual scope f cdv A outer s H E).A (cxOf (L2N.CX P w) P w K mg base N qual scope f cdv A outer s H E).env (cxOf (L2N.CX P w) P w K mg base N qual scope f cdv A outer s H E).xe := passes_of (X := cxOf (L2N.CX P w) P w K mg base N qual scope f cdv A outer s H E) rfl
theorem un64 {k : Nat} {A : Around} (r : Room k A) : A.units + 64 < cLine := by have := r.un; omega
section
variable {X : Cx} {J : Jx} {W : WX} {e a b c tg iter elt : Expr} {es : List Expr} {q qa qb qc qr : Bool} {fa fb fc : Sem1} {f g : SemS} {gc : SemB} {pos p apos : Pos} {k : Nat}
theorem w_v {i : Nat} {x : Str} (hN : X.N[i]? = some x := by rfl) (hv : Vis X.env.scope x := by first | exact .inl rfl | exact .inr (.inl rfl) | exact .inr (.inr rfl)) (hd : (x == ("__debug__" : Str)) = false := by decide) (hcd : (x == ("__classdict__" : Str)) = false := by decide) : XE X J W (.Name x pos) true (fVar i) := xe_var hN hv hd hcd
theorem w_mv {i : Nat} {x : Str} (hN : X.N[i]? = some x := by rfl) (hv : Vis X.env.scope x := by first | exact .inl rfl | exact .inr (.inl rfl) | exact .inr (.inr rfl)) (hd : (x == ("__debug__" : Str)) = false := by decide) (hcd : (x == ("__classdict__" : Str)) = false := by decide) : XE X J W (.Name x pos) false (fMv i) := xe_mv hN hv hd hcd
theorem w_gs {x z : Str} (h : ∃ t, X.mg x = some (.str z t)) (hg : Gl X x := by rfl) (hd : (x == ("__debug__" : Str)) = false := by decide) : XE X J W (.Name x pos) true (fC (.str z)) := by
  obtain ⟨t, h⟩ := h
  exact xe_glob hg h (v := .str z) ⟨t, rfl⟩ (fun _ => rfl) hd
theorem t_lt (ha : XE X J W a qa fa) (hb : XE X J W b qb fb) (hm : behindInMarks .Lt b = false := by rfl) : XT X J W (.Compare a [.Lt] [b] pos) (qa && qb) (fTst (fTwo qb fa fb (kS (gB bLt)))) := xt_cmp op_lt ok_B ha hb hm
theorem t_gt (ha : XE X J W a qa fa) (hb : XE X J W b qb fb) (hm : behindInMarks .Gt b = false := by rfl) : XT X J W (.Compare a [.Gt] [b] pos) (qa && qb) (fTst (fTwo qb fa fb (kS (gB bGt)))) := xt_cmp op_gt ok_B ha hb hm
theorem t_ge (ha : XE X J W a qa fa) (hb : XE X J W b qb fb) (hm : behindInMarks .GtE b = false := by rfl) : XT X J W (.Compare a [.GtE] [b] pos) (qa && qb) (fTst (fTwo qb fa fb (kS (gB bGe)))) := xt_cmp op_ge ok_B ha hb hm
theorem w_eq (hK : J.K = X.K) (hu : X.A.units + 64 < cLine) (ha : XE X J W a qa fa) (hb : XE X J W b qb fb) (hm : behindInMarks .Eq b = false := by rfl) : XE X J W (.Compare a [.Eq] [b] pos) (qa && qb) (fTwo qb fa fb (kS gEq)) := xe_cmp (op_eqD hu) (ok_Eq hK) ha hb hm
theorem t_eq (hK : J.K = X.K) (hu : X.A.units + 64 < cLine) (ha : XE X J W a qa fa) (hb : XE X J W b qb fb) (hm : behindInMarks .Eq b = false := by rfl) : XT X J W (.Compare a [.Eq] [b] pos) (qa && qb) (fTst (fTwo qb fa fb (kS gEq))) := xt_cmp (op_eqD hu) (ok_Eq hK) ha hb hm
theorem t_ne (hK : J.K = X.K) (hu : X.A.units + 64 < cLine) (ha : XE X J W a qa fa) (hb : XE X J W b qb fb) (hm : behindInMarks .NotEq b = false := by rfl) : XT X J W (.Compare a [.NotEq] [b] pos) (qa && qb) (fTst (fTwo qb fa fb (kS gNe))) := xt_cmp (op_neD hu) (ok_Ne hK) ha hb hm
theorem t_nin (hK : J.K = X.K) (ha : XE X J W a qa fa) (hb : XE X J W b qb fb) (hm : behindInMarks .NotIn b = false := by rfl) : XT X J W (.Compare a [.NotIn] [b] pos) (qa && qb) (fTst (fTwo qb fa fb (kS (gIn true)))) := xt_cmp op_notInA (ok_In hK true) ha hb hm
theorem w_len (hm : X.mg "len" = none) (ha : XE X J W a qa fa) (hg : Gl X "len" := by rfl) (he : starEach [a] X.env = (false, eval a X.env) :: starEach [] X.env := by rfl) (hpl : (backTo pos (starEach [] X.env)).any (·.1) = false := by rfl) : XE X J W (.Call (.Name "len" p) [a] [] pos) qa (fOne fa (kS1 gLen)) := xe_bi1 call_len ok_len hg hm boot_len ha (by decide) (by decide) he hpl
theorem w_abs (hm : X.mg "abs" = none) (ha : XE X J W a qa fa) (hg : Gl X "abs" := by rfl) (he : starEach [a] X.env = (false, eval a X.env) :: starEach [] X.env := by rfl) (hpl : (backTo pos (starEach [] X.env)).any (·.1) = false := by rfl) : XE X J W (.Call (.Name "abs" p) [a] [] pos) qa (fOne fa (kS1 gAbs)) := xe_bi1 call_abs ok_abs hg hm (by decide +kernel) ha (by decide) (by decide) he hpl
end
end MV
namespace MV
open PySem PySem.Spec PyProof.Rows L2 He
def gNeg : Vl → Option Vl
  | .int i => some (.int (-i))
  | _ => none
section
variable {X : Cx} {J : Jx} {W : WX} {e a b c tg iter elt o : Expr} {es : List Expr} {q qa qb qc qe qr qo : Bool} {fa fb fc : Sem1} {f g : SemS} {gc : SemB} {fs : SemA} {pos p px apos : Pos} {k j : Nat}
theorem w_neg (ha : XE X J W a qa fa) : XE X J W (.UnaryOp .USub a pos) qa (fOne fa (kS1 gNeg)) :=
  xe_un un_neg (ok_S1 fun H d1 d v Q r e q => by
    cases d1 <;> first | (cases e; exact ⟨_, r, q _ rfl⟩) | cases e) ha
theorem w_int (hm : X.mg "int" = none) (ha : XE X J W a qa fa) (hg : Gl X "int" := by rfl) (he : starEach [a] X.env = (false, eval a X.env) :: starEach [] X.env := by rfl) (hpl : (backTo pos (starEach [] X.env)).any (·.1) = false := by rfl) : XE X J W (.Call (.Name "int" p) [a] [] pos) qa (fOne fa (kS1 gInt)) := xe_ty1 call_int1 ok_int hg hm boot_int ha (by decide) (by decide) he hpl
theorem w_tuple (hm : X.mg "tuple" = none) (ha : XE X J W a qa fa) (hg : Gl X "tuple" := by rfl) (he : starEach [a] X.env = (false, eval a X.env) :: starEach [] X.env := by rfl) (hpl : (backTo pos (starEach [] X.env)).any (·.1) = false := by rfl) : XE X J W (.Call (.Name "tuple" p) [a] [] pos) qa (fOne fa kTupOf) := xe_ty1 call_tuple_of ok_tupOf hg hm (by decide +kernel) ha (by decide) (by decide) he hpl
theorem w_ty {x : Str} {T : String} (hm : X.mg x = none) (hg : Gl X x := by rfl) (hv : bootBuiltins x = some (.type T) := by decide +kernel) (hn : x ≠ "__name__" := by decide) (hdb : (x == ("__debug__" : Str)) = false := by decide) : PE X (.Name x p) (tC (.ty T)) := pe_tyN hg hm hv hn hdb
theorem w_isi {T : String} {gg : Vl → Option Bool} (hK : J.K = X.K) (hi : IsOk X.K (.type T) gg) (hm : X.mg "isinstance" = none) (hc : PE X c (tC (.ty T))) (ha : XE X J W a qa fa) (hg : Gl X "isinstance" := by rfl)
    (he : starEach [a, c] X.env = (false, eval a X.env) :: starEach [c] X.env := by rfl) (he2 : starEach [c] X.env = (false, eval c X.env) :: starEach [] X.env := by rfl) (hpl : (backTo pos (starEach [c] X.env)).any (·.1) = false := by rfl) :
    XE X J W (.Call (.Name "isinstance" p) [a, c] [] pos) qa (fOne fa (kIsi gg)) := xe_isi hK hi (.ty T) hg hm (by decide +kernel) ha hc he he2 hpl
theorem w_sl {fr : SemA} {i : Nat} {x : Str} (hr : XA X J W es qr fr) (hN : X.N[i]? = some x := by rfl) (hv : Vis X.env.scope x := by first | exact .inl rfl | exact .inr (.inl rfl) | exact .inr (.inr rfl)) (hs : starEach (.Name x p :: es) X.env = (false, eval (.Name x p) X.env) :: starEach es X.env := by rfl)
    (hd : (x == ("__debug__" : Str)) = false := by decide) (hcd : (x == ("__classdict__" : Str)) = false := by decide) : XA X J W (.Name x p :: es) qr (aSl i fr) := xa_sl hN hv hr hs hd hcd
theorem w_r1 (hm : X.mg "range" = none) (ha : XE X J W a qa fa) (hg : Gl X "range" := by rfl) (hs : starEach [a] X.env = (false, eval a X.env) :: starEach [] X.env := by rfl) (hs2 : starEach [a] X.env = [(false, eval a X.env)] := by rfl) : XI X J W tg (.Call (.Name "range" p) [a] [] pos) qa (iR1 fa) := xi_r1 hg hm ha hs hs2
theorem w_r2 (hm : X.mg "range" = none) (ha : XE X J W a qa fa) (hb : XE X J W b qb fb) (hg : Gl X "range" := by rfl) (he : starEach [a, b] X.env = (false, eval a X.env) :: starEach [b] X.env := by rfl) (he2 : starEach [b] X.env = (false, eval b X.env) :: starEach [] X.env := by rfl)
    (hs : starEach [a, b] X.env = [(false, eval a X.env), (false, eval b X.env)] := by rfl) (hs2 : starEach [b] X.env = [(false, eval b X.env)] := by rfl) : XI X J W tg (.Call (.Name "range" p) [a, b] [] pos) (qa && qb) (iR2 fa fb) := xi_r2 hg hm ha hb he he2 hs hs2
theorem w_gn {i : Nat} {x : Str} (hN : X.N.Nodup := by assumption) (hi : X.N[i]? = some x := by rfl) (hx : Loc X.env.scope x := by first | exact .inl rfl | exact .inr rfl) (hf : X.fn x = true ∨ X.env.scope.names.lookup x = some .local := by first | exact .inl rfl | exact .inr rfl) (nf : NF J i := by first | exact nf_none (by assumption) | exact nf_ne (by assumption) rfl) : XG X J (.Name x p) [i] (gNm i) := xg_name hN hi hx hf nf
theorem w_gc {ix is : List Nat} {i : Nat} {x : Str} (hr : XGs X J es ix is) (hmem : i ∈ ix := by decide) (hN : X.N.Nodup := by assumption) (hi : X.N[i]? = some x := by rfl) (hx : Loc X.env.scope x := by first | exact .inl rfl | exact .inr rfl) (hf : X.fn x = true ∨ X.env.scope.names.lookup x = some .local := by first | exact .inl rfl | exact .inr rfl)
    (nf : NF J i := by first | exact nf_none (by assumption) | exact nf_ne (by assumption) rfl) (hs : (assignEach (.Name x p :: es) X.env).map (·.2) = assign (.Name x p) X.env :: (assignEach es X.env).map (·.2) := by rfl) : XGs X J (.Name x p :: es) ix (i :: is) := xgs_cons hmem hN hi hx hr hf hs nf
theorem w_gtp {is : List Nat} {k1 : Nat} (h : XGs X J es is is) (hc : X.calm = true := by rfl) (hn : (assignEach es X.env).length = is.length := by rfl) (hst : (assignEach es X.env).findIdx? (·.1) = none := by rfl) : XG X J (.Tuple es k1 pos) is (gTp is) := xg_tup hc h hn hst
theorem w_for {body : List Stmt} {tb : SemS} {src : SemI} {tgt : SemG} {ix : List Nat} (hp : PassesOwn (model X.prog X.w) X.A X.env X.xe) (hi : XI X J W tg iter q src) (hg : XG X J tg ix tgt) (hb : XB X J W body tb) (hc : X.calm = true := by rfl) (hs : ∀ x, foldedSetIterable iter X.env x = pure x := by intro _; rfl) : XS X J W (.For tg iter body [] pos) (sFor src tgt tb) := xs_for hp hc hi hg hb hs
theorem w_asg {i : Nat} {x : Str} (hN : X.N.Nodup) (ha : XE X J W a qa fa) (hi : X.N[i]? = some x := by rfl) (hx : Loc X.env.scope x := by first | exact .inl rfl | exact .inr rfl) (hs : swapsWith a (some (.Name x p)) pos.line X.env = pure false := by rfl) (hf : X.fn x = true ∨ X.env.scope.names.lookup x = some .local := by first | exact .inl rfl | exact .inr rfl) (nf : NF J i := by first | exact nf_none (by assumption) | exact nf_ne (by assumption) rfl) :
    XS X J W (.Assign [.Name x p] a pos) (sAsg i fa) := xs_asg hN hi hx ha hs hf nf
theorem w_set {i : Nat} {x : Str} {ps' : Pos} (hb : XE X J W b qb fb) (ha : XE X J W a qa fa) (hN : X.N[i]? = some x := by rfl) (hv : Vis X.env.scope x := by first | exact .inl rfl | exact .inr (.inl rfl) | exact .inr (.inr rfl)) (hd : (x == ("__debug__" : Str)) = false := by decide) (hcd : (x == ("__classdict__" : Str)) = false := by decide)
    (has : ∀ v, assign (.Subscript (.Name x p) b ps') X.env v = (do
      let ov ← holding [v] (eval (.Name x p) X.env)
      let iv ← holding [v, ov] (eval b X.env)
      standAt ps'
      holding [v, ov, iv] (setItem ov iv v)
      release [v, ov, iv] []) := by intro _; rfl)
    (hs : swapsWithSole [.Subscript (.Name x p) b ps'] a pos.line X.env = pure false := by rfl) (hw : swappedStores [.Subscript (.Name x p) b ps'] a X.env = pure none := by rfl)
    (h1 : (assignEach [.Subscript (.Name x p) b ps'] X.env).map (·.2) = [assign (.Subscript (.Name x p) b ps') X.env] := by rfl) :
    XS X J W (.Assign [.Subscript (.Name x p) b ps'] a pos) (sSet i fb fa) := xs_set hN hv hb ha hd hcd has hs hw h1
theorem w_app {i : Nat} {x : Str} (ha : XE X J W a qa fa) (hN : X.N[i]? = some x := by rfl) (hv : Vis X.env.scope x := by first | exact .inl rfl | exact .inr (.inl rfl) | exact .inr (.inr rfl)) (hd : (x == ("__debug__" : Str)) = false := by decide) (hcd : (x == ("__classdict__" : Str)) = false := by decide)
    (hst : starEach [a] X.env = (false, eval a X.env) :: starEach [] X.env := by rfl) (hbase : attributeBase (.Name x px) "append" X.env (eval (.Name x px) X.env) = eval (.Name x px) X.env := by rfl)
    (hfew : ((backTo pos (starEach [a] X.env)).all (fun x => !x.1) && (backToKw pos (keywordEach [] X.env)).all (fun x => x.1.isSome) && decide ([a].length + ([] : List Keyword).length + (if ([] : List Keyword).isEmpty then 0 else 1) < 30)) = true := by rfl)
    (hline : (apos.endLine == pos.line) = true := by rfl) (hplain : (backTo pos (starEach [] X.env)).any (·.1) = false := by rfl) :
    XE X J W (.Call (.Attribute (.Name x px) "append" apos) [a] [] pos) false (fApp i fa) := xe_app hN hv ha hd hcd hst (pe_bm PySem.F.plainAttrs_list PySem.F.slot_list_append PySem.F.type_list_append mt_append (pe_var hN hv hd hcd) (pa_cons ha.pe pa_nil hst) hbase hfew hline hst hplain)
theorem w_call {pm : List PM} {rm : Bool} {fn : Fn} {x : Str} {fA : Addr} (F : FnC X.prog X.w X.K X.mg X.base j fA (spF X.K pm rm fn)) (hm : X.mg x = some (.ref fA)) (hr : Room k X.A) (tk : Takes X W) (hK : J.K = X.K) (ha : XA X J W (e :: es) q fs) (hj : j ≤ k := by decide) (hg : Gl X x := by rfl)
    (hdb : (x == ("__debug__" : Str)) = false := by decide) (he : starEach (e :: es) X.env = (false, eval e X.env) :: starEach es X.env := by rfl) (hpl : (backTo pos (starEach es X.env)).any (·.1) = false := by rfl) :
    XE X J W (.Call (.Name x p) (e :: es) [] pos) false (fCall pm rm fn fs) := xe_call hK (F.at hr hj tk) hg hm F.kp ha hdb he hpl
theorem w_lc {src : SemI} {tgt : SemG} {ix : List Nat} {cond : SemB} {felt : Sem1} {ifs : List Expr} {scope : Scope} {own : List (Str × Nat)} (hN : X.N.Nodup) (hi : XI X J W tg iter q src)
    (hg : ∀ (s : Shared) (H : Hp) (C : Addr) (cl : List (Str × Addr)) (fp : List Addr), XG (X.blk s H scope (compEnvC scope cl C X.env) fp) J tg ix tgt) (ht : ∀ (s : Shared) (H : Hp) (C : Addr) (cl : List (Str × Addr)) (fp : List Addr), XPs (X.blk s H scope (compEnvC scope cl C X.env) fp) J WN ifs qc cond)
    (he : ∀ (s : Shared) (H : Hp) (C : Addr) (cl : List (Str × Addr)) (fp : List Addr), XE (X.blk s H scope (compEnvC scope cl C X.env) fp) J WN elt qe felt)
    (ok : BlkOk X.N X.env.scope scope own := by exact ⟨rfl, by decide +kernel, by decide +kernel, by decide +kernel, by decide +kernel⟩) (hix : ∀ i ∈ ix, i ∈ own.map (·.2) := by decide) (hc : X.calm = true := by rfl) (hs : ∀ x, foldedSetIterable iter X.env x = pure x := by intro _; rfl)
    (nf : ∀ i ∈ own.map (·.2), NF J i := by first | exact fun _ _ => nf_none (by assumption) | exact nfs_ne (by assumption) rfl) :
    XE X J W (.ListComp elt [⟨tg, iter, ifs, 0⟩] scope pos) (q && (qc && qe)) (fLc (qc && qe) (own.map (·.2)) src tgt cond felt) := xe_lc hix hc hN hi ok hg ht he hs nf
theorem w_asgLcF {i : Nat} {y : Str} {py spos : Pos} {src : SemI} {tgt : SemG} {ix : List Nat} {cond : SemB} {felt : Sem1} {ifs : List Expr} {scope : Scope} {own : List (Str × Nat)} (hN : X.N.Nodup) (hi : XI X J W tg iter q src)
    (hg : ∀ (s : Shared) (H : Hp) (C : Addr) (cl : List (Str × Addr)) (fp : List Addr), XG (X.blk s H scope (compEnvC scope cl C X.env) fp) J tg ix tgt) (ht : ∀ (s : Shared) (H : Hp) (C : Addr) (cl : List (Str × Addr)) (fp : List Addr), XPs (X.blk s H scope (compEnvC scope cl C X.env) fp) J WN ifs qc cond)
    (he : ∀ (s : Shared) (H : Hp) (C : Addr) (cl : List (Str × Addr)) (fp : List Addr), XE (X.blk s H scope (compEnvC scope cl C X.env) fp) J WN elt qe felt)
    (ok : BlkOk X.N X.env.scope scope own := by exact ⟨rfl, by decide +kernel, by decide +kernel, by decide +kernel, by decide +kernel⟩) (hix : ∀ i ∈ ix, i ∈ own.map (·.2) := by decide) (hc : X.calm = true := by rfl) (hy : X.N[i]? = some y := by rfl) (hyl : X.env.scope.names.lookup y = some .local := by rfl)
    (hsw : swapsWith (.ListComp elt [⟨tg, iter, ifs, 0⟩] scope pos) (some (.Name y py)) spos.line X.env = pure true := by rfl) (hs : ∀ x, foldedSetIterable iter X.env x = pure x := by intro _; rfl)
    (nf : ∀ i ∈ own.map (·.2), NF J i := by first | exact fun _ _ => nf_none (by assumption) | exact nfs_ne (by assumption) rfl) (nfi : NF J i := by first | exact nf_none (by assumption) | exact nf_ne (by assumption) rfl) :
    XS X J W (.Assign [.Name y py] (.ListComp elt [⟨tg, iter, ifs, 0⟩] scope pos) spos) (sAsg i (fFrz (fLc (qc && qe) (own.map (·.2)) src tgt cond felt))) := xs_asgLcF hix hc hN hy hyl hsw hi ok hg ht he hs nf nfi
theorem w_raise {c' x : Str} {fsN : List Str} {pos2 : Pos} (T : OexC X.K (He.ga X.K c') ∧ (∀ f, f ∈ fsN → PySem.W.findIn X.K (.ref (He.ga X.K c')) f = some none) ∧ PySem.W.findIn X.K (.ref (He.ga X.K c')) "__init__" = some (some (.ref (He.ma X.K (He.ga X.K c') "__init__"))) ∧ PySem.W.typeIn X.K (.ref (He.ma X.K (He.ga X.K c') "__init__")) = some (.type "function"))
    (F : FnC X.prog X.w X.K X.mg X.base j (He.ma X.K (He.ga X.K c') "__init__") (spX fsN X.K)) (hm : X.mg x = some (.ref (He.ga X.K c'))) (hr : Room k X.A) (tk : Takes X W) (hK : J.K = X.K) (ha : XA X J W (e :: es) q fs) (hj : j + 1 ≤ k := by decide) (hl : (fsN.length ≤ 1000) := by decide) (hc : X.calm = true := by rfl) (hg : Gl X x := by rfl)
    (hdb : (x == ("__debug__" : Str)) = false := by decide) (he : starEach (e :: es) X.env = (false, eval e X.env) :: starEach es X.env := by rfl) (hpl : (backTo pos (starEach es X.env)).any (·.1) = false := by rfl) :
    XS X J W (.Raise (some (.Call (.Name x p) (e :: es) [] pos)) none pos2) (sRaise c' fsN fs) := by
  obtain ⟨⟨fd, ps, F1, hb⟩, _⟩ := F
  exact xs_raise hK hc tk T.1 T.2.1 T.2.2.1 T.2.2.2 F1 (hr.mono hj) hb hg hm hl ha hdb he hpl
end
end MV
namespace MV
open PySem PySem.Spec PyProof.Rows L2 He
theorem z_cls {K : PySem.W.Frag} {x : Str} (h : (Fm.std (.cls x)).ok K = true) : Cls K (ga K x) := cls_ok h
theorem z_noat {K : PySem.W.Frag} {x f : Str} (h : (Fm.std (.noat x f)).ok K = true) : NoAttr K (ga K x) f := noat_ok h
theorem z_meth {K : PySem.W.Frag} {x m : Str} (h : (Fm.std (.meth x m)).ok K = true) : Meth K (ga K x) m (ma K (ga K x) m) := meth_ok h
theorem z_mkr {K : PySem.W.Frag} {x : Str} (h : (Fm.std (.mkr x)).ok K = true) : Mk K (ga K x) (ma K (ga K x) "__init__") := mkr_ok h
theorem z_exm {K : PySem.W.Frag} {x y : Str} {b : Bool} (h : (Fm.std (.exm x y b)).ok K = true) : PySem.W.exmOne K (.ref (ga K x)) (.ref (ga K y)) = some b := exm_ok h
theorem fld_nil {K : PySem.W.Frag} {f : Str} : FldOk K [] f := ⟨fun c h => by cases h⟩
theorem fld_cons {K : PySem.W.Frag} {f c : Str} {cs : List Str} (h1 : Cls K (He.ga K c)) (h2 : NoAttr K (He.ga K c) f) (h : FldOk K cs f) : FldOk K (c :: cs) f := ⟨fun d hd => by
  rcases List.mem_cons.mp hd with z | z
  · rw [z]; exact ⟨h1, h2⟩
  · exact h.ok d z⟩
section
variable {X : Cx} {J : Jx} {W : WX} {e a b c tg iter elt o : Expr} {es : List Expr} {q qa qb qo : Bool} {fa fb fc : Sem1} {fs : SemA} {fo : SemR} {pos p px apos : Pos} {k j : Nat}
theorem w_rsl {i : Nat} {x : Str} (hN : X.N[i]? = some x := by rfl) (hv : Vis X.env.scope x := by first | exact .inl rfl | exact .inr (.inl rfl) | exact .inr (.inr rfl)) (hd : (x == ("__debug__" : Str)) = false := by decide) (hcd : (x == ("__classdict__" : Str)) = false := by decide) : XR X J W (.Name x p) true (rSl i) := xr_sl hN hv hd hcd
theorem w_fld {f : Str} {cs : List Str} (hK : J.K = X.K) (hf : FldOk X.K cs f) (ha : XE X J W a qa fa) (hb : attributeBase a f X.env (eval a X.env) = eval a X.env := by rfl) : XE X J W (.Attribute a f pos) qa (fOne fa (kFld f cs)) := xe_fld hK hf ha hb
theorem w_sfld {i : Nat} {x f : Str} {cs : List Str} {pos' : Pos} (hK : J.K = X.K) (hf : FldOk X.K cs f) (ha : XE X J W a qa fa) (hN : X.N[i]? = some x := by rfl) (hv : Vis X.env.scope x := by first | exact .inl rfl | exact .inr (.inl rfl) | exact .inr (.inr rfl)) (hs : swapsWith a (some (.Attribute (.Name x p) f pos')) pos.line X.env = pure false := by rfl)
    (hd : (x == ("__debug__" : Str)) = false := by decide) (hcd : (x == ("__classdict__" : Str)) = false := by decide) : XS X J W (.Assign [.Attribute (.Name x p) f pos'] a pos) (sFldS i f cs fa) := xs_fld hK hf hN hv ha hs hd hcd
theorem w_prop {c f : Str} {g : Addr} {rm : Bool} {fn : Fn} (hK : J.K = X.K) (k1 : Cls X.K (He.ga X.K c)) (hp : PropOf X.K (He.ga X.K c) f (He.ma X.K (He.ga X.K c) f) g) (F : FnC X.prog X.w X.K X.mg X.base j g (spF X.K [.bor] rm fn)) (hr : Room k X.A) (ho : XR X J W o qo fo) (hj : j + 1 ≤ k := by decide) (hab : attributeBase o f X.env (eval o X.env) = eval o X.env := by rfl) :
    XE X J W (.Attribute o f pos) false (fProp c f rm fn fo) := by
  obtain ⟨⟨fd, ps, F1, hb⟩, _⟩ := F
  exact xe_prop hK k1 hp F1 (hr.mono hj) hb ho hab
theorem w_meth {c m : Str} {fA : Addr} {pm : List PM} {rm : Bool} {fn : Fn} (F : FnC X.prog X.w X.K X.mg X.base j fA (spF X.K pm rm fn)) (k1 : Cls X.K (He.ga X.K c)) (k2 : Meth X.K (He.ga X.K c) m fA) (hr : Room k X.A) (tk : Takes X W) (hK : J.K = X.K) (ho : XR X J W o qo fo) (ha : XA X J W (e :: es) q fs) (hj : j ≤ k := by decide)
    (hst : starEach (e :: es) X.env = (false, eval e X.env) :: starEach es X.env := by rfl) (hpl : (backTo pos (starEach es X.env)).any (·.1) = false := by rfl)
    {pl : Sem Bool} (ht : eval (.Call (.Attribute o m apos) (e :: es) [] pos) X.env = (do
      let ov ← eval o X.env
      standAt apos.atName
      let (f, first) ← holding [ov] (getMethod ov m pl)
      callWith pos f first (backTo pos (starEach (e :: es) X.env)) (backToKw pos (keywordEach [] X.env))) := by rfl) :
    XE X J W (.Call (.Attribute o m apos) (e :: es) [] pos) false (fMeth c m pm rm fn fo fs) := xe_meth (pl := pl) (p := pos) hK (F.at hr hj tk) k1 k2 ho ha hst hpl ht
theorem w_meth0 {c m : Str} {fA : Addr} {pm : List PM} {rm : Bool} {fn : Fn} (F : FnC X.prog X.w X.K X.mg X.base j fA (spF X.K pm rm fn)) (k1 : Cls X.K (He.ga X.K c)) (k2 : Meth X.K (He.ga X.K c) m fA) (hr : Room k X.A) (tk : Takes X W) (hK : J.K = X.K) (ho : XR X J W o qo fo) (hj : j ≤ k := by decide)
    {pl : Sem Bool} (ht : eval (.Call (.Attribute o m apos) [] [] pos) X.env = (do
      let ov ← eval o X.env
      standAt apos.atName
      let (f, first) ← holding [ov] (getMethod ov m pl)
      callWith pos f first (backTo pos (starEach [] X.env)) (backToKw pos (keywordEach [] X.env))) := by rfl) :
    XE X J W (.Call (.Attribute o m apos) [] [] pos) false (fMeth c m pm rm fn fo aNil) := xe_meth0 (pl := pl) (p := pos) hK (F.at hr hj tk) k1 k2 ho ht
theorem w_make {c x : Str} {fA : Addr} {pm : List PM} {rm : Bool} {fn : Fn} (F : FnC X.prog X.w X.K X.mg X.base j fA (spF X.K (.io :: pm) rm fn)) (M : Mk X.K (He.ga X.K c) fA) (hm : X.mg x = some (.ref (He.ga X.K c))) (hr : Room k X.A) (tk : Takes X W) (hK : J.K = X.K) (ha : XA X J W (e :: es) q fs) (hj : j + 1 ≤ k := by decide) (hg : Gl X x := by rfl)
    (hdb : (x == ("__debug__" : Str)) = false := by decide) (he : starEach (e :: es) X.env = (false, eval e X.env) :: starEach es X.env := by rfl) (hpl : (backTo pos (starEach es X.env)).any (·.1) = false := by rfl) :
    XE X J W (.Call (.Name x p) (e :: es) [] pos) false (fMake c pm fn fs) := xe_make hK (F.make M hr hj tk) hg hm M.kp ha hdb he hpl
end
end MV
namespace MV
open PySem PySem.Spec PyProof.Rows L2 He
def tabX (yes no : List Str) (c : Str) : Option Bool := if yes.contains c then some true else if no.contains c then some false else none
theorem tabX_ok {K : PySem.W.Frag} {u : Value} {yes no : List Str} (h1 : ∀ c ∈ yes, PySem.W.exmOne K (.ref (ga K c)) u = some true) (h2 : ∀ c ∈ no, PySem.W.exmOne K (.ref (ga K c)) u = some false) : ∀ k b, tabX yes no k = some b → PySem.W.exmOne K (.ref (ga K k)) u = some b := fun k b h => by
  unfold tabX at h
  by_cases c1 : yes.contains k = true
  · rw [if_pos c1] at h; cases h; exact h1 k (List.contains_iff_mem.mp c1)
  · rw [if_neg c1] at h
    by_cases c2 : no.contains k = true
    · rw [if_pos c2] at h; cases h; exact h2 k (List.contains_iff_mem.mp c2)
    · rw [if_neg c2] at h; cases h
theorem all_nil {p : Str → Prop} : ∀ c ∈ ([] : List Str), p c := fun c h => by cases h
theorem all_cons {p : Str → Prop} {x : Str} {l : List Str} (h : p x) (r : ∀ c ∈ l, p c) : ∀ c ∈ x :: l, p c := fun c hc => by
  rcases List.mem_cons.mp hc with z | z
  · rw [z]; exact h
  · exact r c z
theorem names_own {X : Cx} {x : Str} {C : Addr} (hm : X.mg x = some (.ref C)) (hg : Gl X x := by rfl) (hd : (x == ("__debug__" : Str)) = false := by decide) : Names X x (.ref C) := ⟨hg, hd, .inl hm⟩
end MV
namespace MV
open PySem PySem.Spec PyProof.Rows L2 He
theorem cval_ok {K : PySem.W.Frag} {c f : Str} {i : Int} (h : (Fm.cval c f i).ok K = true) : ∃ u, ClX.CRead K (ga K c) (.type "type") ∧ ClX.CVal K (ga K c) (.type "type") f (.int i) u := by
  obtain ⟨h1, h⟩ := ba h
  obtain ⟨h2, h3⟩ := ba h
  cases q : PySem.W.findCls K (.ref (ga K c)) (.type "type") f with
  | none => rw [q] at h3; cases h3
  | some r =>
    rw [q] at h3
    cases r with
    | val u =>
      cases u with
      | int j t =>
        have e : j = i := of_decide_eq_true h3
        subst e
        exact ⟨_, ⟨h1, eqO_ok h2⟩, ⟨q, ⟨t, rfl⟩⟩⟩
      | _ => cases h3
    | _ => cases h3
section
variable {X : Cx} {J : Jx} {W : WX} {a b c : Expr} {q qa qb : Bool} {fa fb : Sem1} {pos p : Pos}
theorem w_cval {x cn f : Str} {i : Int} (h : ∃ u, ClX.CRead X.K (ga X.K cn) (.type "type") ∧ ClX.CVal X.K (ga X.K cn) (.type "type") f (.int i) u) (hm : X.mg x = some (.ref (ga X.K cn))) (hg : Gl X x := by rfl) (hdb : (x == ("__debug__" : Str)) = false := by decide) (hb : attributeBase (.Name x p) f X.env (eval (.Name x p) X.env) = eval (.Name x p) X.env := by rfl) :
    XE X J W (.Attribute (.Name x p) f pos) true (fC (.int i)) := by
  obtain ⟨u, h1, h2⟩ := h
  exact xe_c ((ClX.pe_cval (pe_ownN hg hm hdb) hb).imp fun σ H Q h => ⟨_, _, _, u, rfl, h1, h2, h⟩) (fun _ => rfl)
end
end MV
namespace MV
open PySem PySem.Spec PyProof.Rows L2 He
theorem walk_mv {l : PySem.W.OpenLaw} {n k : Nat} {q : Program} {loose : List Str} {XP : (Str → Option Value) → Heap → Prop} {YP : World → Heap → Prop} {d : DefRec} {x : Str}
    (hn : l.most = some n) (hn2 : n ≤ sizeLine) (hdf : d.params.defaults = []) (hr : Room k callerA)
    (F : ∀ (w : World) (mg : Str → Option Value) (fa : Addr) (h : Heap), YP w h → h.Ns mainGlobals mg → mg d.name = some (.ref fa) →
      ∃ (K : PySem.W.Frag) (fd : FuncData) (sp : Sp), K.In h ∧ (∀ (s : Shared) (u : Value), BindsTo s fd ⟨[u], []⟩ [(x, u)]) ∧
        (∀ (H : Hp) (a : Addr) (ns : List Int), ns.length ≤ n → SqL K H a (ns.map V.int) → sp [.ref a] H (fun v _ => v = .bl true) fun _ _ _ => False) ∧
        ∀ base : Heap, K.In base → base.Ns mainGlobals mg → FnOk l.prog w K mg base (L2N.CX l.prog w) k fa fd [x] sp) :
    PySem.W.WalkO q loose XP YP l.row.toRowW d [] (fun f vs => PySem.call f vs) := by
  refine Att.attach_call hn hdf fun w s₀ s₁ mg mb fa o pm cd doc a vs ns G Y ho hd hcd hmg hobj hints hlen hg => ?_
  obtain ⟨K, fd, sp, KX, hb, hsp, hF⟩ := F w mg fa _ Y G.T.g hmg
  exact law_call KX G.T.g G.T.b G.T.builtins G.T.nolimit hg hobj hints (Nat.le_trans hlen hn2) hr hF hb (fun H hO hS => hsp H a ns hlen hS) fun H e s' x => by
    obtain ⟨_, _, _, _, _, _, _, _, _, _, _, _, z⟩ := x
    exact z
end MV
namespace MV
open PySem PySem.Spec PyProof.Rows L2 He
def ntA : Ar → Bool
  | .ex s => !s.m.isT
  | .sl _ => true
def fOp2 (c m : Str) (pm : List PM) (rm : Bool) (fn : Fn) (fo fb : SemR) : Sem1 := fun ρ => bnd (fo ρ) fun a ρ1 => grd (ntA a) (bnd (fb ρ1) fun b ρ2 => grd (clsOk c m ρ2 a && clsOk c m ρ2 b) (kCall pm rm fn [a, b] ρ2))
section
variable {X : Cx} {J : Jx} {W : WX} {pm : List PM} {rm : Bool} {fn : Fn} {q qo qb : Bool} {σ : St} {H : Hp} {Q : VK} {τ τ1 τ2 : List (Sv × V)} {ρ : En} {F B : Hp} {O : Addr → Option Ow}
theorem ntA_ok {a : Ar} {v : V} (h : ntA a = true) (k : Stk σ [a] [v] τ τ1) (n : NoTmp τ) : NoTmp τ1 := by
  cases a with
  | ex s =>
    rw [show τ1 = (s, v) :: τ from k]
    exact n.cons fun z => by
      have h : (!s.m.isT) = true := h
      rw [z] at h; cases h
  | sl i => obtain ⟨_, k2⟩ := (show σ[i]? = some (some v) ∧ τ1 = τ from k); rw [k2]; exact n
theorem clsOk_below {c m : Str} {a b : Ar} {v u : V} (h : clsOk c m ρ a = true) (k1 : Stk σ [a] [v] τ τ1) (k2 : Stk σ [b] [u] τ1 τ2) (I : Iv J ρ τ2 σ H) : ∃ x dx ws, v = .ref x ∧ H x = some (.ins (He.ga J.K c) dx ws) := by
  have I1 : Iv J ρ τ1 σ H := by
    obtain ⟨F, B, O, I⟩ := I
    exact ⟨F, B, O, I.unstk k2⟩
  obtain ⟨x, dx, ws, h1, h2, _⟩ := clsOk_at h k1 I1
  exact ⟨x, dx, ws, h1, h2⟩
theorem tOp2 {c m : Str} {fo fb : SemR} {to tb : TE} (h : ∃ ρ τ, Iv J ρ τ σ H ∧ (false = true ∨ NoTmp τ) ∧ Out J W τ σ (fOp2 c m pm rm fn fo fb ρ) Q) (hto : ∀ σ H Q, (∃ ρ τ, Iv J ρ τ σ H ∧ (qo = true ∨ NoTmp τ) ∧ OutR J W τ σ (fo ρ) Q) → to σ H Q) (htb : ∀ σ H Q, (∃ ρ τ, Iv J ρ τ σ H ∧ (qb = true ∨ NoTmp τ) ∧ OutR J W τ σ (fb ρ) Q) → tb σ H Q) :
    to σ H fun x H1 => tb σ H1 fun y H2 => ∃ a dx ws b dy us, x = .ref a ∧ y = .ref b ∧ H2 a = some (.ins (He.ga J.K c) dx ws) ∧ H2 b = some (.ins (He.ga J.K c) dy us) ∧ spF J.K pm rm fn [x, y] H2 Q (WE W σ) := by
  obtain ⟨ρ, τ, I, c0, m0⟩ := h
  have nt : NoTmp τ := c0.elim (fun z => nomatch z) id
  refine hto _ _ _ ⟨ρ, τ, I, .inr nt, ?_⟩
  unfold fOp2 at m0
  cases e : fo ρ with
  | ok a ρ1 =>
    rw [e] at m0
    intro v τ1 H1 k1 I1
    obtain ⟨ha, m1⟩ := out_grd (b := ntA a) m0
    refine htb _ _ _ ⟨ρ1, τ1, I1, .inr (ntA_ok ha k1 nt), ?_⟩
    cases e2 : fb ρ1 with
    | ok b ρ2 =>
      rw [e2] at m1
      intro u τ2 H2 k2 I2
      obtain ⟨hc, m2⟩ := out_grd (b := clsOk c m ρ2 a && clsOk c m ρ2 b) m1
      obtain ⟨hc1, hc2⟩ := Bool.and_eq_true_iff.mp hc
      obtain ⟨x, dx, ws, z1, z2⟩ := clsOk_below hc1 k1 k2 I2
      obtain ⟨y, dy, us, z3, z4, _⟩ := clsOk_at hc2 k2 I2
      exact ⟨x, dx, ws, y, dy, us, z1, z3, z2, z4, call_sp nt (stk_cons k1 k2) I2 m2⟩
    | exc cc fs ρ2 => rw [e2] at m1; exact m1
    | bad => rw [e2] at m1; exact m1
  | exc cc fs ρ1 => rw [e] at m0; exact m0
  | bad => rw [e] at m0; exact m0
theorem back_ok {pins : List (Addr × Obj)} {v : Value} {s' : Shared} (h : EP X pins σ Q v s') : PySem.W.CmpBack (EP X pins σ Q) v s' := by
  obtain ⟨z, H', I', r, q⟩ := h
  exact SlX.cmpback r ⟨z, H', I', r, q⟩
theorem cmp_plain {op : CmpOp} (h : op ≠ .Is ∧ op ≠ .IsNot ∧ op ≠ .In ∧ op ≠ .NotIn) {v u : Value} : compareOp op v u = richCompare op v u := by
  obtain ⟨h1, h2, h3, h4⟩ := h
  cases op <;> first | rfl | contradiction
theorem xe_ownC {c dn : Str} {f : Addr} {op : CmpOp} {a b : Expr} {fo fb : SemR} {pos : Pos} (hK : J.K = X.K) (hu : X.A.units < cLine) (hc : CallAt X W f (spF X.K pm rm fn)) (hd : (cmpInfo op).2.1 = dn) (hplain : op ≠ .Is ∧ op ≠ .IsNot ∧ op ≠ .In ∧ op ≠ .NotIn) (hs : PySem.W.findIn X.K (.ref (He.ga X.K c)) dn = some (some (.ref f))) (hf : PySem.W.isFn X.K (.ref f) = true)
    (ho : XR X J W a qo fo) (hb : XR X J W b qb fb) (hm : behindInMarks op b = false) : XE X J W (.Compare a [op] [b] pos) false (fOp2 c dn pm rm fn fo fb) := by
  refine ⟨⟨fun pins s σ H Q I h => ?_⟩⟩
  refine wpAny_Compare1 (binT ho.pe hb.pe I (tOp2 h (fun _ _ _ z => z) fun _ _ _ z => z) fun v u s2 x y H2 I2 rx ry qq => ?_) hm
  obtain ⟨a', dx, ws, b', dy, us, rfl, rfl, ha, hb', q⟩ := qq
  cases rx
  cases ry
  rw [hK] at ha hb' q
  subst hd
  obtain ⟨mA, Ja, _⟩ := ins_get I2.hok ha
  obtain ⟨mB, Jb, _⟩ := ins_get I2.hok hb'
  obtain ⟨od, Ja, _⟩ := Ja.look
  obtain ⟨od', Jb, _⟩ := Jb.look
  obtain ⟨m, hF⟩ := I2.fr
  rw [cmp_plain hplain]
  exact PySem.W.cmp_K hu hF I2.ok.mod.kin Ja Jb.type (by simp [PySem.W.notFirst]) hs hf (wpAny_mono (hc _ _ _ _ _ [.ref a', .ref b'] [.ref a', .ref b'] I2 (.cons rfl (.cons rfl .nil)) q) (fun _ _ z => back_ok z) fun _ _ z => z)
end
end MV
namespace MV
open PySem PySem.Spec PyProof.Rows L2 He
structure StatC (K : PySem.W.Frag) (C : Addr) (m : Str) (p g : Addr) : Prop where
  rd : ClX.CRead K C (.type "type")
  at_ : PySem.W.findCls K (.ref C) (.type "type") m = some (.get (.builtin "staticmethod.__get__") (.ref p) .none (.ref C))
  rc : ∃ rest, PySem.W.recIn K p "staticmethod" = some (.ref g :: rest)
section
variable {X : Cx} {J : Jx} {W : WX} {pins : List (Addr × Obj)} {σ : St} {H : Hp} {s : Shared} {C p g : Addr} {m : Str} {A : Around} {E : Value → Shared → Prop} {pm : List PM} {rm : Bool} {fn : Fn} {q : Bool} {fs : SemA}
theorem w_ownC {c dn : Str} {op : CmpOp} {a b : Expr} {fo fb : SemR} {pos : Pos} {f : Addr} {j k : Nat} {qo qb : Bool} (F : FnC X.prog X.w X.K X.mg X.base j f (spF X.K pm rm fn)) (S : PySem.W.findIn X.K (.ref (ga X.K c)) dn = some (some (.ref f)) ∧ PySem.W.isFn X.K (.ref f) = true ∧ PySem.W.selfFirst X.K (ga X.K c) = true) (hr : Room k X.A) (tk : Takes X W) (hK : J.K = X.K)
    (ho : XR X J W a qo fo) (hb : XR X J W b qb fb) (hj : j ≤ k := by decide) (hd : (cmpInfo op).2.1 = dn := by rfl) (hplain : op ≠ .Is ∧ op ≠ .IsNot ∧ op ≠ .In ∧ op ≠ .NotIn := by decide) (hm : behindInMarks op b = false := by rfl) : XE X J W (.Compare a [op] [b] pos) false (fOp2 c dn pm rm fn fo fb) := xe_ownC hK (by have := hr.un; omega) (F.at hr hj tk) hd hplain S.1 S.2.1 ho hb hm
end
end MV
namespace MV
open PySem PySem.Spec PyProof.Rows L2 He
theorem tabX_yes {yes no : List Str} {k : Str} (h : tabX yes no k = some true) : k ∈ yes := by
  unfold tabX at h
  by_cases c1 : yes.contains k = true
  · exact List.contains_iff_mem.mp c1
  · rw [if_neg c1] at h
    split at h <;> cases h
theorem kitAny_l {K : PySem.W.Frag} {t : Value} : ∀ (l : List (Value × Bool)), (∀ p ∈ l, PySem.W.kitOne K t p.1 = some p.2) → PySem.W.kitAny K t (l.map fun (p : Value × Bool) => p.1) = some (l.any fun (p : Value × Bool) => p.2)
  | [], _ => rfl
  | (u, b) :: l, h => by
    have h1 := h (u, b) List.mem_cons_self
    have ih := kitAny_l l fun p hp => h p (List.mem_cons_of_mem _ hp)
    show (match PySem.W.kitOne K t u with | some true => some true | some false => PySem.W.kitAny K t (l.map fun (p : Value × Bool) => p.1) | none => none) = some (((u, b) :: l).any fun (p : Value × Bool) => p.2)
    rw [h1]
    cases b with
    | true => rfl
    | false => exact ih
theorem kp_nil {K : PySem.W.Frag} {t : Value} : ∀ p ∈ ([] : List (Value × Bool)), PySem.W.kitOne K t p.1 = some p.2 := fun p h => by cases h
theorem kp_cons {K : PySem.W.Frag} {t u : Value} {b : Bool} {l : List (Value × Bool)} (h : PySem.W.kitOne K t u = some b) (r : ∀ p ∈ l, PySem.W.kitOne K t p.1 = some p.2) : ∀ p ∈ (u, b) :: l, PySem.W.kitOne K t p.1 = some p.2 := fun p hp => by
  rcases List.mem_cons.mp hp with z | z
  · rw [z]; exact h
  · exact r p z
end MV
namespace MV
open PySem PySem.Spec PyProof.Rows L2 L2H HotX He
theorem _root_.L2H.PIH.imp {X : Cx} {tg e : Expr} {t t' : TI} (h : PIH X tg e t) (i : ∀ σ H Q, t' σ H Q → t σ H Q) : PIH X tg e t' := ⟨fun pins s σ H Q I q => h.run pins s σ H Q I (i σ H Q q)⟩
end MV
namespace MV
open PySem PySem.Spec PyProof.Rows L2 L2H He
structure XIH (X : Cx) (J : Jx) (W : WX) (tg iter : Expr) (q : Bool) (f : SemI) : Prop where
  pi : PIH X tg iter (tI J W q f)
structure FnCH (P : Program) (w : World) (K : PySem.W.Frag) (mg : Str → Option Value) (base : Heap) (k : Nat) (f : Addr) (sp : Sp) : Prop where
  ex : ∃ fd ps, FnH P w K mg base (L2N.CX P w) k f fd ps sp ∧ Binds K fd ps []
  kp : PySem.W.keepIn K (.ref f) = true
theorem FnCH.at {X : Cx} {W : WX} {k j : Nat} {f : Addr} {sp : Sp} (F : FnCH X.prog X.w X.K X.mg X.base j f sp) (hr : RoomH k X.A) (hj : j ≤ k) (hot : HotC X) (tk : Takes X W) : CallAt X W f sp := by
  obtain ⟨⟨fd, ps, F, hb⟩, _⟩ := F
  exact fun pins σ H s Q us vs I r h => run_fnH (E := WE W) F (hr.mono hj) hot hb (passAt tk σ) I r h
end MV
namespace MV
open PySem PySem.Spec PyProof.Rows L2 He
structure InsO (K : PySem.W.Frag) (c : Str) : Prop where
  ha : PySem.W.findIn K (.ref (ga K c)) "__class__" = some (some (.builtin "object.__class__"))
  hn : PySem.W.specialIn K (.builtin "object.__class__") "__get__" = some (some (.builtin "getset_descriptor.__get__"))
  htk : PySem.W.takesIn K (.builtin "object.__class__") = some true
  hm : PySem.W.mroIn K (ga K c) (.type "object") = some true
section
variable {K : PySem.W.Frag}
theorem insO_ok {c : Str} (h : (Fm.insO c).ok K = true) : InsO K c := by
  obtain ⟨h1, h⟩ := ba h
  obtain ⟨h2, h⟩ := ba h
  obtain ⟨h3, h4⟩ := ba h
  exact ⟨eqO_ok h1, eqO_ok h2, of_decide_eq_true h3, of_decide_eq_true h4⟩
structure KiA (K : PySem.W.Frag) (c : Str) : Prop where
  non : PySem.W.kitOne K (.type "NoneType") (.ref (ga K c)) = some false
  bl : PySem.W.kitOne K (.type "bool") (.ref (ga K c)) = some false
  int : PySem.W.kitOne K (.type "int") (.ref (ga K c)) = some false
  str : PySem.W.kitOne K (.type "str") (.ref (ga K c)) = some false
  lst : PySem.W.kitOne K (.type "list") (.ref (ga K c)) = some false
  tup : PySem.W.kitOne K (.type "tuple") (.ref (ga K c)) = some false
theorem kiA_ok {c : Str} (h : (Fm.kiA c).ok K = true) : KiA K c := by
  obtain ⟨h1, h⟩ := ba h
  obtain ⟨h2, h⟩ := ba h
  obtain ⟨h3, h⟩ := ba h
  obtain ⟨h4, h⟩ := ba h
  obtain ⟨h5, h6⟩ := ba h
  exact ⟨of_decide_eq_true h1, of_decide_eq_true h2, of_decide_eq_true h3, of_decide_eq_true h4, of_decide_eq_true h5, of_decide_eq_true h6⟩
def isIns (t : List (Str × Bool)) : Vl → Option Bool
  | .ins c _ => t.lookup c
  | .scr _ => none
  | .hole => none
  | _ => some false
def ITab (K : PySem.W.Frag) (u : Str) : List (Str × Bool) → Prop
  | [] => True
  | (c, b) :: r => (Cls K (ga K c) ∧ InsO K c ∧ PySem.W.kitOne K (.ref (ga K c)) (.ref (ga K u)) = some b) ∧ ITab K u r
theorem it_nil {u : Str} : ITab K u [] := True.intro
theorem it_cons {u c : Str} {b : Bool} {r : List (Str × Bool)} (h1 : Cls K (ga K c)) (h2 : (Fm.insO c).ok K = true) (h3 : PySem.W.kitOne K (.ref (ga K c)) (.ref (ga K u)) = some b) (h : ITab K u r) : ITab K u ((c, b) :: r) := ⟨⟨h1, insO_ok h2, h3⟩, h⟩
theorem ITab.look {u : Str} : ∀ {t : List (Str × Bool)} {c : Str} {b : Bool}, ITab K u t → t.lookup c = some b → Cls K (ga K c) ∧ InsO K c ∧ PySem.W.kitOne K (.ref (ga K c)) (.ref (ga K u)) = some b
  | [], _, _, _, e => by cases e
  | (c', b') :: r, c, b, ⟨h, hr⟩, e => by
    rw [List.lookup_cons] at e
    cases q : c == c' with
    | true =>
      rw [q] at e
      have e : b' = b := by injection e
      have q : c = c' := eq_of_beq q
      rw [q, ← e]; exact h
    | false => rw [q] at e; exact ITab.look hr e
theorem isOk_ins {u : Str} {t : List (Str × Bool)} (hA : (Fm.kiA u).ok K = true) (hT : ITab K u t) : IsOk K (.ref (ga K u)) (isIns t) := fun H d v b r e => by
  have A := kiA_ok hA
  cases d with
  | non => cases e; cases (show v = .non from r); exact ⟨_, .base .non, A.non⟩
  | bl x => cases e; cases (show v = .bl x from r); exact ⟨_, .base (.bl x), A.bl⟩
  | int x => cases e; cases (show v = .int x from r); exact ⟨_, .base (.int x), A.int⟩
  | str x => cases e; cases (show v = .str x from r); exact ⟨_, .base (.str x), A.str⟩
  | lst xs => cases e; obtain ⟨a, vs, rfl, g, _⟩ := r; exact ⟨_, .base (.lst g), A.lst⟩
  | tup xs => cases e; obtain ⟨a, vs, rfl, g, _⟩ := r; exact ⟨_, .base (.tup g), A.tup⟩
  | ins c fs =>
    obtain ⟨a, dx, ws, rfl, g, _⟩ := r
    obtain ⟨h1, h2, h3⟩ := hT.look (show t.lookup c = some b from e)
    exact ⟨_, .base (.ins g h1 h2.ha h2.hn h2.htk h2.hm), h3⟩
  | scr ns => cases e
  | hole => cases e
end
section
variable {X : Cx} {J : Jx} {W : WX} {a : Expr} {fa : Sem1} {qa : Bool} {p pos : Pos} {x : Str} {p2 : Pos}
theorem w_isiO {u : Str} {t : List (Str × Bool)} (hK : J.K = X.K) (hA : (Fm.kiA u).ok X.K = true) (hT : ITab X.K u t) (hm : X.mg "isinstance" = none) (hc : PE X (.Name x p2) (tC (.ref (ga X.K u)))) (ha : XE X J W a qa fa) (hg : Gl X "isinstance" := by rfl)
    (he : starEach [a, .Name x p2] X.env = (false, eval a X.env) :: starEach [.Name x p2] X.env := by rfl) (he2 : starEach [.Name x p2] X.env = (false, eval (.Name x p2) X.env) :: starEach [] X.env := by rfl) (hpl : (backTo pos (starEach [.Name x p2] X.env)).any (·.1) = false := by rfl) :
    XE X J W (.Call (.Name "isinstance" p) [a, .Name x p2] [] pos) qa (fOne fa (kIsi (isIns t))) := xe_isi hK (isOk_ins hA hT) (.own (ga X.K u)) hg hm (by decide +kernel) ha hc he he2 hpl
end
end MV
namespace MV
open PySem PySem.Spec PyProof.Rows L2 He
structure OwnI (K : PySem.W.Frag) (c m r : Str) : Prop where
  s : PySem.W.findIn K (.ref (ga K c)) m = some (some (.ref (ma K (ga K c) m)))
  f : PySem.W.isFn K (.ref (ma K (ga K c) m)) = true
  sf : PySem.W.selfFirst K (ga K c) = true
  rn : PySem.W.findIn K (.ref (ga K c)) r = some none
  h1 : ∃ fo, PySem.W.findIn K (.type "int") m = some fo
  h2 : ∃ ro, PySem.W.findIn K (.type "int") r = some ro
  sb : PySem.W.subIn K (.type "int") (.ref (ga K c)) = some false
end MV
namespace MV
open PySem PySem.Spec PyProof.Rows L2 He
section
variable {X : Cx} {J : Jx} {W : WX} {iter tg a b : Expr} {body : List Stmt} {pos p tpos : Pos} {q qa qb : Bool} {fa fb : Sem1} {es elts : List Expr} {σ : St} {ρ : En} {τ : List (Sv × V)}
def enmL (xs : List Vl) : List Sv := (List.range xs.length).map fun (k : Nat) => ⟨.shr, .tup [.int (k : Int), xs.getD k (.int 0)]⟩
theorem enmL_len {xs : List Vl} : (enmL xs).length = xs.length := by unfold enmL; rw [List.length_map, List.length_range]
theorem enmL_get {xs : List Vl} {k : Nat} {s : Sv} (h : (enmL xs)[k]? = some s) : ∃ d, xs[k]? = some d ∧ s = ⟨.shr, .tup [.int (k : Int), d]⟩ := by
  unfold enmL at h
  rw [List.getElem?_map] at h
  obtain ⟨j, hj, es⟩ := Option.map_eq_some_iff.mp h
  obtain ⟨h1, h2⟩ := List.getElem?_eq_some_iff.mp hj
  rw [List.getElem_range] at h2
  subst h2
  rw [List.length_range] at h1
  refine ⟨xs[k], List.getElem?_eq_getElem h1, ?_⟩
  rw [← es, List.getD_eq_getElem?_getD, List.getElem?_eq_getElem h1]; rfl
end
end MV
namespace MV
open PySem PySem.Spec PyProof.Rows L2 He
section
variable {X : Cx} {J : Jx} {W : WX} {o e : Expr} {pos apos : Pos} {qo qe : Bool} {fo fe : Sem1} {σ : St} {ρ : En} {τ : List (Sv × V)} {H : Hp} {name : Str}
def fStr1 (fo : Sem1) (k : Str → Sv → En → Rs Sv) (fe : Sem1) : Sem1 := fun ρ => bnd (fo ρ) fun s ρ1 => match s.d with
  | .str a => bnd (fe ρ1) (k a)
  | _ => .bad
theorem xe_str1 {r : V → List V → Hp → VK → Prop} {k : Str → Sv → En → Rs Sv} (hk : ∀ a ρ τ σ H t v Q, Iv J ρ ((t, v) :: τ) σ H → Out J W τ σ (k a t ρ) Q → r (.str a) [v] H Q)
    (hpe : L2.PE X (.Call (.Attribute o name apos) [e] [] pos) (tM1 r (tE J W qo fo) (tE J W qe fe))) : XE X J W (.Call (.Attribute o name apos) [e] [] pos) (qo && qe) (fStr1 fo k fe) := by
  refine ⟨hpe.imp fun σ H Q h => ?_⟩
  obtain ⟨ρ, τ, I, c, m⟩ := h
  refine ⟨ρ, τ, I, (qand c).1, ?_⟩
  unfold fStr1 at m
  cases z : fo ρ with
  | ok s ρ1 =>
    rw [z] at m
    rintro v H1 ⟨F, B, O, I1⟩
    obtain ⟨md, d⟩ := s
    cases d with
    | str a =>
      have hv : v = .str a := I1.top.rep I1.base
      subst hv
      refine ⟨⟨a, rfl⟩, ρ1, τ, ⟨F, B, O, I1.drop1⟩, (qand c).2, ?_⟩
      have m : Out J W τ σ (bnd (fe ρ1) (k a)) Q := m
      cases y : fe ρ1 with
      | ok t ρ2 =>
        rw [y] at m
        exact fun u H2 I2 => hk a ρ2 τ σ H2 t u Q I2 m
      | exc cc fs ρ2 => rw [y] at m; exact m
      | bad => rw [y] at m; exact m
    | _ => exact m.elim
  | exc cc fs ρ1 => rw [z] at m; exact m
  | bad => rw [z] at m; exact m
def kFind (a : Str) : Sv → En → Rs Sv := fun t ρ => match t.d with
  | .str b => .ok ⟨.shr, .int (Txt.find a b)⟩ ρ
  | _ => .bad
theorem w_find (ho : XE X J W o qo fo) (he : XE X J W e qe fe) (hs : starEach [e] X.env = [(false, eval e X.env)] := by rfl) (hbase : attributeBase o "find" X.env (eval o X.env) = eval o X.env := by rfl) (hline : (apos.endLine == pos.line) = true := by rfl) :
    XE X J W (.Call (.Attribute o "find" apos) [e] [] pos) (qo && qe) (fStr1 fo kFind fe) :=
  xe_str1 (fun a ρ τ σ H t v Q ⟨F, B, O, I⟩ m => by
    obtain ⟨md, d⟩ := t
    cases d with
    | str b =>
      have hv : v = .str b := I.top.rep I.base
      subst hv
      exact ⟨a, b, rfl, rfl, out_sc m ⟨F, B, O, I.drop1⟩ rfl rfl⟩
    | _ => exact m.elim) (pe_m1 PySem.F.slot_str_find PySem.F.type_str_find mt_find ho.pe he.pe hs hbase hline)
def strL (a : Str) : List Sv := a.cps.toList.map fun c => ⟨.shr, .str ⟨#[c]⟩⟩
def kItS : Sv → En → Rs (Bool × List Sv) := fun s ρ => match s.d with
  | .str a => .ok (true, strL a) ρ
  | _ => .bad
theorem strL_len {a : Str} : (strL a).length = a.cps.size := by unfold strL; rw [List.length_map, Array.length_toList]
theorem xi_str {tg iter : Expr} {qa : Bool} {fa : Sem1} (ha : XE X J W iter qa fa) : XI X J W tg iter qa (iSrc fa kItS) := by
  refine ⟨(pi_str ha.pe).imp fun σ H R h => ?_⟩
  obtain ⟨ρ, τ, I, c, m⟩ := h
  refine ⟨ρ, τ, I, c, outI_bnd (α := Unit) m fun s ρ1 m1 v H1 ⟨F, B, O, I1⟩ => ?_⟩
  obtain ⟨md, d⟩ := s
  cases d with
  | str a =>
    have hv : v = .str a := I1.top.rep I1.base
    subst hv
    refine ⟨a, rfl, m1 [] _ _ ⟨F, B, O, I1.drop1⟩ ⟨fun pre k ρ σ H hk _ => ?_, fun pre k ρ σ H hk _ => ?_, fun pre k s ρ σ H x H' hs I hy => ?_⟩ (fun _ x hx => absurd hx (by simp))⟩
    · have hk : k < (strL a).length := hk
      rw [strL_len] at hk
      exact hk
    · have hk : (strL a).length ≤ k := hk
      rw [strL_len] at hk
      exact hk
    · obtain ⟨e1, ch, hc, ex⟩ := hy
      subst e1 ex
      have hs : (strL a)[k]? = some s := hs
      unfold strL at hs
      rw [List.getElem?_map] at hs
      obtain ⟨j, hj, es⟩ := Option.map_eq_some_iff.mp hs
      rw [Array.getElem?_toList, hc] at hj
      cases hj
      subst es
      obtain ⟨F, B, O, I⟩ := I
      exact I.push (s := ⟨.shr, .str ⟨#[ch]⟩⟩) rfl
  | _ => exact m1.elim
theorem mulOk {a : Str} {k : Int} (h0 : 0 ≤ k) (h1 : k ≤ 1000) (h2 : a.length ≤ 1000) : PySem.MulOk a k := by
  refine ⟨?_, fun n1 _ => ?_, fun n1 _ => ?_⟩
  · rw [decide_eq_false (by omega), decide_eq_false (by omega)]; rfl
  · have : (1000 : Int) ≤ (2 ^ 63 - 1) / k := Int.le_ediv_of_mul_le (by omega) (by omega)
    omega
  · have : a.length * k.toNat ≤ 1000 * 1000 := Nat.mul_le_mul h2 (by omega)
    show decide (a.length * k.toNat > sizeLine) = false
    refine decide_eq_false fun y => ?_
    have : (1000 * 1000 : Nat) ≤ sizeLine := by decide
    omega
def kMulS : K2 := fun s t ρ => match s.d, t.d with
  | .str a, .int k => grd (decide (0 ≤ k ∧ k ≤ 1000 ∧ a.length ≤ 1000)) (.ok ⟨.shr, .str (PySem.Txt.mul a k)⟩ ρ)
  | _, _ => .bad
theorem op_mulS : OpR X (binaryOp .Mult) (fun x y H Q => ∃ a k, x = .str a ∧ y = .int k ∧ PySem.MulOk a k ∧ Q (.str (PySem.Txt.mul a k)) H) := by
  intro pins s σ H x y v u Q I rx ry h
  obtain ⟨a, k, rfl, rfl, hz, q⟩ := h
  obtain ⟨t, rfl⟩ := rx
  obtain ⟨t', rfl⟩ := ry
  exact PySem.SB.mul hz (fun t' tk => ⟨.str (PySem.Txt.mul a k), H, I.tok _, ⟨_, rfl⟩, q⟩)
theorem ok_mulS : Ok2 J W (fun x y H Q => ∃ a k, x = V.str a ∧ y = V.int k ∧ PySem.MulOk a k ∧ Q (.str (PySem.Txt.mul a k)) H) kMulS := by
  rintro ρ τ σ H ⟨ms, ds⟩ ⟨mt, dt⟩ v u Q ⟨F, B, O, I⟩ m
  cases ds with
  | str a =>
    cases dt with
    | int k =>
      obtain ⟨h, m⟩ := out_grd (b := decide (0 ≤ k ∧ k ≤ 1000 ∧ a.length ≤ 1000)) m
      obtain ⟨h0, h1, h2⟩ := of_decide_eq_true h
      exact ⟨a, k, I.drop1.top.rep I.base, I.top.rep I.base, mulOk h0 h1 h2, out_sc m ⟨F, B, O, I.drop1.drop1⟩ rfl rfl⟩
    | _ => exact m.elim
  | _ => cases dt <;> exact m.elim
theorem xe_mulS {a b : Expr} {qa qb : Bool} {fa fb : Sem1} (ha : XE X J W a qa fa) (hb : XE X J W b qb fb) : XE X J W (.BinOp a .Mult b pos) (qa && qb) (fTwo qb fa fb kMulS) := xe_op op_mulS ok_mulS ha hb
end
end MV
namespace L2
open PySem PySem.Spec PyProof.Rows
structure ItLC (K : PySem.W.Frag) (C fi fl : Addr) : Prop where
  it : PySem.W.findIn K (.ref C) "__iter__" = some (some (.ref fi))
  itF : PySem.W.isFn K (.ref fi) = true
  ln : PySem.W.findIn K (.ref C) "__len__" = some (some (.ref fl))
  lnF : PySem.W.isFn K (.ref fl) = true
end L2
namespace MV
open PySem PySem.Spec PyProof.Rows L2 He
theorem cx_false {P : Program} {w : World} (o : List Env) (H : Hp) (s : Shared) (e : Value) (s' : Shared) : ¬ L2N.CX P w o H s (fun _ _ _ => False) e s' := fun ⟨_, _, _, _, _, _, _, _, _, _, _, _, h⟩ => h
end MV
namespace L2
open PySem PySem.Spec PyProof.Rows
structure FnS (P : Program) (w : World) (K : PySem.W.Frag) (mg : Str → Option Value) (base : Heap) (k : Nat) (g : Addr) (fd : FuncData) (names : List Str) (sp : Nat → Sp) : Prop where
  len : ∀ z vs H Q E, sp z vs H Q E → vs.length = names.length
  run : ∀ (A : Around) (outer : List Env) (t : Shared) (H : Hp) (args : Args) (us : List Value) (vs : List V) (Q : VK) (E : XK), Room k A → Env0 P w K mg base A outer t H → BindsTo t fd args (names.zip us) → Vals vs us → sp t.heap.objs.size vs H Q E →
    codeAny (model P w) A (.call (.ref g) args) (CR (L2N.CX P w) outer P w H t Q E) t
theorem fn_ofS {P : Program} {w : World} {K : PySem.W.Frag} {mg : Str → Option Value} {base : Heap} {k : Nat} {g : Addr} {x qual : Str} {params : Arguments} {body : List Stmt} {scope : Scope} {dvs : List V} {kws : List (Str × V)} {fd : FuncData} {M names : List Str} {sp : Nat → Sp}
    (F : FunD K x qual params body scope dvs kws g fd) (S : FnScope M names scope) (len : ∀ z vs H Q E, sp z vs H Q E → vs.length = names.length)
    (hb : ∀ (cv : Value) (A : Around) (outer : List Env) (t : Shared) (H : Hp) (vs : List V) (Q : VK) (E : XK), Room k (A.deeper (envOfC qual scope t.heap.objs.size g cv)) → sp t.heap.objs.size vs H Q E →
      ∃ ts, PSs (cxOf (L2N.CX P w) P w K mg base M qual scope g cv A outer t H E) body ts ∧ ts { nx := fun _ H1 => Q .non H1, rt := Q } (start M vs) H) : FnS P w K mg base (k + 1) g fd names sp := by
  refine ⟨len, fun A outer t H args us vs Q E room env0 bnd rel hsp => ?_⟩
  -- at this one state it is a plain promise about this state alone
  obtain ⟨oc, od, dV, kV, doc, pm, an, cv, ct, osl, rfl, look, hcd, _, _⟩ := F.ex
  have hlen := len _ _ _ _ _ hsp
  have kin : K.In t.heap := env0.mod.kin.keeps fun b u e => (env0.bs b u e).1
  have nolim : t.heap.NoLimit := env0.mod.nolimit.keeps fun b u e => (env0.bs b u e).1
  have kinds : ∀ y ∈ names.zip us, scope.names.lookup y.1 = some .local ∨ (scope.names.lookup y.1 = some .cell ∧ ((cellsFrom (t.heap.objs.size + 1) scope.names []).lookup y.1).isSome = true) := by
    rintro ⟨m, v⟩ hy
    exact (S.par m (List.of_mem_zip hy).1).imp id fun q => ⟨q, PySem.W.cellsFrom_some _ _ _ (.inl q)⟩
  refine codeAny_call_function room.depth (kin _ _ look) rfl S.co S.gen rfl (PySem.W.codeRec_of kin hcd) (bnd _ _ _ _ ?_)
  refine wpAny_newFunctionEnv_cells S.kind kinds fun env he t1 inn => ?_
  subst he
  refine ⟨nolim.keeps inn.toInCall.keep, codeAny_func ?_⟩
  obtain ⟨ts, hts, hq⟩ := hb cv A outer t H vs Q E (room.deeper _) hsp
  have I : Inv (cxOf (L2N.CX P w) P w K mg base M qual scope g cv A outer t H E) [] (start M vs) H t1 := inv_start S room.hd env0 hlen rel inn
  refine wpAny_mono (hts.run [] t1 (start M vs) H _ I hq) (fun fl t2 z => ?_) fun _ _ z => z
  cases fl with
  | ret u => obtain ⟨v, σ1, H1, J, rv, q⟩ := z; exact ⟨v, H1, J.os, J.bare, J.base, J.hok, rv, q⟩
  | next => obtain ⟨σ1, H1, J, q⟩ := z; exact ⟨V.non, H1, J.os, J.bare, J.base, J.hok, rfl, q⟩
  | brk => obtain ⟨_, _, _, q⟩ := z; exact q.elim
  | cont => obtain ⟨_, _, _, q⟩ := z; exact q.elim
def spLnT (K : PySem.W.Frag) (C : Addr) (fld : Str) : Sp := fun vs H Q _ => ∃ a dx fs l zs, vs = [.ref a] ∧ H a = some (.ins C dx fs) ∧ fs.lookup fld = some (.ref l) ∧ H l = some (.tup zs) ∧ Q (.int (zs.length : Int)) H
section
variable {X : Cx} {C fi fl : Addr} {fdI : FuncData} {psI : List Str} {n : Nat} {fld : Str}
theorem fp_young {pins : List (Addr × Obj)} {σ : St} {H : Hp} {s : Shared} {it : Addr} {φ : Heap → Prop} (I : Inv X pins σ (upd H it (.ext φ)) s) (hn : H it = none) (hz : X.s_0.heap.objs.size ≤ it) : FpOk X pins H it ∧ Inv X pins σ H s := by
  have dr := ItX.dropH_upd (o := .ext φ) hn
  have f := ItX.inv_fp I upd_same hz
  have J := ItX.inv_drop I upd_same
  rw [dr] at f J
  exact ⟨f, J⟩
theorem cxf {P : Program} {w : World} (o : List Env) (H : Hp) (s : Shared) (e : Value) (s' : Shared) : ¬ L2N.CX P w o H s (fun _ _ _ => False) e s' := fun ⟨_, _, _, _, _, _, _, _, _, _, _, _, h⟩ => h
def rLenOT (C : Addr) (fld : Str) : List V → Hp → VK → Prop := fun xs H Q => ∃ a dx fs l zs, xs = [.ref a] ∧ H a = some (.ins C dx fs) ∧ fs.lookup fld = some (.ref l) ∧ H l = some (.tup zs) ∧ Q (.int (zs.length : Int)) H
theorem call_lenOT {fdL : FuncData} {psL : List Str} {CL : CXT} (hs : PySem.W.findIn X.K (.ref C) "__len__" = some (some (.ref fl))) (hsF : PySem.W.isFn X.K (.ref fl) = true)
    (FL : FnOk X.prog X.w X.K X.mg X.base CL n fl fdL psL (spLnT X.K C fld)) (bL : Binds X.K fdL psL []) (xL : ∀ o H s e s', ¬ CL o H s (fun _ _ _ => False) e s') (hr : Room (n + 1) X.A) : CallR X (.builtin "len") (rLenOT C fld) := by
  intro pins s σ H xs us Q I rv h
  obtain ⟨a, dx, fs, l, zs, rfl, ha, hfl, hl, hq⟩ := h
  obtain ⟨u, rfl, ru⟩ := rv.one
  cases ru
  have sb : Sub X (n + 1) X.A := ⟨hr, rfl⟩
  obtain ⟨mA, J, _⟩ := ins_get I.hok ha
  obtain ⟨od, J, _⟩ := J.look
  obtain ⟨m, hF⟩ := I.fr
  obtain ⟨its, rv2, pl, hz⟩ := I.tuple (SqT.of hl)
  have e0 : Env0 X.prog X.w X.K X.mg X.base X.A.in1 X.stack s H := by
    have e := I.env0
    exact ⟨by rw [sb.in1.fr]; exact e.frames, e.mod, e.bs, e.bsz, e.funs, e.frf, e.hok, e.bare⟩
  have hsp : spLnT X.K C fld [.ref a] H (fun v H' => v = .int (zs.length : Int) ∧ H' = H) (fun _ _ _ => False) := ⟨a, dx, fs, l, zs, rfl, ha, hfl, hl, rfl, rfl⟩
  have hlen := FL.len _ _ _ _ hsp
  have r2 : Vals [V.ref a] [Value.ref a] := .cons rfl .nil
  refine PySem.W.len_K hF I.ok.mod.kin J hs hsF (wpAny_call (codeAny_mono (FL.run X.A.in1 X.stack s H ⟨[.ref a], []⟩ [.ref a] [.ref a] _ _ sb.in1.room e0 (by
    have := bL s [.ref a] I.kIn (by simpa using hlen)
    simpa using this) r2 hsp) fun r s' hq' => ?_))
  cases r with
  | error e => exact absurd hq' (xL _ _ _ _ _)
  | ok fl' =>
    cases fl' with
    | next => exact False.elim hq'
    | brk => exact False.elim hq'
    | cont => exact False.elim hq'
    | ret u =>
      obtain ⟨v, H', I', rv', ev, eH⟩ := I.after hq'
      subst ev
      rw [eH] at I'
      obtain ⟨t, rfl⟩ := rv'
      exact ⟨⟨by omega, by rw [sizeLine_eq] at hz; omega⟩, .int _, H, I'.tok _, ⟨_, rfl⟩, hq⟩
end
end L2
namespace MV
open PySem PySem.Spec PyProof.Rows L2 He
structure FnCS (P : Program) (w : World) (K : PySem.W.Frag) (mg : Str → Option Value) (base : Heap) (k : Nat) (f : Addr) (sp : Nat → Sp) : Prop where
  ex : ∃ fd ps, FnS P w K mg base k f fd ps sp ∧ Binds K fd ps []
  kp : PySem.W.keepIn K (.ref f) = true
section
variable {P : Program} {w : World} {K : PySem.W.Frag} {mg : Str → Option Value} {base : Heap} {qual : Str} {params : Arguments} {scope : Scope} {dvs : List V} {kws : List (Str × V)} {f : Addr} {fd : FuncData} {k : Nat} {name c fld : Str} {p1 p2 p3 p4 p5 : Pos}
theorem fn_lenT (F : FunD K name qual params [.Return (some (.Call (.Name "len" p1) [.Attribute (.Name "self" p2) fld p3] [] p4)) p5] scope dvs kws f fd) (S : FnScope ["self"] ["self"] scope) (v1 : Vis scope "self") (hf : FldOk K [c] fld) (hm : mg "len" = none)
    (hg : ∀ (cdv : Value) (A : Around) (outer : List Env) (s : Shared) (H : Hp) (E : XK), Gl (cxOf (L2N.CX P w) P w K mg base ["self"] qual scope f cdv A outer s H E) "len" := by intros; rfl) : FnOk P w K mg base (L2N.CX P w) (k + 1) f fd ["self"] (spLnT K (ga K c) fld) := by
  obtain ⟨hC, hN⟩ := hf.ok c (by simp)
  refine F.ok S (fun vs H Q E h => ?_) fun cdv A outer s H vs Q E hr h => ?_
  · obtain ⟨a, dx, fs, l, zs, e, _⟩ := h
    rw [e]; rfl
  · obtain ⟨a, dx, fs, l, zs, rfl, ha, hfl, hl, q⟩ := h
    refine ⟨_, pss_cons (ps_ret (pe_callB call_len (hg cdv A outer s H E) hm (by decide +kernel) (pa_cons (pe_fld (pe_var (i := 0) rfl v1 (by decide) (by decide)) rfl) pa_nil rfl) (by decide) (by decide) rfl rfl)) pss_nil, ?_⟩
    exact ⟨V.ref a, rfl, a, ga K c, dx, fs, .ref l, rfl, ha, hC, hN, hfl, .ref l, zs.length, rfl, .inr ⟨zs, SqT.of hl, rfl⟩, q⟩
end
def kLnT : K1 := fun t ρ => match t.d with
  | .tup xs => .ok ⟨.shr, .int (xs.length : Int)⟩ ρ
  | _ => .bad
def kLenOT (c fld : Str) : K1 := fun s ρ => bnd (kFld fld [c] s ρ) kLnT
section
variable {X : Cx} {J : Jx} {W : WX} {a : Expr} {qa : Bool} {fa : Sem1} {p pos : Pos}
theorem ok_lenOT {c fld : Str} (hK : J.K = X.K) : Ok1 J W (fun v => rLenOT (ga X.K c) fld [v]) (kLenOT c fld) := by
  rintro ρ τ σ H ⟨md, d⟩ v Q ⟨F, B, O, I⟩ m
  cases d with
  | ins c' fs =>
    unfold kLenOT kFld at m
    dsimp only at m
    by_cases hcc : c' ∈ [c]
    · rw [decide_eq_true hcc] at m
      have hcc : c' = c := List.mem_singleton.mp hcc
      subst hcc
      obtain ⟨q, dx, ws, e, g, r⟩ := I.top.ins I.base
      cases z : fs.lookup fld with
      | none => rw [z] at m; exact m.elim
      | some d =>
        rw [z] at m
        obtain ⟨w, w1, w2⟩ := r.look z
        obtain ⟨F2, B2, O2, I2⟩ := I.drop1.push ((reg_kid w2 H).mk I.drop1.base)
        have m : Out J W τ σ (kLnT (mk md.kid d) ρ) Q := m
        cases d with
        | tup xs =>
          have m : Out J W τ σ (.ok ⟨.shr, .int (xs.length : Int)⟩ ρ) Q := m
          obtain ⟨l, vs, e2, g2, r2⟩ := I2.top.tup I2.base
          rw [hK] at g
          exact ⟨q, dx, ws, l, vs, by rw [e], g, by rw [w1, e2], g2, by rw [r2.len]; exact out_sc m ⟨F2, B2, O2, I2.drop1⟩ rfl rfl⟩
        | _ => exact m.elim
    · rw [decide_eq_false hcc] at m
      exact m.elim
  | _ => exact m.elim
theorem w_lenOT {c fld : Str} {fl : Addr} {j k : Nat} (FL : FnC X.prog X.w X.K X.mg X.base j fl (spLnT X.K (ga X.K c) fld)) (SL : PySem.W.findIn X.K (.ref (ga X.K c)) "__len__" = some (some (.ref fl)) ∧ PySem.W.isFn X.K (.ref fl) = true ∧ PySem.W.selfFirst X.K (ga X.K c) = true) (hm : X.mg "len" = none) (hr : Room k X.A) (hK : J.K = X.K)
    (ha : XE X J W a qa fa) (hj : j + 1 ≤ k := by decide) (hg : Gl X "len" := by rfl) (he : starEach [a] X.env = (false, eval a X.env) :: starEach [] X.env := by rfl) (hpl : (backTo pos (starEach [] X.env)).any (·.1) = false := by rfl) :
    XE X J W (.Call (.Name "len" p) [a] [] pos) qa (fOne fa (kLenOT c fld)) := by
  obtain ⟨⟨fdL, psL, FL, bL⟩, _⟩ := FL
  have hk : (k - 1) + 1 = k := by omega
  exact xe_bi1 (call_lenOT (n := k - 1) SL.1 SL.2.1 (FL.mono (by omega)) bL cx_false (by rw [hk]; exact hr)) (ok_lenOT hK) hg hm boot_len ha (by decide) (by decide) he hpl
end
end MV
namespace MV
open PySem PySem.Spec PyProof.Rows L2 He
section
variable {X : Cx} {J : Jx} {W : WX} {pm : List PM} {rm : Bool} {fn : Fn} {q qo qb : Bool} {σ : St} {H : Hp} {Q : VK} {τ τ1 τ2 : List (Sv × V)} {ρ : En} {F B : Hp} {O : Addr → Option Ow}
def strA (ρ : En) (a : Ar) : Bool := match arV ρ a with
  | some ⟨_, .str _⟩ => true
  | _ => false
theorem strA_at {a : Ar} {v : V} {τ' : List (Sv × V)} (h : strA ρ a = true) (k : Stk σ [a] [v] τ τ') (I : Iv J ρ τ' σ H) : ∃ y, v = .str y := by
  obtain ⟨F, B, O, I⟩ := I
  have key : ∀ {s : Sv} {ow : Ow}, SR J F B H O ow s v → arV ρ a = some s → ∃ y, v = .str y := fun {s ow} r e => by
    unfold strA at h
    rw [e] at h
    obtain ⟨md, d⟩ := s
    cases d with
    | str x => exact ⟨x, r.rep I.base⟩
    | _ => cases h
  cases a with
  | ex s =>
    rw [show τ' = (s, v) :: τ from k] at I
    exact key I.top rfl
  | sl i =>
    obtain ⟨k1, k2⟩ := (show σ[i]? = some (some v) ∧ τ' = τ from k)
    subst k2
    cases e : ρ[i]? with
    | none => unfold strA at h; rw [arV_sl, e] at h; cases h
    | some so =>
      cases so with
      | none => unfold strA at h; rw [arV_sl, e] at h; cases h
      | some s =>
        obtain ⟨_, v', e1, r⟩ := I.slot i s e
        rw [k1] at e1
        cases e1
        exact key r (by rw [arV_sl, e])
def fOp2S (c m : Str) (pm : List PM) (rm : Bool) (fn : Fn) (fo fb : SemR) : Sem1 := fun ρ => bnd (fo ρ) fun a ρ1 => grd (ntA a) (bnd (fb ρ1) fun b ρ2 => grd (clsOk c m ρ2 a && strA ρ2 b) (kCall pm rm fn [a, b] ρ2))
theorem tOp2S {c m : Str} {fo fb : SemR} {to tb : TE} (h : ∃ ρ τ, Iv J ρ τ σ H ∧ (false = true ∨ NoTmp τ) ∧ Out J W τ σ (fOp2S c m pm rm fn fo fb ρ) Q) (hto : ∀ σ H Q, (∃ ρ τ, Iv J ρ τ σ H ∧ (qo = true ∨ NoTmp τ) ∧ OutR J W τ σ (fo ρ) Q) → to σ H Q) (htb : ∀ σ H Q, (∃ ρ τ, Iv J ρ τ σ H ∧ (qb = true ∨ NoTmp τ) ∧ OutR J W τ σ (fb ρ) Q) → tb σ H Q) :
    to σ H fun x H1 => tb σ H1 fun y H2 => ∃ a dx ws b, x = .ref a ∧ y = .str b ∧ H2 a = some (.ins (He.ga J.K c) dx ws) ∧ spF J.K pm rm fn [x, y] H2 Q (WE W σ) := by
  obtain ⟨ρ, τ, I, c0, m0⟩ := h
  have nt : NoTmp τ := c0.elim (fun z => nomatch z) id
  refine hto _ _ _ ⟨ρ, τ, I, .inr nt, ?_⟩
  unfold fOp2S at m0
  cases e : fo ρ with
  | ok a ρ1 =>
    rw [e] at m0
    intro v τ1 H1 k1 I1
    obtain ⟨ha, m1⟩ := out_grd (b := ntA a) m0
    refine htb _ _ _ ⟨ρ1, τ1, I1, .inr (ntA_ok ha k1 nt), ?_⟩
    cases e2 : fb ρ1 with
    | ok b ρ2 =>
      rw [e2] at m1
      intro u τ2 H2 k2 I2
      obtain ⟨hc, m2⟩ := out_grd (b := clsOk c m ρ2 a && strA ρ2 b) m1
      obtain ⟨hc1, hc2⟩ := Bool.and_eq_true_iff.mp hc
      obtain ⟨x, dx, ws, z1, z2⟩ := clsOk_below hc1 k1 k2 I2
      obtain ⟨y, z3⟩ := strA_at hc2 k2 I2
      exact ⟨x, dx, ws, y, z1, z3, z2, call_sp nt (stk_cons k1 k2) I2 m2⟩
    | exc cc fs ρ2 => rw [e2] at m1; exact m1
    | bad => rw [e2] at m1; exact m1
  | exc cc fs ρ1 => rw [e] at m0; exact m0
  | bad => rw [e] at m0; exact m0
theorem w_ownCS {c dn : Str} {op : CmpOp} {a b : Expr} {fo fb : SemR} {pos : Pos} {f : Addr} {j k : Nat} (Fc : FnC X.prog X.w X.K X.mg X.base j f (spF X.K pm rm fn)) (S : PySem.W.findIn X.K (.ref (ga X.K c)) dn = some (some (.ref f)) ∧ PySem.W.isFn X.K (.ref f) = true ∧ PySem.W.selfFirst X.K (ga X.K c) = true) (hr : Room k X.A) (tk : Takes X W) (hK : J.K = X.K)
    (ho : XR X J W a qo fo) (hb : XR X J W b qb fb) (hj : j ≤ k := by decide) (hd : (cmpInfo op).2.1 = dn := by rfl) (hplain : op ≠ .Is ∧ op ≠ .IsNot ∧ op ≠ .In ∧ op ≠ .NotIn := by decide) (hm : behindInMarks op b = false := by rfl) : XE X J W (.Compare a [op] [b] pos) false (fOp2S c dn pm rm fn fo fb) := by
  have hu : X.A.units < cLine := by have := hr.un; omega
  have hc := Fc.at hr hj tk
  refine ⟨⟨fun pins s σ H Q I h => ?_⟩⟩
  refine wpAny_Compare1 (binT ho.pe hb.pe I (tOp2S h (fun _ _ _ z => z) fun _ _ _ z => z) fun v u s2 x y H2 I2 rx ry qq => ?_) hm
  obtain ⟨a', dx, ws, b', rfl, rfl, ha, q⟩ := qq
  cases rx
  obtain ⟨t, ry⟩ := (show ∃ t, u = Value.str b' t from ry)
  subst ry
  rw [hK] at ha q
  subst hd
  obtain ⟨mA, Ja, _⟩ := ins_get I2.hok ha
  obtain ⟨od, Ja, _⟩ := Ja.look
  obtain ⟨m, hF⟩ := I2.fr
  have tb : PySem.W.Looks (model X.prog X.w) s2.heap (typeOf (.str b' t)) (.type "str") := .now
  have sub : PySem.W.subIn X.K (.type "str") (.ref (ga X.K c)) = some false := by first | rfl | kernel_rfl
  rw [cmp_plain hplain]
  exact PySem.W.cmp_K hu hF I2.ok.mod.kin Ja tb (by simp [PySem.W.notFirst, sub]) S.1 S.2.1 (wpAny_mono (hc _ _ _ _ _ [.ref a', .str b' t] [.ref a', .str b'] I2 (.cons rfl (.cons ⟨t, rfl⟩ .nil)) q) (fun _ _ z => back_ok z) fun _ _ z => z)
end
section
variable {X : Cx} {J : Jx} {W : WX} {σ : St} {H : Hp} {τ : List (Sv × V)} {ρ : En} {c a iter tg : Expr} {body orelse : List Stmt} {st : Stmt} {f g : SemS} {gc : SemB} {fa : Sem1} {q : Bool} {pos : Pos}
def tSq (J : Jx) (W : WX) (f : SemS) : TS := fun D σ H => ∃ ρ τ, Iv J ρ τ σ H ∧ OutS J W τ (f ρ) D
structure XSq (X : Cx) (J : Jx) (W : WX) (st : Stmt) (f : SemS) : Prop where
  ps : PS X st (tSq J W f)
structure XBq (X : Cx) (J : Jx) (W : WX) (sts : List Stmt) (f : SemS) : Prop where
  pss : PSs X sts (tSq J W f)
end
end MV
namespace MV
open PySem PySem.Spec PyProof.Rows L2 He
mutual
/-- no list within -/
def lf : Vl → Bool
  | .lst _ => false
  | .scr _ => false
  | .tup xs => lfs xs
  | .ins _ fs => lff fs
  | _ => true
def lfs : List Vl → Bool
  | [] => true
  | x :: xs => lf x && lfs xs
def lff : List (Str × Vl) → Bool
  | [] => true
  | (_, x) :: xs => lf x && lff xs
end
def NL (G : Hp) : Hp := fun b => match G b with
  | some (.lst _) => none
  | o => o
def NoL (G : Hp) : Prop := ∀ b vs, G b ≠ some (.lst vs)
theorem nl_sub {G : Hp} : Sub (NL G) G := fun b o e => by
  unfold NL at e
  split at e
  · cases e
  · exact e
theorem nl_at {G : Hp} {b : Addr} {o : HO} (h : G b = some o) (n : ∀ vs, o ≠ .lst vs) : NL G b = some o := by
  unfold NL
  rw [h]
  cases o <;> first | rfl | exact absurd rfl (n _)
mutual
theorem rep_nl {K : PySem.W.Frag} {G : Hp} : ∀ {d : Vl} {v : V}, lf d = true → Rep K G d v → Rep K (NL G) d v
  | .non, _, _, h => h
  | .bl _, _, _, h => h
  | .int _, _, _, h => h
  | .str _, _, _, h => h
  | .hole, _, _, h => h
  | .lst _, _, q, _ => by simp [lf] at q
  | .scr _, _, q, _ => by simp [lf] at q
  | .tup xs, v, q, ⟨a, vs, e, g, r⟩ => ⟨a, vs, e, nl_at g (fun _ z => nomatch z), repL_nl (by simpa [lf] using q) r⟩
  | .ins c fs, v, q, ⟨a, dx, ws, e, g, r⟩ => ⟨a, dx, ws, e, nl_at g (fun _ z => nomatch z), repF_nl (by simpa [lf] using q) r⟩
theorem repL_nl {K : PySem.W.Frag} {G : Hp} : ∀ {xs : List Vl} {vs : List V}, lfs xs = true → RepL K G xs vs → RepL K (NL G) xs vs
  | [], _, _, h => h
  | x :: xs, _, q, ⟨v, r, e, h, t⟩ => by
    simp only [lfs, Bool.and_eq_true] at q
    exact ⟨v, r, e, rep_nl q.1 h, repL_nl q.2 t⟩
theorem repF_nl {K : PySem.W.Frag} {G : Hp} : ∀ {xs : List (Str × Vl)} {vs : List (Str × V)}, lff xs = true → RepF K G xs vs → RepF K (NL G) xs vs
  | [], _, _, h => h
  | (f, x) :: xs, _, q, ⟨v, r, e, h, t⟩ => by
    simp only [lff, Bool.and_eq_true] at q
    exact ⟨v, r, e, rep_nl q.1 h, repF_nl q.2 t⟩
end
def hl (x : Vl) : Vl := if lf x = true then x else .hole
def wkS (s : Sv) : Option Sv := match s.m with
  | .bor => some s
  | .shr => (match s.d with
    | .tup xs => some ⟨.shr, .tup (xs.map hl)⟩
    | d => if lf d = true then some s else none)
  | .own => (match s.d with
    | .lst xs => some ⟨.own, .lst (xs.map hl)⟩
    | .ins c fs => some ⟨.own, .ins c (fs.map fun p => (p.1, hl p.2))⟩
    | _ => none)
  | _ => none
def pkE (ρ : En) : En := ρ.map fun o => o.bind wkS
end MV
namespace MV
open PySem PySem.Spec PyProof.Rows L2 He
def demS (s : Sv) : Option Sv := match s.m with
  | .bor => some s
  | .shr => if lf s.d = true then some s else some ⟨.bor, s.d⟩
  | .own => some ⟨.bor, s.d⟩
  | _ => none
def demE (ρ : En) : En := ρ.map fun o => o.bind demS
theorem demE_get {ρ : En} {i : Nat} {s : Sv} (h : (demE ρ)[i]? = some (some s)) : ∃ t, ρ[i]? = some (some t) ∧ demS t = some s := by
  unfold demE at h
  rw [List.getElem?_map] at h
  cases e : ρ[i]? with
  | none => rw [e] at h; cases h
  | some o =>
    rw [e] at h
    cases o with
    | none => cases h
    | some t => exact ⟨t, rfl, by injection h⟩
def offE (ρ : En) : En := ρ.map fun _ => none
section
variable {X : Cx} {J : Jx} {W : WX} {sts : List Stmt} {f : SemS} {σ : St} {ρ : En} {H : Hp}
def Jx.anew (J : Jx) (F H : Hp) : Jx := ⟨J.K, H, NL F, [], none⟩
theorem anew_B0 {F : Hp} : (J.anew F H).B0 = (J.anew F H).H0 := by
  funext b
  unfold Jx.B0
  rw [if_neg (by show b ∉ ([] : List (Nat × Addr)).map _; simp)]
theorem IvW.anew {F B : Hp} {O : Addr → Option Ow} (hio : J.ios = []) (I : IvW J F B O ρ [] σ H) : Iv (J.anew F H) (demE ρ) [] σ H := by
  have io : J.io = [] := by show J.ios.map _ = []; rw [hio]; rfl
  have subF : Sub F (J.anew F H).B0 := fun b o e => by
    rw [anew_B0]
    have gB := I.base.fb _ _ e
    exact I.base.bh _ _ gB
  have subB0 : Sub J.B0 (J.anew F H).B0 := fun b o e => by
    rw [anew_B0]
    exact I.base.b0h _ _ e
  refine ⟨NL F, B, O, ⟨fun b o e => I.base.fb _ _ (nl_sub _ _ e), I.base.bh, fun b o e => e, fun b o e => .inl e, fun b o e _ => ?_, fun b hb => ?_⟩, ⟨?_, fun i v e => by cases e⟩, fun i s e => ?_, trivial⟩
  · exact e
  · have hb : b ∈ ([] : List (Nat × Addr)).map (·.2) := hb
    simp at hb
  · unfold demE
    rw [List.length_map]; exact I.len.eq
  · obtain ⟨t, e1, e2⟩ := demE_get e
    obtain ⟨nt, v, e3, r⟩ := I.slot i t e1
    obtain ⟨m, d⟩ := t
    cases m with
    | bor =>
      cases e2
      exact ⟨nt, v, e3, Rep.mono subB0 r⟩
    | shr =>
      have e2 : (if lf d = true then some (⟨.shr, d⟩ : Sv) else some ⟨.bor, d⟩) = some s := e2
      by_cases z : lf d = true
      · rw [if_pos z] at e2
        cases e2
        exact ⟨nt, v, e3, rep_nl z r⟩
      · rw [if_neg z] at e2
        cases e2
        exact ⟨(fun y => nomatch y), v, e3, Rep.mono subF r⟩
    | tmp => exact absurd rfl nt
    | io => cases e2
    | own =>
      obtain ⟨a, o, ev, g2, r2, qo, n, z0⟩ := r
      cases e2
      refine ⟨(fun y => nomatch y), v, e3, ?_⟩
      subst ev
      refine r2.rep subF ?_
      rw [anew_B0]
      exact g2
theorem offE_get {ρ : En} {i : Nat} {s : Sv} (h : (offE ρ)[i]? = some (some s)) : False := by
  unfold offE at h
  rw [List.getElem?_map] at h
  cases e : ρ[i]? with
  | none => rw [e] at h; cases h
  | some o => rw [e] at h; cases h
theorem IvW.back {F B F2 B2 H2 : Hp} {O2 : Addr → Option Ow} {ρ2 : En} {σ2 : St} {τ : List (Sv × V)} (hio : J.ios = []) (hfx : J.fx = none) (hF0 : NoL J.F0) (I : Base J F B H) (I2 : IvW (J.anew F H) F2 B2 O2 ρ2 τ σ2 H2) : IvW J F2 B2 O2 (offE ρ2) [] σ2 H2 := by
  have io : J.io = [] := by show J.ios.map _ = []; rw [hio]; rfl
  refine ⟨⟨I2.base.fb, I2.base.bh, fun b o e => ?_, fun b o e => ?_, fun b o e n => ?_, fun b hb => ?_⟩, ⟨?_, fun i v e => by rw [hfx] at e; cases e⟩, fun i s e => (offE_get e).elim, trivial⟩
  · exact I2.base.f0 _ _ (show NL F b = some o from nl_at (I.f0 _ _ e) fun vs z => hF0 b vs (by rw [e, z]))
  · rcases I2.base.new b o e with z | z
    · exact I.new b o (nl_sub _ _ (show NL F b = some o from z))
    · exact .inr (I.freeH0 z)
  · refine I2.base.keep b o (I.keep b o e n) ?_
    show b ∉ ([] : List (Nat × Addr)).map _
    simp
  · rw [io] at hb; cases hb
  · unfold offE
    rw [List.length_map]; exact I2.len.eq
end
end MV
namespace MV
open PySem PySem.Spec PyProof.Rows L2 He
def IteS (x : Str) : It :=
  ⟨fun i _ => i < x.cps.size, fun i H v H' => ∃ T c, v = .ref T ∧ H T = none ∧ x.cps[i]? = some c ∧ H' = upd H T (.tup [.int (i : Nat), .str ⟨#[c]⟩]), fun i _ => x.cps.size ≤ i⟩
theorem enum_endS {prog : Program} {w : World} {A : Around} {E : Value → Shared → Prop} {s : Shared} {e it : Addr} {x : Str} {t : Tok} {j : Int} {i : Nat} {old : Value} {Q : Option Value → Shared → Prop} (hh : A.handled = none)
    (he : IsEnum s.heap e it j old) (hit : s.heap.IsStrIter it (strIterType x) x t i) (hx : x.cps[i]? = none)
    (hQ : ∀ h', Heap.ExtBut it s.heap h' → Q none { s with heap := h' }) : wpAny (model prog w) A (pyNext (.ref e)) Q E s := by
  have hT : s.TypeIs (.ref e) "enumerate" := ⟨_, he, rfl⟩
  unfold pyNext
  refine wpAny_bind (wpAny_attempt (wpAny_callSpecial?_slot (name := Str.ofString "__next__") hT F.slot_enumerate_next
    (wpAny_call_entry F.slot_enumerate_next hT F.entry_enumerate_next ?_ (F.args_enumerate_next_1 _))))
  show wpAny _ _ (field (.ref e) 2 >>= _) _ _ _
  refine wpAny_bind (wpAny_field he rfl (x := .ref it) rfl ?_)
  cases ha : x.cps.all (· < 128)
  · have hit' : s.heap.IsStrIter it "str_iterator" x t i := by simpa [strIterType, ha] using hit
    refine wpAny_bind (wpAny_nextOf_wide_end (A := A.in1) hh hit' hx fun h' x' he' hx' => ?_)
    obtain ⟨o, ho, hc⟩ := hx'
    refine wpAny_bind (wpAny_isInstance (T := "StopIteration") (b := true) ⟨o, ho, hc⟩ isSubtype_stop ?_)
    exact wpAny_pure (hQ _ he')
  · have hit' : s.heap.IsStrIter it "str_ascii_iterator" x t i := by simpa [strIterType, ha] using hit
    refine wpAny_bind (wpAny_nextOf_ascii_end (A := A.in1) hh hit' hx fun h' x' he' hx' => ?_)
    obtain ⟨o, ho, hc⟩ := hx'
    refine wpAny_bind (wpAny_isInstance (T := "StopIteration") (b := true) ⟨o, ho, hc⟩ isSubtype_stop ?_)
    exact wpAny_pure (hQ _ he')
theorem turn_enumS {P : Program} {w : World} {K : PySem.W.Frag} {elts : List Expr} {kk : Nat} {tpos : Pos} (e it : Addr) (x : Str) (t : Tok) :
    Turn P w K (.Tuple elts kk tpos) (IteS x) [e, it] e (fun i h => (∃ old, IsEnum h e it ((i : Nat) : Int) old) ∧ h.IsStrIter it (strIterType x) x t i ∧ e ≠ it) where
  mem := by simp
  obj := fun i h st b hb => by
    obtain ⟨⟨old, he⟩, ⟨o, ho, hc, hd⟩, _⟩ := st
    have e' : b = e ∨ b = it := by simpa using hb
    rcases e' with z | z
    · rw [z]; exact ⟨_, he, fun v q => nomatch q⟩
    · rw [z]; exact ⟨o, ho, fun v q => by rw [hd] at q; cases q⟩
  keep := fun i h h' st k => let ⟨⟨old, he⟩, ⟨o, ho, r⟩, hne⟩ := st; ⟨⟨old, k e (by simp) _ he⟩, ⟨o, k it (by simp) o ho, r⟩, hne⟩
  item := by
    intro X hP hw hK hc i pins s σ H E I hf st hg
    subst hP hw hK
    obtain ⟨⟨old, he⟩, hit, hne⟩ := st
    have hel : e < s.heap.objs.size := Heap.lt_size he
    have hil : it < s.heap.objs.size := by obtain ⟨_, q, _⟩ := hit; exact Heap.lt_size q
    have D : Draws X.prog X.w X.A.in1 it [it] x.cps.size (fun i v => ∃ c u, x.cps[i]? = some c ∧ v = .str ⟨#[c]⟩ u) (fun i h => h.IsStrIter it (strIterType x) x t i) := Draws.text (A := X.A.in1) (I.ok.hd hc) it x t
    refine wpAny_pyNext_enum_itemD D he hit hg hne (by simpa using hne) fun y h' tk hy ho hit' hT hsz hk => ?_
    obtain ⟨c, u, hcx, rfl⟩ := hy
    refine ⟨_, rfl, wpAny_letOwnedTupleGo_enum (s := { s with heap := h', toks := tk + 1 }) ho fun h'' he' sb => ?_⟩
    have hT2 : h''.get? s.heap.objs.size = some { cls := .type "tuple", data := .seq #[.int i tk, .str ⟨#[c]⟩ u] } := (sb.2 _ (Nat.ne_of_gt hel)).trans hT
    have new : ObjOk X.prog X.w (upd H s.heap.objs.size (.tup [.int (i : Nat), .str ⟨#[c]⟩])) h'' s.heap.objs.size (.tup [.int (i : Nat), .str ⟨#[c]⟩]) :=
      ⟨by show 2 ≤ sizeLine; decide, [.int i tk, .str ⟨#[c]⟩ u], .cons ⟨_, rfl⟩ (.cons ⟨u, rfl⟩ .nil), ⟨_, hT2, rfl, _, rfl⟩⟩
    have I1 : Inv X pins σ (upd H s.heap.objs.size (.tup [.int (i : Nat), .str ⟨#[c]⟩])) { s with heap := h'', toks := tk + 1 } :=
      I.turnedNew (ch := [e, it]) (fun b ob hb q => (sb.2 b (fun z => hb (by simp [z]))).trans (hk b ob (fun z => hb (by simp [z])) (fun z => hb (by simp [z])) q)) hf (Nat.le_refl _) new
    refine ⟨.ref s.heap.objs.size, _, I1, rfl, ⟨_, c, rfl, I.hok.fresh (Nat.le_refl _), hcx, rfl⟩, ⟨⟨.str ⟨#[c]⟩ u, ?_⟩, ?_, hne⟩, fun b hb => ?_⟩
    · have e1 : ((i + 1 : Nat) : Int) = (i : Int) + 1 := by omega
      rw [e1]; exact he'
    · obtain ⟨o, ho2, r⟩ := hit'
      exact ⟨o, (sb.2 it (Ne.symm hne)).trans ho2, r⟩
    · have hb' : b < s.heap.objs.size := by
        have e' : b = e ∨ b = it := by simpa using hb
        rcases e' with z | z
        · rw [z]; exact hel
        · rw [z]; exact hil
      rw [upd_ne (Nat.ne_of_lt hb')]
      exact (hf b hb).1
  done := by
    intro X hP hw hK hc i pins s σ H E I hf st hg
    subst hP hw hK
    obtain ⟨⟨old, he⟩, hit, hne⟩ := st
    obtain ⟨f0, f1, f2, f3, f4, f5⟩ := hf it (by simp)
    have hx : x.cps[i]? = none := Array.getElem?_eq_none hg
    exact enum_endS (I.ok.hd hc) he hit hx fun h' eb => ⟨rfl, I.turned (t' := s.toks) (fun b o hb q => eb b o hb q) f0 f1 f3 f4 f5⟩
  self := fun A i s Q E st h => let ⟨⟨_, he⟩, _⟩ := st; wpAny_pyIter_enum he h
def iEnumS (ta : TA) : TI := fun σ H R => ta σ H fun vs H1 => ∃ x, vs = [.str x] ∧ R (IteS x) H1
theorem pi_enumS {X : Cx} {e : Expr} {ta : TA} {p pos tpos : Pos} {elts : List Expr} {kk : Nat} (hg : Gl X "enumerate") (hm : X.mg "enumerate" = none) (ha : PA X [e] ta) (hs : starEach [e] X.env = [(false, eval e X.env)] := by rfl) :
    PI X (.Tuple elts kk tpos) (.Call (.Name "enumerate" p) [e] [] pos) (iEnumS ta) := by
  refine ⟨fun pins s σ H R I h => ?_⟩
  refine Call_ (ld_blt I hg hm boot_enumerate (PyProof.Rows.callWith_type1 (thn (ha.run pos pins s σ H _ I h) fun us s1 ⟨vs, H1, I1, r1, q1⟩ => ?_) hs rfl))
  obtain ⟨x, ex, q⟩ := q1
  subst ex
  cases r1 with
  | cons r rr =>
    cases rr
    obtain ⟨t, rfl⟩ := r
    refine call_enumerate_str fun h' he hit hsz hk => wpAny_pyIter_enum he ?_
    have I2 : Inv X pins σ H1 { s1 with heap := h' } := I1.kept (t' := s1.toks) hk
    refine ⟨s1.heap.objs.size + 1, [s1.heap.objs.size + 1, s1.heap.objs.size], _, _, H1, rfl, I2, turn_enumS (s1.heap.objs.size + 1) s1.heap.objs.size x t, ⟨⟨.none, he⟩, hit, Nat.succ_ne_self _⟩, fun b hb => ?_, q⟩
    have e' : b = s1.heap.objs.size + 1 ∨ b = s1.heap.objs.size := by simpa using hb
    have hle : s1.heap.objs.size ≤ b := by
      rcases e' with z | z
      · rw [z]; exact Nat.le_add_right _ _
      · rw [z]; exact Nat.le_refl _
    exact I1.fpOk hle (I1.hok.fresh hle)
def enmS (a : Str) : List Vl := a.cps.toList.map fun c => .str ⟨#[c]⟩
def kItES : Sv → En → Rs (Bool × List Sv) := fun s ρ => match s.d with
  | .str a => .ok (true, enmL (enmS a)) ρ
  | _ => .bad
theorem enmS_len {a : Str} : (enmL (enmS a)).length = a.cps.size := by rw [enmL_len]; unfold enmS; rw [List.length_map, Array.length_toList]
section
variable {X : Cx} {J : Jx} {W : WX} {a : Expr} {pos p tpos : Pos} {qa : Bool} {fa : Sem1} {elts : List Expr} {kk : Nat}
theorem xi_enumS (hg : Gl X "enumerate") (hm : X.mg "enumerate" = none) (ha : XE X J W a qa fa) (hs : starEach [a] X.env = (false, eval a X.env) :: starEach [] X.env := by rfl) (hs2 : starEach [a] X.env = [(false, eval a X.env)] := by rfl) :
    XI X J W (.Tuple elts kk tpos) (.Call (.Name "enumerate" p) [a] [] pos) qa (iSrc fa kItES) := by
  refine ⟨(pi_enumS hg hm (pa_cons ha.pe pa_nil hs) hs2).imp fun σ H R h => ?_⟩
  obtain ⟨ρ, τ, I, c, m⟩ := h
  refine ⟨ρ, τ, I, c, outI_bnd (α := Unit) m fun s ρ1 m1 v H1 ⟨F, B, O, I1⟩ => ?_⟩
  obtain ⟨md, d⟩ := s
  cases d with
  | str a =>
    have hv : v = .str a := I1.top.rep I1.base
    subst hv
    refine ⟨a, rfl, m1 [] _ _ ⟨F, B, O, I1.drop1⟩ ⟨fun pre k ρ σ H hk _ => ?_, fun pre k ρ σ H hk _ => ?_, fun pre k s ρ σ H x H' hs I hy => ?_⟩ (fun _ x hx => absurd hx (by simp))⟩
    · have hk : k < (enmL (enmS a)).length := hk
      rw [enmS_len] at hk
      exact hk
    · have hk : (enmL (enmS a)).length ≤ k := hk
      rw [enmS_len] at hk
      exact hk
    · obtain ⟨F, B, O, I⟩ := I
      obtain ⟨T, ch, e0, np, hc, e1⟩ := hy
      subst e0 e1
      have hs : (enmL (enmS a))[k]? = some s := hs
      obtain ⟨d, hd, es⟩ := enmL_get hs
      subst es
      unfold enmS at hd
      rw [List.getElem?_map, Array.getElem?_toList, hc] at hd
      cases hd
      have rr : RepL J.K F [.int (k : Int), .str ⟨#[ch]⟩] [.int (k : Nat), .str ⟨#[ch]⟩] := .cons rfl (.cons rfl .nil)
      exact I.newF (d := .tup [.int (k : Int), .str ⟨#[ch]⟩]) np ⟨T, [.int (k : Nat), .str ⟨#[ch]⟩], rfl, upd_same, rr.mono (upd_sub (I.base.freeF (I.base.freeB np)))⟩
  | _ => exact m1.elim
theorem w_enumS (hm : X.mg "enumerate" = none) (ha : XE X J W a qa fa) (hg : Gl X "enumerate" := by rfl) (hs : starEach [a] X.env = (false, eval a X.env) :: starEach [] X.env := by rfl) (hs2 : starEach [a] X.env = [(false, eval a X.env)] := by rfl) :
    XI X J W (.Tuple elts kk tpos) (.Call (.Name "enumerate" p) [a] [] pos) qa (iSrc fa kItES) := xi_enumS hg hm ha hs hs2
end
end MV
namespace MV
open PySem PySem.Spec PyProof.Rows L2 He
def fmS (val : Nat → Str) : Nat → List Str
  | 0 => []
  | i + 1 => if val i ∈ fmS val i then fmS val i else fmS val i ++ [val i]
theorem fmS_len (val : Nat → Str) : ∀ i, (fmS val i).length ≤ i
  | 0 => Nat.le_refl _
  | i + 1 => by
    have := fmS_len val i
    unfold fmS
    split
    · omega
    · rw [List.length_append, List.length_singleton]; omega
theorem fmS_mem (val : Nat → Str) (i : Nat) (k : Str) : (decide (k ∈ fmS val i) || decide (k = val i)) = decide (k ∈ fmS val (i + 1)) := by
  show _ = decide (k ∈ if val i ∈ fmS val i then fmS val i else fmS val i ++ [val i])
  by_cases z : val i ∈ fmS val i
  · rw [if_pos z]
    by_cases y : k = val i
    · rw [y, decide_eq_true z]; rfl
    · rw [decide_eq_false y, Bool.or_false]
  · rw [if_neg z]
    by_cases y : k = val i
    · rw [y, decide_eq_true (show val i ∈ fmS val i ++ [val i] by simp), decide_eq_true (show val i = val i from rfl), Bool.or_true]
    · rw [decide_eq_false y, Bool.or_false]
      exact decide_eq_decide.mpr ⟨fun h => List.mem_append_left _ h, fun h => (List.mem_append.mp h).elim id fun h => absurd (List.mem_singleton.mp h) y⟩
theorem fmS_step (val : Nat → Str) (i : Nat) : (if decide (val i ∈ fmS val i) = true then (fmS val i).length else (fmS val i).length + 1) = (fmS val (i + 1)).length := by
  show _ = (if val i ∈ fmS val i then fmS val i else fmS val i ++ [val i]).length
  by_cases z : val i ∈ fmS val i
  · rw [if_pos z, if_pos (decide_eq_true z)]
  · rw [if_neg z, if_neg (by rw [decide_eq_false z]; decide), List.length_append, List.length_singleton]
theorem isStr_self (k : Str) (t : Tok) : Value.isStrOf k (.str k t) = true := by
  simp [Value.isStrOf]
section
variable {prog : Program} {w : World} {A : Around} {R : Result → Shared → Prop} {I : Addr} {fp wr : List Addr} {G : Array GenState → Array GenState → Prop} {n : Nat} {P : Nat → Value → Prop} {St : Nat → Shared → Prop}
theorem set_loopT (W : WalksS prog w A.in1 I fp wr G n P St) (S : Addr) (hSf : S ∉ fp)
    (val : Nat → Str) (hval : ∀ i v, P i v → ∃ t, v = .str (val i) t) (hb : n + 1 < scanBound) :
    ∀ (k i : Nat) (s : Shared), n - i = k → i ≤ n → St i s →
      s.heap.SetOf (PySem.strKind prog w) S (fun k' => decide (k' ∈ fmS val i)) (fmS val i).length →
      (∀ s', Moved (S :: wr) G s s' → s'.heap.SetOf (PySem.strKind prog w) S (fun k' => decide (k' ∈ fmS val n)) (fmS val n).length → R (.ok (.ret .none)) s') →
      codeAny (model prog w) A (.builtin "set.update.loop" ⟨[.ref S, .ref I], []⟩) R s := by
  have hSw : S ∉ wr := fun h => hSf (W.sub _ h)
  have hsub : ∀ b ∈ wr, b ∈ S :: wr := fun b hb => List.mem_cons_of_mem _ hb
  intro k
  induction k with
  | zero =>
    intro i s hk hi hst hS hR
    have hin : i = n := by omega
    subst hin
    refine codeAny_builtin PyProof.Rows.F.entry_set_update_loop ?_
    rw [Around.under_plainId PyProof.Rows.F.plain_set_update_loop _]
    show wpAny _ A.in1 (pyNext (.ref I) >>= _) _ _ s
    refine wpAny_bind (W.done s _ _ hst fun s' hm => ?_)
    show wpAny _ A.in1 (ret Value.none) _ _ s'
    exact wpAny_pure (hR s' (hm.mono hsub) (by
      obtain ⟨o, es, ep, t, ho, rest⟩ := hS
      exact ⟨o, es, ep, t, hm.heap S _ hSw ho, rest⟩))
  | succ k ih =>
    intro i s hk hi hst hS hR
    have hlt : i < n := by omega
    refine codeAny_builtin PyProof.Rows.F.entry_set_update_loop ?_
    rw [Around.under_plainId PyProof.Rows.F.plain_set_update_loop _]
    show wpAny _ A.in1 (pyNext (.ref I) >>= _) _ _ s
    refine wpAny_bind (W.item i s _ _ hlt hst fun v s' hP hst' hm => ?_)
    obtain ⟨t, rfl⟩ := hval i v hP
    have hS' : s'.heap.SetOf (PySem.strKind prog w) S (fun k' => decide (k' ∈ fmS val i)) (fmS val i).length := by
      obtain ⟨o, es, ep, tb, ho, rest⟩ := hS
      exact ⟨o, es, ep, tb, hm.heap S _ hSw ho, rest⟩
    have is : (PySem.strKind prog w).is (val i) (.str (val i) t) = true := isStr_self (val i) t
    show wpAny _ A.in1 (holding [Value.str (val i) t] (setAdd S (.str (val i) t)) >>= _) _ _ s'
    refine wpAny_bind (wpAny_holding ?_)
    unfold setAdd
    refine wpAny_holding ?_
    refine wpAny_bind ((PySem.strKind prog w).pyHash (k := val i) is ?_)
    have hroom : (fmS val i).length + 1 < scanBound := by have := fmS_len val i; omega
    refine wpAny_setAddHashed_of (knd := PySem.strKind prog w) (s := { s' with toks := s'.toks + 1 }) is rfl hS' hroom fun h' hsb hS2 => ?_
    have hSi : h'.SetOf (PySem.strKind prog w) S (fun k' => decide (k' ∈ fmS val (i + 1))) (fmS val (i + 1)).length :=
      SetOf_congr hS2 (fun k' => fmS_mem val i k') (fmS_step val i)
    refine wpAny_pure ⟨plainId_quiet PyProof.Rows.F.plain_set_update_loop _, ih (i + 1) _ (by omega) hlt (W.frame _ s' _ _ hst' (Nat.le_succ _) fun b hb o e => ?_) hSi fun s'' hm'' hS'' => ?_⟩
    · rw [hsb.2 b (fun h : b = S => hSf (by rw [← h]; exact hb))]; exact e
    · refine hR s'' (Moved.trans W.gtrans ((hm.mono hsub).then_heap (Nat.le_succ _) fun b o hb e => ?_) hm'') hS''
      rw [hsb.2 b (fun h : b = S => hb (by rw [h]; exact List.mem_cons_self))]; exact e
end
end MV
namespace PySem
section
variable {prog : Program} {w : World} {A : Around} {E : Value → Shared → Prop} {s : Shared}
theorem call_set_str {x : Str} {t : Tok} {Q : Value → Shared → Prop}
    (hh : A.handled = none) (hb : x.cps.size + 1 < scanBound)
    (h : ∀ (h' : Heap) (tk : Nat), h'.SetOf (strKind prog w) s.heap.objs.size (fun k' => decide (k' ∈ MV.fmS (fun i => ⟨#[x.cps.getD i 0]⟩) x.cps.size)) (MV.fmS (fun i => ⟨#[x.cps.getD i 0]⟩) x.cps.size).length →
      (∀ b o, b < s.heap.objs.size → s.heap.get? b = some o → h'.get? b = some o) → Q (.ref s.heap.objs.size) { s with heap := h', toks := tk }) :
    wpAny (model prog w) A (call (.type "set") [.str x t]) Q E s := by
  obtain ⟨c, tl, hmro⟩ := F.called_set.mro
  have hmade := F.called_set.made
  have hsub := F.called_set.sub
  refine wpAny_call (codeAny_of_tree ?_)
  show wpAny _ _ (callAny (.type "set") _) _ _ _
  refine wpAny_pure ⟨Code.quiet_builtin _ (by decide +kernel), codeAny_builtin F.entry_type_call ?_⟩
  rw [Around.under_plain (weight_type_call_type "set" [.str x t] []) rfl]
  have h1 := F.called_set.notType
  have h2 := F.called_set.canCreate
  have hct := F.typeCall_set_1 (.str x t)
  repeat (any_goals (first | assumption | wp_step))
  refine codeAny_mono (code_set_new_1 (.str x t) (E := E) (Q₁ := fun obj s₁ => ∃ led : Bool, obj = .ref s.heap.objs.size ∧ s₁ = { s with heap := s.heap.push { cls := .type "set", dict := none, data := .set #[] 0 (.fresh 0 0 led) } }) fun led => ⟨led, rfl, rfl⟩) fun r s₁ hr => ?_
  cases r with
  | error e => exact hr
  | ok fl =>
    cases fl with
    | ret obj =>
      obtain ⟨led, rfl, rfl⟩ := hr
      have hS : (s.heap.push { cls := .type "set", dict := none, data := .set #[] 0 (.fresh 0 0 led) }).get? s.heap.objs.size = some { cls := .type "set", dict := none, data := .set #[] 0 (.fresh 0 0 led) } := Heap.get?_push_size _ rfl
      have hT : Shared.TypeIs { s with heap := s.heap.push { cls := .type "set", dict := none, data := .set #[] 0 (.fresh 0 0 led) } } (.ref s.heap.objs.size) "set" := ⟨_, hS, rfl⟩
      have hli := F.called_set.init.lookup
      have hbi := F.called_set.init.bind (.ref s.heap.objs.size)
      repeat (any_goals (first | assumption | wp_step))
      refine codeAny_mono (codeAny_call_builtin (R := wants (fun r s₂ => r = .none ∧ ∃ h' tk, s₂ = { s with heap := h', toks := tk } ∧
          h'.SetOf (strKind prog w) s.heap.objs.size (fun k' => decide (k' ∈ MV.fmS (fun i => ⟨#[x.cps.getD i 0]⟩) x.cps.size)) (MV.fmS (fun i => ⟨#[x.cps.getD i 0]⟩) x.cps.size).length ∧
          (∀ b o, b < s.heap.objs.size → s.heap.get? b = some o → h'.get? b = some o)) E) F.called_set.init.plain F.entry_set_init (check_set_init_1 hT ?_)) fun r₂ s₂ hr₂ => ?_
      · have hsls := F.sub_str_set
        have hslf := F.sub_str_frozenset
        unfold Builtin.«set.__init__» noKeywords Builtin.Frozenset.updateFrom
        generalize hPI : pyIter = PI
        wp_walk
        subst hPI
        have hh3 : A.in1.in1.in1.handled = none := by simp [hh]
        have hSf : s.heap.objs.size ∉ [(s.heap.push { cls := .type "set", dict := none, data := .set #[] 0 (.fresh 0 0 led) }).objs.size] := by
          rw [Heap.size_push]; simp only [List.mem_cons, List.not_mem_nil, or_false]
          exact Nat.ne_of_lt (Nat.lt_succ_self _)
        have hval : ∀ (i : Nat) (v : Value), SignAt x i v → ∃ t, v = .str ((fun i => (⟨#[x.cps.getD i 0]⟩ : Str)) i) t := fun i v hv => by
          obtain ⟨c, u, hc, rfl⟩ := hv
          refine ⟨u, ?_⟩
          have : x.cps.getD i 0 = c := by
            rw [Array.getD_eq_getD_getElem?, hc]; rfl
          show Value.str ⟨#[c]⟩ u = Value.str ⟨#[x.cps.getD i 0]⟩ u
          rw [this]
        cases ha : x.cps.all (· < 128)
        · refine wpAny_pyIter_wide ha ?_
          refine wpAny_bind (wpAny_runValue ?_)
          refine MV.set_loopT ((Walks.strWide hh3 _ x t).toS) s.heap.objs.size hSf (fun i => ⟨#[x.cps.getD i 0]⟩) hval hb (x.cps.size - 0) 0 _ (by omega) (Nat.zero_le _)
            ⟨_, Heap.get?_push_size _ rfl, rfl, rfl⟩ (PyProof.Rows.SetOf_congr ((PyProof.Rows.setObjOf_fresh (knd := strKind prog w) led).setOf (Heap.get?_push_of_some _ hS) (by unfold scanBound; omega)) (fun _ => by simp [MV.fmS]) rfl) ?_
          intro s' hm hS'
          obtain ⟨h', g', d', tk', os'⟩ := s'
          have eg : g' = s.gens := hm.gens
          have ed : d' = s.drawn := hm.drawn
          have eo : os' = s.os := hm.os
          subst eg; subst ed; subst eo
          show wpAny _ _ _ _ _ _
          refine wpAny_pure ?_
          show wpAny _ _ (ret Value.none) _ _ _
          refine wpAny_pure ⟨rfl, h', tk', rfl, hS', fun b o hb e => ?_⟩
          have hb1 : b ≠ s.heap.objs.size := Nat.ne_of_lt hb
          have hb2 : b ≠ (s.heap.push { cls := .type "set", dict := none, data := .set #[] 0 (.fresh 0 0 led) }).objs.size := by
            rw [Heap.size_push]; exact Nat.ne_of_lt (Nat.lt_succ_of_lt hb)
          exact hm.heap b o (by simp only [List.mem_cons, List.mem_singleton, List.not_mem_nil, or_false, not_or]; exact ⟨hb1, hb2⟩) (Heap.get?_push_of_some _ (Heap.get?_push_of_some _ e))
        · refine wpAny_pyIter_ascii ha ?_
          refine wpAny_bind (wpAny_runValue ?_)
          refine MV.set_loopT ((Walks.strAscii hh3 _ x t).toS) s.heap.objs.size hSf (fun i => ⟨#[x.cps.getD i 0]⟩) hval hb (x.cps.size - 0) 0 _ (by omega) (Nat.zero_le _)
            ⟨_, Heap.get?_push_size _ rfl, rfl, rfl⟩ (PyProof.Rows.SetOf_congr ((PyProof.Rows.setObjOf_fresh (knd := strKind prog w) led).setOf (Heap.get?_push_of_some _ hS) (by unfold scanBound; omega)) (fun _ => by simp [MV.fmS]) rfl) ?_
          intro s' hm hS'
          obtain ⟨h', g', d', tk', os'⟩ := s'
          have eg : g' = s.gens := hm.gens
          have ed : d' = s.drawn := hm.drawn
          have eo : os' = s.os := hm.os
          subst eg; subst ed; subst eo
          show wpAny _ _ _ _ _ _
          refine wpAny_pure ?_
          show wpAny _ _ (ret Value.none) _ _ _
          refine wpAny_pure ⟨rfl, h', tk', rfl, hS', fun b o hb e => ?_⟩
          have hb1 : b ≠ s.heap.objs.size := Nat.ne_of_lt hb
          have hb2 : b ≠ (s.heap.push { cls := .type "set", dict := none, data := .set #[] 0 (.fresh 0 0 led) }).objs.size := by
            rw [Heap.size_push]; exact Nat.ne_of_lt (Nat.lt_succ_of_lt hb)
          exact hm.heap b o (by simp only [List.mem_cons, List.mem_singleton, List.not_mem_nil, or_false, not_or]; exact ⟨hb1, hb2⟩) (Heap.get?_push_of_some _ (Heap.get?_push_of_some _ e))
      · cases r₂ with
        | error e => exact hr₂
        | ok fl₂ =>
          cases fl₂ with
          | ret r =>
            obtain ⟨rfl, h', tk, rfl, hS', hk'⟩ := hr₂
            repeat (any_goals (first | assumption | wp_step))
            exact h _ _ hS' hk'
          | _ => exact hr₂.elim
    | _ => exact hr.elim
end
end PySem
namespace MV
open PySem PySem.Spec PyProof.Rows L2 He
def nds (x : Str) : Nat := (fmS (fun i => ⟨#[x.cps.getD i 0]⟩) x.cps.size).length
def tLenSetS (te : TE) : TE := fun σ H Q => te σ H fun v H1 => ∃ x : Str, v = .str x ∧ x.cps.size ≤ 4000 ∧ Q (.int (nds x : Nat)) H1
theorem pe_lenSetS {X : Cx} {a : Expr} {ta : TE} {p p2 q pos : Pos} (hg : Gl X "len") (hm : X.mg "len" = none) (hg2 : Gl X "set") (hm2 : X.mg "set" = none) (ha : PE X a ta) (hc : X.calm = true := by rfl)
    (na : starEach [a] X.env = (false, eval a X.env) :: starEach [] X.env := by rfl) : PE X (.Call (.Name "len" p) [.Call (.Name "set" p2) [a] [] q] [] pos) (tLenSetS ta) := by
  refine ⟨fun pins s σ H Q I h => ?_⟩
  refine Call_ (ld_blt I hg hm boot_len ?_)
  refine PyProof.Rows.callWith_builtin1 (PyProof.Rows.args_cons ?_ rfl) rfl rfl
  refine Call_ (ld_blt I hg2 hm2 boot_set ?_)
  refine PyProof.Rows.callWith_type1 (PyProof.Rows.args_cons (thn (ha.run pins s σ H _ I h) fun v s1 ⟨x, H1, I1, r1, q1⟩ => PyProof.Rows.args_nil ?_) na) na rfl
  obtain ⟨y, rfl, hl, q1⟩ := q1
  obtain ⟨t, rfl⟩ := r1
  refine call_set_str (I1.ok.hd hc) (by unfold scanBound; omega) fun h' tk hS hk => ?_
  refine PyProof.Rows.args_nil ?_
  obtain ⟨o, es, ep, t, ho, hex, hd, _, _, _, hf, hn⟩ := hS
  have fl := fmS_len (fun i => ⟨#[y.cps.getD i 0]⟩) y.cps.size
  have I2 : Inv X pins σ H1 { s1 with heap := h', toks := tk } := I1.kept fun b o e => hk b o (Heap.lt_size e) e
  exact call_len_set ho hex hd hf (by rw [hn]; omega) ⟨.int (nds y : Nat), H1, I2.tok _, ⟨_, by rw [hn]; rfl⟩, q1⟩
end MV
namespace MV
open PySem PySem.Spec PyProof.Rows L2 He
section
variable {X : Cx} {J : Jx} {W : WX} {a : Expr} {qa : Bool} {fa : Sem1} {p p2 q pos : Pos}
def kLenS : K1 := fun s ρ => match s.d with
  | .str a => grd (decide (a.cps.size ≤ 4000)) (.ok ⟨.shr, .int (nds a : Nat)⟩ ρ)
  | _ => .bad
theorem ok_lenS : Ok1 J W (fun v H Q => ∃ x : Str, v = .str x ∧ x.cps.size ≤ 4000 ∧ Q (.int (nds x : Nat)) H) kLenS := by
  rintro ρ τ σ H ⟨md, d⟩ v Q ⟨F, B, O, I⟩ m
  cases d with
  | str a =>
    obtain ⟨h, m⟩ := out_grd (b := decide (a.cps.size ≤ 4000)) m
    exact ⟨a, I.top.rep I.base, of_decide_eq_true h, out_sc m ⟨F, B, O, I.drop1⟩ rfl rfl⟩
  | _ => exact m.elim
theorem w_lenSetS (hm : X.mg "len" = none) (hm2 : X.mg "set" = none) (ha : XE X J W a qa fa) (hg : Gl X "len" := by rfl) (hg2 : Gl X "set" := by rfl) (hc : X.calm = true := by rfl) (na : starEach [a] X.env = (false, eval a X.env) :: starEach [] X.env := by rfl) :
    XE X J W (.Call (.Name "len" p) [.Call (.Name "set" p2) [a] [] q] [] pos) qa (fOne fa kLenS) :=
  ⟨(pe_lenSetS hg hm hg2 hm2 ha.pe hc na).imp fun _ _ _ h => tE_one (fun _ _ _ _ _ I _ _ _ o h => o _ _ _ _ _ _ _ I h) ok_lenS h⟩
end
end MV
namespace MV
open PySem PySem.Spec PyProof.Rows L2 He
def fCh (b : En → Bool) (f g : Sem1) : Sem1 := fun ρ => if b ρ then f ρ else g ρ
def isCls (i : Nat) (c : Str) : En → Bool := fun ρ => match ρ[i]? with
  | some (some ⟨_, .ins c' _⟩) => c' == c
  | _ => false
section
variable {X : Cx} {J : Jx} {W : WX} {e : Expr} {q : Bool} {f g : Sem1} {b : En → Bool}
theorem w_ch (hf : XE X J W e q f) (hg : XE X J W e q g) : XE X J W e q (fCh b f g) := ⟨⟨fun pins s σ H Q I h => by
  obtain ⟨ρ, τ, I1, c, m⟩ := h
  unfold fCh at m
  by_cases z : b ρ = true
  · rw [if_pos z] at m
    exact hf.pe.run pins s σ H Q I ⟨ρ, τ, I1, c, m⟩
  · rw [if_neg z] at m
    exact hg.pe.run pins s σ H Q I ⟨ρ, τ, I1, c, m⟩⟩⟩
end
end MV
namespace MV
open PySem PySem.Spec PyProof.Rows L2 He
structure FnCR (P : Program) (w : World) (K : PySem.W.Frag) (mg : Str → Option Value) (base : Heap) (k : Nat) (f : Addr) (sp : Sp) : Prop where
  fr : FnR P w K mg base (L2N.CX P w) k f sp
  kp : PySem.W.keepIn K (.ref f) = true
theorem FnCR.at {X : Cx} {W : WX} {k j : Nat} {f : Addr} {sp : Sp} (F : FnCR X.prog X.w X.K X.mg X.base j f sp) (hr : Room k X.A) (hj : j ≤ k) (tk : Takes X W) : CallAt X W f sp := by
  intro pins σ H s Q us vs I r h
  refine wpAny_call (codeAny_mono (F.fr X.A X.stack s H us vs Q (WE W σ) (hr.mono hj) I.env0 r h) fun r s' hq => ?_)
  cases r with
  | error e => exact passAt tk σ pins H s e s' I hq
  | ok fl =>
    cases fl with
    | ret u => exact I.after hq
    | next => exact False.elim hq
    | brk => exact False.elim hq
    | cont => exact False.elim hq
end MV
namespace L2
open PySem PySem.Spec PyProof.Rows
def sitTy (x : Str) : String := if x.cps.all (· < 128) = true then "str_ascii_iterator" else "str_iterator"
abbrev sitObj (x : Str) (t : Tok) : Obj := { cls := .type (sitTy x), data := .fields #[.str x t, .int 0 0] }
theorem sitTy_of (x : Str) : sitTy x = "str_ascii_iterator" ∨ sitTy x = "str_iterator" := by
  unfold sitTy; split
  · exact .inl rfl
  · exact .inr rfl
def ItS (x : Str) (it : Addr) : HO := .ext fun h => ∃ t, h.get? it = some (sitObj x t)
theorem itS_ok {P : Program} {w : World} {H : Hp} {h : Heap} {x : Str} {it : Addr} {t : Tok} (e : h.get? it = some (sitObj x t)) : ObjOk P w H h it (ItS x it) := ⟨⟨t, e⟩, ⟨_, e⟩, fun h1 h2 ⟨t, q⟩ k => ⟨t, k _ q⟩⟩
theorem itS_get {X : Cx} {pins : List (Addr × Obj)} {σ : St} {H : Hp} {s : Shared} {x : Str} {it : Addr} (I : Inv X pins σ H s) (e : H it = some (ItS x it)) : ∃ t, s.heap.get? it = some (sitObj x t) := (I.hok it _ e).1
theorem call_iter_str {prog : Program} {w : World} {A : Around} {E : Value → Shared → Prop} {s : Shared} {x : Str} {t : Tok} {Q : Value → Shared → Prop} (h : Q (.ref s.heap.objs.size) { s with heap := s.heap.push (sitObj x t) }) : wpAny (model prog w) A (call (.builtin "iter") [.str x t]) Q E s := by
  refine Calls.call_function_entry (by decide +kernel) (by decide +kernel) PySem.W.kdk_entry_iter (PySem.W.kdk_args_iter _) ?_
  unfold Builtin.«iter»
  refine wpAny_bind (m := someArgs "iter" 1 2 _) (wpAny_of_eq (a := [Value.str x t]) (by first | rfl | kernel_rfl!) ?_)
  show wpAny _ _ (pyIter (.str x t) >>= _) _ _ _
  cases ha : x.cps.all (· < 128)
  · refine wpAny_bind (wpAny_pyIter_wide ha ?_)
    refine wpAny_pure ⟨_, rfl, ?_⟩
    have e : sitTy x = "str_iterator" := by unfold sitTy; rw [ha]; rfl
    rw [← e]; exact h
  · refine wpAny_bind (wpAny_pyIter_ascii ha ?_)
    refine wpAny_pure ⟨_, rfl, ?_⟩
    have e : sitTy x = "str_ascii_iterator" := by unfold sitTy; rw [ha]; rfl
    rw [← e]; exact h
def rIterNS (n : Nat) : List V → Hp → VK → Prop := fun xs H Q => ∃ (x : Str), xs = [.str x] ∧ ∀ it, H it = none → n ≤ it → Q (.ref it) (upd H it (ItS x it))
theorem call_iterNS {X : Cx} : CallR X (.builtin "iter") (rIterNS X.s_0.heap.objs.size) := by
  intro pins s σ H xs us Q I r h
  obtain ⟨x, rfl, q⟩ := h
  obtain ⟨u, rfl, ru⟩ := r.one
  obtain ⟨t, rfl⟩ := ru
  refine call_iter_str ?_
  exact ⟨.ref s.heap.objs.size, _, I.laid (t' := s.toks) (fun b u e => Heap.get?_push_of_some _ e) (Nat.le_refl _) (itS_ok (t := t) (Heap.get?_push_size _ rfl)), rfl, q _ (I.hok.fresh (Nat.le_refl _)) I.sz⟩
def spItS (C : Addr) (fld : Str) (z : Nat) : Sp := fun vs H Q _ => ∃ a dx fs x, vs = [.ref a] ∧ H a = some (.ins C dx fs) ∧ fs.lookup fld = some (.str x) ∧ ∀ it, H it = none → z ≤ it → Q (.ref it) (upd H it (ItS x it))
section
variable {X : Cx} {C fi fl : Addr} {fdI : FuncData} {psI : List Str} {n : Nat} {fld : Str}
def iOwnS (C : Addr) (fld : Str) (te : TE) : TI := fun σ H R => te σ H fun v H1 => ∃ a dx fs x, v = .ref a ∧ H1 a = some (.ins C dx fs) ∧ fs.lookup fld = some (.str x) ∧ R (Its x) H1
theorem pi_ownS {tg e : Expr} {te : TE} (hs : PySem.W.findIn X.K (.ref C) "__iter__" = some (some (.ref fi))) (hsF : PySem.W.isFn X.K (.ref fi) = true)
    (FI : FnS X.prog X.w X.K X.mg X.base n fi fdI psI (spItS C fld)) (bI : Binds X.K fdI psI []) (hr : Room n X.A) (he : PE X e te) : PI X tg e (iOwnS C fld te) := by
  refine ⟨fun pins s0 σ H0 R I0 h => ?_⟩
  refine thn (he.run pins s0 σ H0 _ I0 h) fun v s ⟨y, H, I, r1, q1⟩ => ?_
  obtain ⟨a, dx, fs, x, rfl, ha, hfl, hR⟩ := q1
  cases r1
  obtain ⟨mA, J, _⟩ := ins_get I.hok ha
  obtain ⟨od, J, _⟩ := J.look
  obtain ⟨m0, hF⟩ := I.fr
  refine PySem.W.owit_iter hF I.ok.mod.kin J hs hsF ?_
  have hspI : spItS C fld s.heap.objs.size [.ref a] H (fun v H' => ∃ it, v = .ref it ∧ H it = none ∧ s.heap.objs.size ≤ it ∧ H' = upd H it (ItS x it)) (fun _ _ _ => False) := ⟨a, dx, fs, x, rfl, ha, hfl, fun it hn hb => ⟨it, rfl, hn, hb, rfl⟩⟩
  have hlen := FI.len _ _ _ _ _ hspI
  have r2 : Vals [V.ref a] [Value.ref a] := .cons rfl .nil
  refine wpAny_call (codeAny_mono (FI.run X.A X.stack s _ ⟨[.ref a], []⟩ [.ref a] [.ref a] _ _ hr I.env0 (by
    have := bI s [.ref a] I.kIn (by simpa using hlen)
    simpa using this) r2 hspI) fun r s' hq' => ?_)
  cases r with
  | error e => exact absurd hq' (cxf _ _ _ _ _)
  | ok fl' =>
    cases fl' with
    | next => exact False.elim hq'
    | brk => exact False.elim hq'
    | cont => exact False.elim hq'
    | ret u =>
      obtain ⟨v, H', I', rv, it, ev, hn, hb, eH⟩ := I.after hq'
      subst ev
      rw [eH] at I'
      cases rv
      obtain ⟨t, eo⟩ := itS_get I' upd_same
      have st : s'.heap.IsStrIter it (sitTy x) x t 0 := ⟨_, eo, rfl, rfl⟩
      unfold PySem.W.OwitIt
      obtain ⟨fp, I2⟩ := fp_young I' hn (Nat.le_trans I.sz hb)
      have fin : PySem.W.OwitIt = PySem.W.OwitIt := rfl
      rcases sitTy_of x with ty | ty
      · have hT : s'.TypeIs (.ref it) "str_ascii_iterator" := ⟨_, eo, congrArg Value.type ty⟩
        refine wpAny_specialOf (name := Str.ofString "__next__") hT F.slot_str_ascii_iterator_next.lookup ?_
        exact ⟨it, [it], _, _, H, rfl, I2, turn_str it x t (sitTy x) (.inl ty), st, fun b z => by rw [List.mem_singleton.mp z]; exact fp, hR⟩
      · have hT : s'.TypeIs (.ref it) "str_iterator" := ⟨_, eo, congrArg Value.type ty⟩
        refine wpAny_specialOf (name := Str.ofString "__next__") hT F.slot_str_iterator_next.lookup ?_
        exact ⟨it, [it], _, _, H, rfl, I2, turn_str it x t (sitTy x) (.inr ty), st, fun b z => by rw [List.mem_singleton.mp z]; exact fp, hR⟩
end
end L2
namespace MV
open PySem PySem.Spec PyProof.Rows L2 He
section
variable {P : Program} {w : World} {K : PySem.W.Frag} {mg : Str → Option Value} {base : Heap} {qual : Str} {params : Arguments} {scope : Scope} {dvs : List V} {kws : List (Str × V)} {f : Addr} {fd : FuncData} {k : Nat} {name c fld : Str} {p1 p2 p3 p4 p5 : Pos}
theorem fn_iterS (F : FunD K name qual params [.Return (some (.Call (.Name "iter" p1) [.Attribute (.Name "self" p2) fld p3] [] p4)) p5] scope dvs kws f fd) (S : FnScope ["self"] ["self"] scope) (v1 : Vis scope "self") (hf : FldOk K [c] fld) (hm : mg "iter" = none)
    (hg : ∀ (cdv : Value) (A : Around) (outer : List Env) (s : Shared) (H : Hp) (E : XK), Gl (cxOf (L2N.CX P w) P w K mg base ["self"] qual scope f cdv A outer s H E) "iter" := by intros; rfl) : FnS P w K mg base (k + 1) f fd ["self"] (spItS (ga K c) fld) := by
  obtain ⟨hC, hN⟩ := hf.ok c (by simp)
  refine fn_ofS F S (fun z vs H Q E h => ?_) fun cdv A outer s H vs Q E hr h => ?_
  · obtain ⟨a, dx, fs, x, e, _⟩ := h
    rw [e]; rfl
  · obtain ⟨a, dx, fs, x, rfl, ha, hfl, q⟩ := h
    refine ⟨_, pss_cons (ps_ret (pe_callB call_iterNS (hg cdv A outer s H E) hm (by decide +kernel) (pa_cons (pe_fld (pe_var (i := 0) rfl v1 (by decide) (by decide)) rfl) pa_nil rfl) (by decide) (by decide) rfl rfl)) pss_nil, ?_⟩
    exact ⟨V.ref a, rfl, a, ga K c, dx, fs, .str x, rfl, ha, hC, hN, hfl, x, rfl, q⟩
end
def kItOS (c fld : Str) : Sv → En → Rs (Bool × List Sv) := fun s ρ => bnd (kFld fld [c] s ρ) fun t ρ => match t.d with
  | .str x => .ok (true, strL x) ρ
  | _ => .bad
section
variable {X : Cx} {J : Jx} {W : WX} {a : Expr} {qa : Bool} {fa : Sem1} {p pos : Pos}
theorem xi_ownS {tg : Expr} {c fld : Str} {fi : Addr} {j k : Nat} (FI : FnCS X.prog X.w X.K X.mg X.base j fi (spItS (ga X.K c) fld)) (S : PySem.W.findIn X.K (.ref (ga X.K c)) "__iter__" = some (some (.ref fi)) ∧ PySem.W.isFn X.K (.ref fi) = true ∧ PySem.W.selfFirst X.K (ga X.K c) = true) (hr : Room k X.A) (hK : J.K = X.K)
    (ha : XE X J W a qa fa) (hj : j ≤ k := by decide) : XI X J W tg a qa (iSrc fa (kItOS c fld)) := by
  obtain ⟨⟨fdI, psI, FI, bI⟩, _⟩ := FI
  refine ⟨(pi_ownS S.1 S.2.1 FI bI (hr.mono hj) ha.pe).imp fun σ H R h => ?_⟩
  obtain ⟨ρ, τ, I, cc, m⟩ := h
  refine ⟨ρ, τ, I, cc, outI_bnd (α := Unit) m fun s ρ1 m1 v H1 ⟨F, B, O, I1⟩ => ?_⟩
  obtain ⟨md, d⟩ := s
  cases d with
  | ins c' fs =>
    unfold kItOS kFld at m1
    dsimp only at m1
    by_cases hcc : c' ∈ [c]
    · rw [decide_eq_true hcc] at m1
      have hcc : c' = c := List.mem_singleton.mp hcc
      subst hcc
      obtain ⟨q, dx, ws, e, g, r⟩ := I1.top.ins I1.base
      cases z : fs.lookup fld with
      | none => rw [z] at m1; exact m1.elim
      | some d =>
        rw [z] at m1
        obtain ⟨u, w1, w2⟩ := r.look z
        cases d with
        | str x =>
          have m1 : OutI J W τ σ (.ok (true, strL x) ρ1) R := m1
          have eu : u = .str x := by cases md <;> first | exact w2 | exact w2.1
          subst eu
          rw [hK] at g
          refine ⟨q, dx, ws, x, by rw [e], g, w1, m1 [] _ _ ⟨F, B, O, I1.drop1⟩ ⟨fun pre k ρ σ H hk _ => ?_, fun pre k ρ σ H hk _ => ?_, fun pre k s ρ σ H yv H' hs I hy => ?_⟩ (fun _ yv hx => absurd hx (by simp))⟩
          · have hk : k < (strL x).length := hk
            rw [strL_len] at hk
            exact hk
          · have hk : (strL x).length ≤ k := hk
            rw [strL_len] at hk
            exact hk
          · obtain ⟨e1, ch, hc, ex⟩ := hy
            subst e1 ex
            have hs : (strL _)[k]? = some s := hs
            unfold strL at hs
            rw [List.getElem?_map] at hs
            obtain ⟨j, hj, es⟩ := Option.map_eq_some_iff.mp hs
            rw [Array.getElem?_toList, hc] at hj
            cases hj
            subst es
            obtain ⟨F, B, O, I⟩ := I
            exact I.push (s := ⟨.shr, .str ⟨#[ch]⟩⟩) rfl
        | _ => exact m1.elim
    · rw [decide_eq_false hcc] at m1
      exact m1.elim
  | _ => exact m1.elim
end
end MV
namespace MV
open PySem PySem.Spec PyProof.Rows L2 He
inductive Oc (l w r ν : Type) where
  | next (a : ν)
  | brk (s : l)
  | cont (s : l)
  | ret (x : r) (o : w)
  | exc (c : Str) (fs : List (Str × Vl)) (o : w)
  | bad
inductive TF (w r : Type) where
  | ret (x : r) (o : w)
  | exc (c : Str) (fs : List (Str × Vl)) (o : w)
  | bad
section
variable {l l' w w' r r' ν α β γ : Type}
def Oc.bind (t : Oc l w r α) (f : α → Oc l w r β) : Oc l w r β := match t with
  | .next a => f a
  | .brk s => .brk s
  | .cont s => .cont s
  | .ret x o => .ret x o
  | .exc c fs o => .exc c fs o
  | .bad => .bad
@[simp] theorem Oc.bind_next (a : α) (f : α → Oc l w r β) : (Oc.next a : Oc l w r α).bind f = f a := rfl
@[simp] theorem Oc.bind_brk (s : l) (f : α → Oc l w r β) : (Oc.brk s : Oc l w r α).bind f = .brk s := rfl
@[simp] theorem Oc.bind_cont (s : l) (f : α → Oc l w r β) : (Oc.cont s : Oc l w r α).bind f = .cont s := rfl
@[simp] theorem Oc.bind_ret (x : r) (o : w) (f : α → Oc l w r β) : (Oc.ret x o : Oc l w r α).bind f = .ret x o := rfl
@[simp] theorem Oc.bind_exc (c : Str) (fs : List (Str × Vl)) (o : w) (f : α → Oc l w r β) : (Oc.exc c fs o : Oc l w r α).bind f = .exc c fs o := rfl
@[simp] theorem Oc.bind_bad (f : α → Oc l w r β) : (Oc.bad : Oc l w r α).bind f = .bad := rfl
def iv (lo : Int) (n : Nat) : List Int := (List.range n).map fun (k : Nat) => lo + (k : Int)
def letO (x : α) (f : α → β) : β := f x
theorem letO_eq (x : α) (f : α → β) : letO x f = f x := rfl
def Oc.run (d : ν → TF w r) (t : Oc Empty w r ν) : TF w r := match t with
  | .next a => d a
  | .brk _ => .bad
  | .cont _ => .bad
  | .ret x o => .ret x o
  | .exc c fs o => .exc c fs o
  | .bad => .bad
@[simp] theorem Oc.run_next (d : ν → TF w r) (a : ν) : (Oc.next a : Oc Empty w r ν).run d = d a := rfl
@[simp] theorem Oc.run_ret (d : ν → TF w r) (x : r) (o : w) : (Oc.ret x o : Oc Empty w r ν).run d = .ret x o := rfl
@[simp] theorem Oc.run_exc (d : ν → TF w r) (c : Str) (fs : List (Str × Vl)) (o : w) : (Oc.exc c fs o : Oc Empty w r ν).run d = .exc c fs o := rfl
@[simp] theorem Oc.run_bad (d : ν → TF w r) : (Oc.bad : Oc Empty w r ν).run d = .bad := rfl
def callO (o : w) (t : TF Unit α) : Oc l w r α := match t with
  | .ret x _ => .next x
  | .exc c fs _ => .exc c fs o
  | .bad => .bad
@[simp] theorem callO_ret (o : w) (x : α) (u : Unit) : callO (l := l) (r := r) o (.ret x u) = .next x := rfl
@[simp] theorem callO_exc (o : w) (c : Str) (fs : List (Str × Vl)) (u : Unit) : callO (l := l) (r := r) (α := α) o (.exc c fs u) = .exc c fs o := rfl
@[simp] theorem callO_bad (o : w) : callO (l := l) (r := r) (α := α) o .bad = .bad := rfl
def callI (g : w' → w) (t : TF w' α) : Oc l w r (α × w') := match t with
  | .ret x o => .next (x, o)
  | .exc c fs o => .exc c fs (g o)
  | .bad => .bad
@[simp] theorem callI_ret (g : w' → w) (x : α) (o : w') : callI (l := l) (r := r) g (.ret x o) = .next (x, o) := rfl
@[simp] theorem callI_exc (g : w' → w) (c : Str) (fs : List (Str × Vl)) (o : w') : callI (l := l) (r := r) (α := α) g (.exc c fs o) = .exc c fs (g o) := rfl
@[simp] theorem callI_bad (g : w' → w) : callI (l := l) (r := r) (α := α) g .bad = .bad := rfl
def liftO (t : Oc Empty w r α) : Oc l w r α := match t with
  | .next a => .next a
  | .ret x o => .ret x o
  | .exc c fs o => .exc c fs o
  | _ => .bad
@[simp] theorem liftO_next (a : α) : (liftO (.next a : Oc Empty w r α) : Oc l w r α) = .next a := rfl
@[simp] theorem liftO_exc (c : Str) (fs : List (Str × Vl)) (o : w) : (liftO (.exc c fs o : Oc Empty w r α) : Oc l w r α) = .exc c fs o := rfl
@[simp] theorem liftO_bad : (liftO (.bad : Oc Empty w r α) : Oc l w r α) = .bad := rfl
def forO (body : α → l' → Oc l' w r l') : List α → l' → Oc l w r l'
  | [], s => .next s
  | x :: xs, s => match body x s with
    | .next s' => forO body xs s'
    | .cont s' => forO body xs s'
    | .brk s' => .next s'
    | .ret x o => .ret x o
    | .exc c fs o => .exc c fs o
    | .bad => .bad
def compO (f : α → Oc Empty Unit Unit (Option β)) : List α → List β → Oc l w r (List β)
  | [], acc => .next acc
  | x :: xs, acc => match f x with
    | .next none => compO f xs acc
    | .next (some y) => if acc.length < sizeLine then compO f xs (acc ++ [y]) else .bad
    | _ => .bad
def lcO (xs : List α) (p : α → Prop) [DecidablePred p] (f : α → β) : Oc l w r (List β) := if xs.length ≤ sizeLine then .next ((xs.filter fun x => decide (p x)).map f) else .bad
def lmO (xs : List α) (f : α → β) : Oc l w r (List β) := if xs.length ≤ sizeLine then .next (xs.map f) else .bad
end
inductive Sl where
  | no
  | jk
  | vl (s : Sv)
def nio : Option Sv → Prop
  | some ⟨.io, _⟩ => False
  | _ => True
def SlR : Sl → Option Sv → Prop
  | .no, o => o = none
  | .jk, o => nio o
  | .vl s, o => o = some s
def EnvR : List Sl → En → Prop
  | [], ρ => ρ = []
  | a :: Γ, ρ => ∃ o r, ρ = o :: r ∧ SlR a o ∧ EnvR Γ r
def njM : Md → Prop
  | .io => False
  | _ => True
def njS : Sl → Prop
  | .vl s => njM s.m
  | _ => True
def isNoS : Sl → Prop
  | .no => True
  | _ => False
def isVlS (t : Sv) : Sl → Prop
  | .vl s => s = t
  | _ => False
def WkS (a b : Sl) : Prop := match b with
  | .jk => njS a
  | .no => isNoS a
  | .vl t => isVlS t a
def Wke : List Sl → List Sl → Prop
  | [], [] => True
  | a :: Γ, b :: Δ => WkS a b ∧ Wke Γ Δ
  | _, _ => False
section
variable {Γ Δ : List Sl} {ρ : En} {i : Nat}
theorem EnvR.get : ∀ {Γ : List Sl} {ρ : En} {i : Nat} {a : Sl}, EnvR Γ ρ → Γ[i]? = some a → ∃ o, ρ[i]? = some o ∧ SlR a o
  | [], _, _, _, _, e => by simp at e
  | b :: Γ, _, 0, a, ⟨o, r, rfl, h, _⟩, e => by
    simp at e; subst e
    exact ⟨o, rfl, h⟩
  | b :: Γ, _, i + 1, a, ⟨o, r, rfl, _, t⟩, e => by
    obtain ⟨o', h1, h2⟩ := EnvR.get (i := i) t (by simpa using e)
    exact ⟨o', by simpa using h1, h2⟩
theorem EnvR.var {s : Sv} (h : EnvR Γ ρ) (e : Γ[i]? = some (.vl s)) : ρ[i]? = some (some s) := by
  obtain ⟨o, h1, h2⟩ := h.get e
  rw [h1]; exact congrArg some h2
theorem EnvR.set {a : Sl} {o : Option Sv} (ho : SlR a o) : ∀ {i : Nat} {Γ : List Sl} {ρ : En}, EnvR Γ ρ → EnvR (Γ.set i a) (ρ.set i o)
  | _, [], _, h => by rw [show _ = [] from h]; exact rfl
  | 0, b :: Γ, _, ⟨p, r, rfl, _, t⟩ => ⟨o, r, rfl, ho, t⟩
  | i + 1, b :: Γ, _, ⟨p, r, rfl, h, t⟩ => ⟨p, r.set i o, rfl, h, EnvR.set ho t⟩
theorem WkS.slR {a b : Sl} {o : Option Sv} (w : WkS a b) (h : SlR a o) : SlR b o := by
  cases b with
  | jk =>
    cases a with
    | no => rw [show o = none from h]; exact trivial
    | jk => exact h
    | vl s =>
      rw [show o = some s from h]
      obtain ⟨m, d⟩ := s
      cases m <;> first | exact (w : False).elim | exact trivial
  | no =>
    cases a with
    | no => exact h
    | jk => exact (w : False).elim
    | vl s => exact (w : False).elim
  | vl t =>
    cases a with
    | no => exact (w : False).elim
    | jk => exact (w : False).elim
    | vl s => rw [← (w : s = t)]; exact h
theorem Wke.env : ∀ {Γ Δ : List Sl} {ρ : En}, Wke Γ Δ → EnvR Γ ρ → EnvR Δ ρ
  | [], [], _, _, h => h
  | a :: Γ, b :: Δ, _, ⟨w, t⟩, ⟨o, r, rfl, h, k⟩ => ⟨o, r, rfl, w.slR h, Wke.env t k⟩
  | [], _ :: _, _, w, _ => w.elim
  | _ :: _, [], _, w, _ => w.elim
def noIoG (Γ : List Sl) (i : Nat) : Bool := match Γ[i]? with
  | some (.vl ⟨.io, _⟩) => false
  | none => false
  | _ => true
theorem noIoG.env (h : noIoG Γ i = true) (e : EnvR Γ ρ) : noIo ρ i = true := by
  unfold noIoG at h
  cases g : Γ[i]? with
  | none => rw [g] at h; cases h
  | some a =>
    rw [g] at h
    obtain ⟨o, h1, h2⟩ := e.get g
    unfold noIo
    rw [h1]
    cases a with
    | no => rw [show o = none from h2]
    | jk =>
      have h2 : nio o := h2
      cases o with
      | none => rfl
      | some s => obtain ⟨m, d⟩ := s; cases m <;> first | exact h2.elim | rfl
    | vl s =>
      rw [show o = some s from h2]
      obtain ⟨m, d⟩ := s
      cases m <;> first | rfl | cases h
end
structure Sur (l w r : Type) where
  lp : l → En → Prop
  rt : r → w → Sv → En → Prop
  ex : w → En → Prop
section
variable {l w r ν : Type}
def RSo (Γ : List Sl) (f : SemS) (t : Oc l w r ν) (C : Sur l w r) (P : ν → Sr → Prop) : Prop := ∀ ρ, EnvR Γ ρ → match t with
  | .next a => P a (f ρ)
  | .brk s => ∃ ρ', f ρ = .brk ρ' ∧ C.lp s ρ'
  | .cont s => ∃ ρ', f ρ = .cont ρ' ∧ C.lp s ρ'
  | .ret x o => ∃ s ρ', f ρ = .ret s ρ' ∧ C.rt x o s ρ'
  | .exc c fs o => ∃ ρ', f ρ = .exc c fs ρ' ∧ C.ex o ρ'
  | .bad => True
structure RS (Γ : List Sl) (f : SemS) (t : Oc l w r ν) (C : Sur l w r) (P : ν → Sr → Prop) : Prop where
  go : RSo Γ f t C P
instance {Γ : List Sl} {f : SemS} {t : Oc l w r ν} {C : Sur l w r} {P : ν → Sr → Prop} : CoeFun (RS Γ f t C P) (fun _ => RSo Γ f t C P) := ⟨fun h => h.go⟩
def PN (G : ν → List Sl) : ν → Sr → Prop := fun a r => ∃ ρ', r = .next ρ' ∧ EnvR (G a) ρ'
def PF : ν → Sr → Prop := fun _ _ => False
def PV (v : ν → Sv) (G : ν → List Sl) : ν → Sr → Prop := fun a r => ∃ ρ', r = .ret (v a) ρ' ∧ EnvR (G a) ρ'
def Ev {α : Type} (Γ : List Sl) (f : En → Rs α) (a : α) : Prop := ∀ ρ, EnvR Γ ρ → f ρ = .ok a ρ
end
abbrev eI : Int → Vl := Vl.int
abbrev eB : Bool → Vl := Vl.bl
def strOf (cs : List Char) : Str := ⟨(cs.map Char.toNat).toArray⟩
def eS (cs : List Char) : Vl := .str (strOf cs)
abbrev eV : Vl → Vl := id
abbrev eU : Unit → Vl := fun _ => .non
def eL {α : Type} (e : α → Vl) (xs : List α) : Vl := .lst (xs.map e)
def eT {α : Type} (e : α → Vl) (xs : List α) : Vl := .tup (xs.map e)
def e2 {α β : Type} (a : α → Vl) (b : β → Vl) (x : α × β) : Vl := .tup [a x.1, b x.2]
def e3 {α β γ : Type} (a : α → Vl) (b : β → Vl) (c : γ → Vl) (x : α × β × γ) : Vl := .tup [a x.1, b x.2.1, c x.2.2]
def e4 {α β γ δ : Type} (a : α → Vl) (b : β → Vl) (c : γ → Vl) (d : δ → Vl) (x : α × β × γ × δ) : Vl := .tup [a x.1, b x.2.1, c x.2.2.1, d x.2.2.2]
def e5 {α β γ δ ε : Type} (a : α → Vl) (b : β → Vl) (c : γ → Vl) (d : δ → Vl) (f : ε → Vl) (x : α × β × γ × δ × ε) : Vl := .tup [a x.1, b x.2.1, c x.2.2.1, d x.2.2.2.1, f x.2.2.2.2]
abbrev sv (d : Vl) : Sv := ⟨.shr, d⟩
def FOo {w r : Type} (eo : w → List Vl) (er : r → Vl) (t : TF w r) (f : FRes) : Prop := match t with
  | .ret x o => f = .ret (er x) (eo o)
  | .exc c fs o => f = .exc c fs (eo o)
  | .bad => True
def FOoI {r : Type} (er : r → Vl) (t : TF Unit r) (f : FRes) : Prop := match t with
  | .ret x _ => f = .ret .non [er x]
  | .exc c fs _ => ∃ d, f = .exc c fs [d]
  | .bad => True
structure FOk {w r : Type} (eo : w → List Vl) (er : r → Vl) (t : TF w r) (f : FRes) : Prop where
  go : FOo eo er t f
structure FOkI {r : Type} (er : r → Vl) (t : TF Unit r) (f : FRes) : Prop where
  go : FOoI er t f
def outsG : List PM → Nat → List Sl → Option (List Vl)
  | [], _, _ => some []
  | .io :: pm, j, Γ => (match Γ[j]? with
    | some (.vl ⟨.io, d⟩) => (outsG pm (j + 1) Γ).map (d :: ·)
    | _ => none)
  | _ :: pm, j, Γ => outsG pm (j + 1) Γ
theorem outsG.env : ∀ {pm : List PM} {j : Nat} {Γ : List Sl} {ρ : En} {outs : List Vl}, outsG pm j Γ = some outs → EnvR Γ ρ → outsOf pm j ρ = some outs
  | [], _, _, _, _, h, _ => h
  | .sca :: pm, j, Γ, ρ, outs, h, e => outsG.env (pm := pm) (j := j + 1) h e
  | .bor :: pm, j, Γ, ρ, outs, h, e => outsG.env (pm := pm) (j := j + 1) h e
  | .shr :: pm, j, Γ, ρ, outs, h, e => outsG.env (pm := pm) (j := j + 1) h e
  | .io :: pm, j, Γ, ρ, outs, h, e => by
    have h : (match Γ[j]? with
      | some (.vl ⟨.io, d⟩) => (outsG pm (j + 1) Γ).map (d :: ·)
      | _ => none) = some outs := h
    split at h
    · rename_i d g
      cases k : outsG pm (j + 1) Γ with
      | none => rw [k] at h; cases h
      | some os =>
        rw [k] at h
        have ih := outsG.env k e
        show (match ρ[j]? with
          | some (some ⟨.io, d⟩) => (outsOf pm (j + 1) ρ).map (d :: ·)
          | _ => none) = some outs
        rw [e.var g]
        show (outsOf pm (j + 1) ρ).map (d :: ·) = some outs
        rw [ih]; exact h
    · cases h
section
variable {w r ν : Type}
def surF (pm : List PM) (rm : Bool) (eo : w → List Vl) (er : r → Vl) : Sur Empty w r where
  lp := fun _ _ => False
  rt := fun x o s ρ => s.d = er x ∧ resOk rm s = true ∧ outsOf pm 0 ρ = some (eo o)
  ex := fun o ρ => outsOf pm 0 ρ = some (eo o)
def surI (pm : List PM) (er : r → Vl) : Sur Empty Unit r where
  lp := fun _ _ => False
  rt := fun x _ s ρ => s.d = .non ∧ outsOf pm 0 ρ = some [er x]
  ex := fun _ ρ => ∃ d, outsOf pm 0 ρ = some [d]
theorem fok_run {pm : List PM} {rm : Bool} {n : Nat} {body : SemS} {ds : List Vl} {eo : w → List Vl} {er : r → Vl} {t : Oc Empty w r ν} {d : ν → TF w r} {Γ : List Sl} {P : ν → Sr → Prop} (h : RS Γ body t (surF pm rm eo er) P) (he : EnvR Γ (initE pm ds n))
    (hp : ∀ a x, P a x → ∃ ρ', x = .next ρ' ∧ FOk eo er (d a) (fin pm rm ⟨.shr, .non⟩ ρ')) : FOk eo er (t.run d) (runB pm rm n body ds) := by
  have h := h _ he
  refine ⟨?_⟩
  show FOo eo er (t.run d) (match body (initE pm ds n) with
    | .ret s ρ => fin pm rm s ρ
    | .next ρ => fin pm rm ⟨.shr, .non⟩ ρ
    | .exc c fs ρ => (match outsOf pm 0 ρ with
      | some outs => .exc c fs outs
      | none => .bad)
    | _ => .bad)
  cases t with
  | next a =>
    obtain ⟨ρ', e, k⟩ := hp a _ h
    rw [e]; exact k.go
  | brk s => obtain ⟨_, _, k⟩ := h; exact k.elim
  | cont s => obtain ⟨_, _, k⟩ := h; exact k.elim
  | ret x o =>
    obtain ⟨s, ρ', e, k1, k2, k3⟩ := h
    rw [e]
    show fin pm rm s ρ' = .ret (er x) (eo o)
    unfold fin
    rw [k3, ← k1]
    show (match resOk rm s with | true => FRes.ret s.d (eo o) | false => .bad) = _
    rw [k2]
  | exc c fs o =>
    obtain ⟨ρ', e, k⟩ := h
    rw [e]
    show (match outsOf pm 0 ρ' with | some outs => FRes.exc c fs outs | none => .bad) = .exc c fs (eo o)
    rw [show outsOf pm 0 ρ' = some (eo o) from k]
  | bad => exact trivial
theorem foki_run {pm : List PM} {n : Nat} {body : SemS} {ds : List Vl} {er : r → Vl} {t : Oc Empty Unit r ν} {d : ν → TF Unit r} {Γ : List Sl} {P : ν → Sr → Prop} (h : RS Γ body t (surI pm er) P) (he : EnvR Γ (initE pm ds n))
    (hp : ∀ a x, P a x → ∃ ρ', x = .next ρ' ∧ FOkI er (d a) (fin pm true ⟨.shr, .non⟩ ρ')) : FOkI er (t.run d) (runB pm true n body ds) := by
  have h := h _ he
  refine ⟨?_⟩
  show FOoI er (t.run d) (match body (initE pm ds n) with
    | .ret s ρ => fin pm true s ρ
    | .next ρ => fin pm true ⟨.shr, .non⟩ ρ
    | .exc c fs ρ => (match outsOf pm 0 ρ with
      | some outs => .exc c fs outs
      | none => .bad)
    | _ => .bad)
  cases t with
  | next a =>
    obtain ⟨ρ', e, k⟩ := hp a _ h
    rw [e]; exact k.go
  | brk s => obtain ⟨_, _, k⟩ := h; exact k.elim
  | cont s => obtain ⟨_, _, k⟩ := h; exact k.elim
  | ret x o =>
    obtain ⟨s, ρ', e, k1, k3⟩ := h
    rw [e]
    show fin pm true s ρ' = .ret .non [er x]
    unfold fin
    have : resOk true s = true := by unfold resOk; rw [k1]; rfl
    rw [k3, ← k1, this]
  | exc c fs o =>
    obtain ⟨ρ', e, d, k⟩ := h
    rw [e]
    refine ⟨d, ?_⟩
    show (match outsOf pm 0 ρ' with | some outs => FRes.exc c fs outs | none => .bad) = .exc c fs [d]
    rw [k]
  | bad => exact trivial
theorem fall_end {pm : List PM} {rm : Bool} {eo : w → List Vl} {G : w → List Sl} (h : ∀ o, outsG pm 0 (G o) = some (eo o)) : ∀ (a : w) x, PN G a x → ∃ ρ', x = .next ρ' ∧ FOk eo eU (.ret () a) (fin pm rm ⟨.shr, .non⟩ ρ') := by
  rintro a x ⟨ρ', e, k⟩
  refine ⟨ρ', e, ⟨?_⟩⟩
  show fin pm rm ⟨.shr, .non⟩ ρ' = .ret .non (eo a)
  unfold fin
  rw [outsG.env (h a) k]; rfl
theorem fall_init {pm : List PM} {er : r → Vl} {G : r → List Sl} (h : ∀ o, outsG pm 0 (G o) = some [er o]) : ∀ (a : r) x, PN G a x → ∃ ρ', x = .next ρ' ∧ FOkI er (.ret a ()) (fin pm true ⟨.shr, .non⟩ ρ') := by
  rintro a x ⟨ρ', e, k⟩
  refine ⟨ρ', e, ⟨?_⟩⟩
  show fin pm true ⟨.shr, .non⟩ ρ' = .ret .non [er a]
  unfold fin
  rw [outsG.env (h a) k]; rfl
theorem fall_no {R : ν → Sr → En → Prop} : ∀ (a : ν) x, PF a x → ∃ ρ', x = .next ρ' ∧ R a x ρ' := fun _ _ h => h.elim
end
end MV
namespace MV
open PySem PySem.Spec PyProof.Rows L2 He
def seqK (r : Sr) (g : SemS) : Sr := match r with
  | .next ρ => g ρ
  | r => r
def bsel {α : Type} (b : Bool) (x y : α) : α := match b with
  | true => x
  | false => y
def kFrz : K1 := fun s ρ => match s.m with
  | .own => .ok ⟨.shr, s.d⟩ ρ
  | .shr => .ok s ρ
  | _ => .bad
abbrev isv (x : Int) : Sv := ⟨.shr, .int x⟩
abbrev isb (x : Bool) : Sv := ⟨.shr, .bl x⟩
abbrev svN : Sv := ⟨.shr, .non⟩
def retK : Sv → En → Sr := fun s ρ => .ret s ρ
def retB : Bool → En → Sr := fun b ρ => .ret (isb b) ρ
theorem bndS_bnd {α β : Type} (r : Rs α) (h : α → En → Rs β) (k : β → En → Sr) : bndS (bnd r h) k = bndS r fun a ρ => bndS (h a ρ) k := by cases r <;> rfl
theorem bndS_grd {α : Type} (b : Bool) (r : Rs α) (k : α → En → Sr) : bndS (grd b r) k = grdS b (bndS r k) := by cases b <;> rfl
theorem seqK_bndS {α : Type} (r : Rs α) (k : α → En → Sr) (g : SemS) : seqK (bndS r k) g = bndS r fun a ρ => seqK (k a ρ) g := by cases r <;> rfl
theorem seqK_grdS (b : Bool) (r : Sr) (g : SemS) : seqK (grdS b r) g = grdS b (seqK r g) := by cases b <;> rfl
def propO {l w r α : Type} (t : TF Unit α) : Oc l w r α := match t with
  | .ret x _ => .next x
  | _ => .bad
@[simp] theorem propO_ret {l w r α : Type} (x : α) (u : Unit) : (propO (.ret x u) : Oc l w r α) = .next x := rfl
def Sur.nr {l w r : Type} (C : Sur l w r) : Sur Empty w r where
  lp := fun _ _ => False
  rt := fun _ _ _ _ => False
  ex := C.ex
def Sur.loop {l w r l' : Type} (C : Sur l w r) (G : l' → List Sl) : Sur l' w r where
  lp := fun s ρ => EnvR (G s) ρ
  rt := C.rt
  ex := C.ex
section
variable {l w r ν α β γ : Type} {Γ Δ : List Sl} {C : Sur l w r} {P : ν → Sr → Prop} {t : Oc l w r ν}
theorem RS.congr {f g : SemS} (e : ∀ ρ, EnvR Γ ρ → f ρ = g ρ) (h : RS Γ g t C P) : RS Γ f t C P := by
  refine RS.mk fun ρ hρ => ?_
  have h := h ρ hρ
  rw [← e ρ hρ] at h
  exact h
theorem RS.eq {f g : SemS} (e : f = g) (h : RS Γ g t C P) : RS Γ f t C P := e ▸ h
theorem Ev.congr {f g : En → Rs α} {a : α} (e : ∀ ρ, EnvR Γ ρ → f ρ = g ρ) (h : Ev Γ g a) : Ev Γ f a := fun ρ hρ => (e ρ hρ).trans (h ρ hρ)
theorem c_pure {f : En → Rs α} {a : α} {k : α → En → Sr} (h : Ev Γ f a) (g : RS Γ (k a) t C P) : RS Γ (fun ρ => bndS (f ρ) k) t C P := g.congr fun ρ hρ => by rw [h ρ hρ]; rfl
theorem c_ok {f : En → Rs α} {a : α} {k : α → En → Sr} (h : ∀ ρ, f ρ = .ok a ρ) (g : RS Γ (k a) t C P) : RS Γ (fun ρ => bndS (f ρ) k) t C P := c_pure (fun ρ _ => h ρ) g
theorem c_grd {b : Bool} {f : SemS} (h : b = true) (g : RS Γ f t C P) : RS Γ (fun ρ => grdS b (f ρ)) t C P := g.congr fun ρ _ => by rw [h]; rfl
theorem c_bad {f : SemS} : RS Γ f (.bad : Oc l w r ν) C P := RS.mk fun _ _ => trivial
theorem c_one {fa : Sem1} {k1 : K1} {k : Sv → En → Sr} (h : RS Γ (fun ρ => bndS (fa ρ) fun s ρ1 => bndS (k1 s ρ1) k) t C P) : RS Γ (fun ρ => bndS (fOne fa k1 ρ) k) t C P := h.congr fun _ _ => bndS_bnd _ _ _
theorem c_two {qb : Bool} {fa fb : Sem1} {k2 : K2} {k : Sv → En → Sr} (h : RS Γ (fun ρ => bndS (fa ρ) fun a ρ1 => grdS (held a.m qb) (bndS (fb ρ1) fun b ρ2 => bndS (k2 a b ρ2) k)) t C P) : RS Γ (fun ρ => bndS (fTwo qb fa fb k2 ρ) k) t C P :=
  h.congr fun ρ _ => by
    show bndS (bnd (fa ρ) fun a ρ1 => grd (held a.m qb) (bnd (fb ρ1) fun b ρ2 => k2 a b ρ2)) k = _
    rw [bndS_bnd]
    congr 1; funext a ρ1
    rw [bndS_grd, bndS_bnd]
theorem c_frz {fa : Sem1} {k : Sv → En → Sr} (h : RS Γ (fun ρ => bndS (fa ρ) fun s ρ1 => bndS (kFrz s ρ1) k) t C P) : RS Γ (fun ρ => bndS (fFrz fa ρ) k) t C P := h.congr fun ρ _ => bndS_bnd (fa ρ) kFrz k
theorem c_aEx {fa : Sem1} {fr : SemA} {k : List Ar → En → Sr} (h : RS Γ (fun ρ => bndS (fa ρ) fun s ρ1 => grdS (!s.m.isT) (bndS (fr ρ1) fun as ρ2 => k (.ex s :: as) ρ2)) t C P) : RS Γ (fun ρ => bndS (aEx fa fr ρ) k) t C P :=
  h.congr fun ρ _ => by
    show bndS (bnd (fa ρ) fun s ρ1 => grd (!s.m.isT) (bnd (fr ρ1) fun as ρ2 => .ok (.ex s :: as) ρ2)) k = _
    rw [bndS_bnd]
    congr 1; funext a ρ1
    rw [bndS_grd, bndS_bnd]; rfl
theorem asg_var {i : Nat} {s : Sv} {ρ : En} (e : EnvR Γ ρ) (h : Γ[i]? = some (.vl s)) : asg ρ i = true := by unfold asg; rw [e.var h]
theorem c_aSl {i : Nat} {s : Sv} {fr : SemA} {k : List Ar → En → Sr} (e : Γ[i]? = some (.vl s)) (h : RS Γ (fun ρ => bndS (fr ρ) fun as ρ2 => k (.sl i :: as) ρ2) t C P) : RS Γ (fun ρ => bndS (aSl i fr ρ) k) t C P :=
  h.congr fun ρ hρ => by
    show bndS (grd (asg ρ i) (bnd (fr ρ) fun as ρ2 => .ok (.sl i :: as) ρ2)) k = _
    rw [bndS_grd, bndS_bnd, asg_var hρ e]; rfl
theorem v_rSl {i : Nat} {s : Sv} (e : Γ[i]? = some (.vl s)) : Ev Γ (rSl i) (.sl i) := fun ρ hρ => by
  unfold rSl
  rw [asg_var hρ e]; rfl
theorem c_lst {f : SemA} {k : Sv → En → Sr} (h : RS Γ (fun ρ => bndS (f ρ) fun s ρ1 => bndS (kLst s ρ1) k) t C P) : RS Γ (fun ρ => bndS (fLst f ρ) k) t C P := h.congr fun _ _ => bndS_bnd _ _ _
theorem c_call {pm : List PM} {rm : Bool} {fn : Fn} {fa : SemA} {k : Sv → En → Sr} (h : RS Γ (fun ρ => bndS (fa ρ) fun as ρ1 => bndS (kCall pm rm fn as ρ1) k) t C P) : RS Γ (fun ρ => bndS (fCall pm rm fn fa ρ) k) t C P := h.congr fun _ _ => bndS_bnd _ _ _
theorem c_make {c : Str} {pm : List PM} {fn : Fn} {fa : SemA} {k : Sv → En → Sr} (h : RS Γ (fun ρ => bndS (fa ρ) fun as ρ1 => bndS (kMake c pm fn as ρ1) k) t C P) : RS Γ (fun ρ => bndS (fMake c pm fn fa ρ) k) t C P := h.congr fun _ _ => bndS_bnd _ _ _
def grdC (c m : Str) (a : Ar) (f : SemS) : SemS := fun ρ => grdS (clsOk c m ρ a) (f ρ)
theorem c_meth {c m : Str} {pm : List PM} {rm : Bool} {fn : Fn} {fo : SemR} {fa : SemA} {k : Sv → En → Sr} (h : RS Γ (fun ρ => bndS (fo ρ) fun a => grdC c m a fun ρ1 => bndS (fa ρ1) fun as ρ2 => bndS (kCall pm rm fn (a :: as) ρ2) k) t C P) : RS Γ (fun ρ => bndS (fMeth c m pm rm fn fo fa ρ) k) t C P :=
  h.congr fun ρ _ => by
    show bndS (bnd (fo ρ) fun a ρ1 => grd (clsOk c m ρ1 a) (bnd (fa ρ1) fun as ρ2 => kCall pm rm fn (a :: as) ρ2)) k = _
    rw [bndS_bnd]
    congr 1; funext a ρ1
    rw [bndS_grd, bndS_bnd]; rfl
theorem c_prop {c m : Str} {rm : Bool} {fn : Fn} {fo : SemR} {k : Sv → En → Sr} (h : RS Γ (fun ρ => bndS (fo ρ) fun a => grdC c m a fun ρ1 => bndS (noX (kCall [.bor] rm fn [a] ρ1)) k) t C P) : RS Γ (fun ρ => bndS (fProp c m rm fn fo ρ) k) t C P :=
  h.congr fun ρ _ => by
    show bndS (bnd (fo ρ) fun a ρ1 => grd (clsOk c m ρ1 a) (noX (kCall [.bor] rm fn [a] ρ1))) k = _
    rw [bndS_bnd]
    congr 1; funext a ρ1
    rw [bndS_grd]; rfl
theorem c_op2 {c m : Str} {pm : List PM} {rm : Bool} {fn : Fn} {fo fb : SemR} {k : Sv → En → Sr} (h : RS Γ (fun ρ => bndS (fo ρ) fun a ρ1 => grdS (ntA a) (bndS (fb ρ1) fun b => grdC c m a (grdC c m b fun ρ2 => bndS (kCall pm rm fn [a, b] ρ2) k))) t C P) : RS Γ (fun ρ => bndS (fOp2 c m pm rm fn fo fb ρ) k) t C P :=
  h.congr fun ρ _ => by
    show bndS (bnd (fo ρ) fun a ρ1 => grd (ntA a) (bnd (fb ρ1) fun b ρ2 => grd (clsOk c m ρ2 a && clsOk c m ρ2 b) (kCall pm rm fn [a, b] ρ2))) k = _
    rw [bndS_bnd]
    congr 1; funext a ρ1
    rw [bndS_grd, bndS_bnd]
    congr 2; funext b ρ2
    rw [bndS_grd]
    show _ = grdS (clsOk c m ρ2 a) (grdS (clsOk c m ρ2 b) _)
    cases clsOk c m ρ2 a <;> cases clsOk c m ρ2 b <;> rfl
def arG (Γ : List Sl) : Ar → Option Sv
  | .ex s => some s
  | .sl i => match Γ[i]? with
    | some (.vl s) => some s
    | _ => none
theorem arG.env {a : Ar} {s : Sv} {ρ : En} (h : arG Γ a = some s) (e : EnvR Γ ρ) : arV ρ a = some s := by
  cases a with
  | ex s => exact h
  | sl i =>
    have h : (match Γ[i]? with | some (.vl s) => some s | _ => none) = some s := h
    split at h
    · rename_i s' g
      have : s' = s := by injection h
      subst this
      show (match ρ[i]? with | some (some s) => some s | _ => none) = _
      rw [e.var g]
    · cases h
def argG (Γ : List Sl) : List PM → List Ar → Option (List Vl)
  | [], [] => some []
  | p :: pm, a :: as => match arG Γ a with
    | some s => match arD p s with
      | some d => (argG Γ pm as).map (d :: ·)
      | none => none
    | none => none
  | _, _ => none
theorem argG.env {ρ : En} (e : EnvR Γ ρ) : ∀ {pm : List PM} {as : List Ar} {ds : List Vl}, argG Γ pm as = some ds → argVs ρ pm as = some ds
  | [], [], ds, h => h
  | [], _ :: _, _, h => by cases h
  | _ :: _, [], _, h => by cases h
  | p :: pm, a :: as, ds, h => by
    have h : (match arG Γ a with
      | some s => match arD p s with
        | some d => (argG Γ pm as).map (d :: ·)
        | none => none
      | none => none) = some ds := h
    show (match arV ρ a with
      | some s => match arD p s with
        | some d => (argVs ρ pm as).map (d :: ·)
        | none => none
      | none => none) = some ds
    cases h1 : arG Γ a with
    | none => rw [h1] at h; cases h
    | some s =>
      rw [h1] at h
      rw [arG.env h1 e]
      show (match arD p s with
        | some d => (argVs ρ pm as).map (d :: ·)
        | none => none) = some ds
      have h : (match arD p s with
        | some d => (argG Γ pm as).map (d :: ·)
        | none => none) = some ds := h
      cases h2 : arD p s with
      | none => rw [h2] at h; cases h
      | some d =>
        rw [h2] at h
        have h : (argG Γ pm as).map (d :: ·) = some ds := h
        cases h3 : argG Γ pm as with
        | none => rw [h3] at h; cases h
        | some ds' =>
          rw [h3] at h
          show (argVs ρ pm as).map (d :: ·) = _
          rw [argG.env e h3]; exact h
theorem c_cls {c m : Str} {a : Ar} {s : Sv} {fs : List (Str × Vl)} {f : SemS} (ha : arG Γ a = some s) (hd : s.d = .ins c fs) (ht : s.m.isT = false) (hf : fs.lookup m = none) (h : RS Γ f t C P) : RS Γ (grdC c m a f) t C P :=
  h.congr fun ρ hρ => by
    have : clsOk c m ρ a = true := by
      unfold clsOk
      rw [arG.env ha hρ]
      obtain ⟨md, d⟩ := s
      have hd : d = .ins c fs := hd
      subst hd
      show (!md.isT && (c == c) && (fs.lookup m).isNone) = true
      rw [show md.isT = false from ht, hf, beq_self_eq_true]; rfl
    show grdS (clsOk c m ρ a) (f ρ) = f ρ
    rw [this]; rfl
theorem c_kcall {pm : List PM} {rm : Bool} {fn : Fn} {as : List Ar} {ds : List Vl} {k : Sv → En → Sr} {er : α → Vl} {tf : TF Unit α} {o : w} {u : α → Oc l w r ν} (hf : FOk (fun _ => []) er tf (fn ds)) (h1 : argG Γ pm as = some ds) (h2 : ioSl pm as = []) (h3 : chkA [] pm as = true) (hx : ∀ ρ, EnvR Γ ρ → C.ex o ρ) (s : α → Sv) (hs : ∀ a, resM rm (er a) = s a)
    (h' : ∀ a, RS Γ (k (s a)) (u a) C P) : RS Γ (fun ρ => bndS (kCall pm rm fn as ρ) k) ((callO o tf).bind u) C P := by
  have h : ∀ a, RS Γ (k (resM rm (er a))) (u a) C P := fun a => by rw [hs a]; exact h' a
  refine RS.mk fun ρ hρ => ?_
  have e : kCall pm rm fn as ρ = (match fn ds with
      | .ret r outs => .ok (resM rm r) (setOuts (ioSl pm as) outs ρ)
      | .exc c fs outs => .exc c fs (setOuts (ioSl pm as) outs ρ)
      | .bad => .bad) := by
    unfold kCall
    rw [h2, h3, argG.env hρ h1]; rfl
  have ho : ∀ outs, setOuts (ioSl pm as) outs ρ = ρ := fun outs => by rw [h2]; cases outs <;> rfl
  cases tf with
  | ret x u' =>
    have hf : fn ds = .ret (er x) [] := hf.go
    rw [hf] at e
    have e : kCall pm rm fn as ρ = .ok (resM rm (er x)) (setOuts (ioSl pm as) [] ρ) := e
    rw [ho] at e
    have := h x ρ hρ
    rw [show k (resM rm (er x)) ρ = bndS (kCall pm rm fn as ρ) k by rw [e]; rfl] at this
    exact this
  | exc c fs u' =>
    have hf : fn ds = .exc c fs [] := hf.go
    rw [hf] at e
    have e : kCall pm rm fn as ρ = .exc c fs (setOuts (ioSl pm as) [] ρ) := e
    rw [ho] at e
    exact ⟨ρ, by show bndS (kCall pm rm fn as ρ) k = _; rw [e]; rfl, hx ρ hρ⟩
  | bad => exact trivial
theorem c_kprop {rm : Bool} {fn : Fn} {a : Ar} {d : Vl} {k : Sv → En → Sr} {er : α → Vl} {tf : TF Unit α} {u : α → Oc l w r ν} (hf : FOk (fun _ => []) er tf (fn [d])) (h1 : argG Γ [.bor] [a] = some [d]) (s : α → Sv) (hs : ∀ a, resM rm (er a) = s a)
    (h' : ∀ a, RS Γ (k (s a)) (u a) C P) : RS Γ (fun ρ => bndS (noX (kCall [.bor] rm fn [a] ρ)) k) ((propO tf).bind u) C P := by
  have h : ∀ a, RS Γ (k (resM rm (er a))) (u a) C P := fun a => by rw [hs a]; exact h' a
  refine RS.mk fun ρ hρ => ?_
  have e : kCall [.bor] rm fn [a] ρ = (match fn [d] with
      | .ret r outs => .ok (resM rm r) (setOuts (ioSl [.bor] [a]) outs ρ)
      | .exc c fs outs => .exc c fs (setOuts (ioSl [.bor] [a]) outs ρ)
      | .bad => .bad) := by
    unfold kCall
    have : (ndB (ioSl [.bor] [a]) && chkA (ioSl [.bor] [a]) [.bor] [a]) = true := by cases a <;> rfl
    rw [this, argG.env hρ h1]; rfl
  have ho : ∀ outs, setOuts (ioSl [.bor] [a]) outs ρ = ρ := fun outs => by cases a <;> cases outs <;> rfl
  cases tf with
  | ret x u' =>
    have hf : fn [d] = .ret (er x) [] := hf.go
    rw [hf] at e
    have e : kCall [.bor] rm fn [a] ρ = .ok (resM rm (er x)) (setOuts (ioSl [.bor] [a]) [] ρ) := e
    rw [ho] at e
    have := h x ρ hρ
    rw [show k (resM rm (er x)) ρ = bndS (noX (kCall [.bor] rm fn [a] ρ)) k by rw [e]; rfl] at this
    exact this
  | exc c fs u' => exact trivial
  | bad => exact trivial
end
end MV
namespace MV
open PySem PySem.Spec PyProof.Rows L2 He
def putG (Γ : List Sl) (i : Nat) (d : Vl) : List Sl := match Γ[i]? with
  | some (.vl ⟨m, _⟩) => Γ.set i (.vl ⟨m, d⟩)
  | _ => Γ
def outG : List Nat → List Vl → List Sl → List Sl
  | i :: is, d :: ds, Γ => outG is ds (putG Γ i d)
  | _, _, Γ => Γ
def vlG (Γ : List Sl) (i : Nat) : Bool := match Γ[i]? with
  | some (.vl _) => true
  | _ => false
theorem putG.vl {Γ : List Sl} {i j : Nat} {d : Vl} (h : vlG Γ j = true) : vlG (putG Γ i d) j = true := by
  unfold putG
  split
  · rename_i m d' e
    unfold vlG at h ⊢
    rw [List.getElem?_set]
    by_cases c : i = j
    · subst c
      have : i < Γ.length := by
        rcases Nat.lt_or_ge i Γ.length with q | q
        · exact q
        · rw [List.getElem?_eq_none q] at e; cases e
      rw [if_pos rfl, if_pos this]
    · rw [if_neg c]; exact h
  · exact h
theorem putG.env {Γ : List Sl} {ρ : En} {i : Nat} {d : Vl} (h : vlG Γ i = true) (e : EnvR Γ ρ) : EnvR (putG Γ i d) (putD ρ i d) := by
  unfold vlG at h
  unfold putG putD
  split at h
  · rename_i s g
    obtain ⟨m, d'⟩ := s
    rw [g, e.var g]
    exact EnvR.set (show SlR (.vl ⟨m, d⟩) (some ⟨m, d⟩) from rfl) e
  · cases h
theorem outG.env : ∀ {is : List Nat} {ds : List Vl} {Γ : List Sl} {ρ : En}, is.all (vlG Γ) = true → EnvR Γ ρ → EnvR (outG is ds Γ) (setOuts is ds ρ)
  | [], _, _, _, _, e => e
  | i :: is, [], _, _, _, e => e
  | i :: is, d :: ds, Γ, ρ, h, e => by
    have h : (vlG Γ i && is.all (vlG Γ)) = true := h
    rw [Bool.and_eq_true] at h
    refine outG.env (is := is) (ds := ds) ?_ (putG.env h.1 e)
    rw [List.all_eq_true] at h ⊢
    exact fun j hj => (h.2 j hj : vlG Γ j = true) |> putG.vl
section
variable {l w w' r ν α β γ : Type} {Γ Δ : List Sl} {C : Sur l w r} {P : ν → Sr → Prop} {t : Oc l w r ν}
theorem c_kcallI {pm : List PM} {rm : Bool} {fn : Fn} {as : List Ar} {ds : List Vl} {k : Sv → En → Sr} {eo : w' → List Vl} {er : α → Vl} {tf : TF w' α} {g : w' → w} {u : α × w' → Oc l w r ν} (is : List Nat) (hf : FOk eo er tf (fn ds)) (h1 : argG Γ pm as = some ds) (h2 : ioSl pm as = is) (h3 : (ndB is && chkA is pm as) = true) (h4 : is.all (vlG Γ) = true)
    (hx : ∀ o ρ, EnvR (outG is (eo o) Γ) ρ → C.ex (g o) ρ) (s : α → Sv) (hs : ∀ a, resM rm (er a) = s a)
    (h' : ∀ a, RS (outG is (eo a.2) Γ) (k (s a.1)) (u a) C P) : RS Γ (fun ρ => bndS (kCall pm rm fn as ρ) k) ((callI g tf).bind u) C P := by
  have h : ∀ a, RS (outG is (eo a.2) Γ) (k (resM rm (er a.1))) (u a) C P := fun a => by rw [hs a.1]; exact h' a
  refine RS.mk fun ρ hρ => ?_
  have e : kCall pm rm fn as ρ = (match fn ds with
      | .ret r outs => .ok (resM rm r) (setOuts is outs ρ)
      | .exc c fs outs => .exc c fs (setOuts is outs ρ)
      | .bad => .bad) := by
    unfold kCall
    rw [h2, h3, argG.env hρ h1]; rfl
  have he : ∀ outs, EnvR (outG is outs Γ) (setOuts is outs ρ) := fun outs => outG.env h4 hρ
  cases tf with
  | ret x o =>
    have hf : fn ds = .ret (er x) (eo o) := hf.go
    rw [hf] at e
    have e : kCall pm rm fn as ρ = .ok (resM rm (er x)) (setOuts is (eo o) ρ) := e
    have := h (x, o) _ (he (eo o))
    rw [show k (resM rm (er x)) (setOuts is (eo o) ρ) = bndS (kCall pm rm fn as ρ) k by rw [e]; rfl] at this
    exact this
  | exc c fs o =>
    have hf : fn ds = .exc c fs (eo o) := hf.go
    rw [hf] at e
    have e : kCall pm rm fn as ρ = .exc c fs (setOuts is (eo o) ρ) := e
    exact ⟨_, by show bndS (kCall pm rm fn as ρ) k = _; rw [e]; rfl, hx o _ (he _)⟩
  | bad => exact trivial
theorem c_kmake {c : Str} {pm : List PM} {fn : Fn} {as : List Ar} {ds : List Vl} {k : Sv → En → Sr} {er : α → Vl} {tf : TF Unit α} {o : w} {u : α → Oc l w r ν} (hf : FOkI er tf (fn (.ins c [] :: ds))) (h1 : argG Γ pm as = some ds) (h2 : ((ioSl pm as).isEmpty && chkA [] pm as) = true) (hx : ∀ ρ, EnvR Γ ρ → C.ex o ρ)
    (h : ∀ a, RS Γ (k ⟨.own, er a⟩) (u a) C P) : RS Γ (fun ρ => bndS (kMake c pm fn as ρ) k) ((callO o tf).bind u) C P := by
  refine RS.mk fun ρ hρ => ?_
  have e : kMake c pm fn as ρ = (match fn (.ins c [] :: ds) with
      | .ret .non [d] => .ok ⟨.own, d⟩ ρ
      | .exc c fs [_] => .exc c fs ρ
      | _ => .bad) := by
    unfold kMake
    rw [h2, argG.env hρ h1]; rfl
  cases tf with
  | ret x u' =>
    have hf : fn (.ins c [] :: ds) = .ret .non [er x] := hf.go
    rw [hf] at e
    have e : kMake c pm fn as ρ = .ok ⟨.own, er x⟩ ρ := e
    have := h x ρ hρ
    rw [show k ⟨.own, er x⟩ ρ = bndS (kMake c pm fn as ρ) k by rw [e]; rfl] at this
    exact this
  | exc c' fs u' =>
    obtain ⟨d, hf⟩ : ∃ d, fn (.ins c [] :: ds) = .exc c' fs [d] := hf.go
    rw [hf] at e
    have e : kMake c pm fn as ρ = .exc c' fs ρ := e
    exact ⟨ρ, by show bndS (kMake c pm fn as ρ) k = _; rw [e]; rfl, hx ρ hρ⟩
  | bad => exact trivial
theorem v_sh {i : Nat} {d : Vl} (h : Γ[i]? = some (.vl ⟨.shr, d⟩)) : Ev Γ (fVar i) ⟨.shr, d⟩ := fun ρ hρ => by unfold fVar; rw [hρ.var h]
theorem v_bo {i : Nat} {d : Vl} (h : Γ[i]? = some (.vl ⟨.bor, d⟩)) : Ev Γ (fVar i) ⟨.bor, d⟩ := fun ρ hρ => by unfold fVar; rw [hρ.var h]
theorem v_c {d : Vl} : Ev Γ (fC d) ⟨.shr, d⟩ := fun _ _ => rfl
theorem v_one {fa : Sem1} {k : K1} {s u : Sv} (h : Ev Γ fa s) (hk : ∀ ρ, k s ρ = .ok u ρ) : Ev Γ (fOne fa k) u := fun ρ hρ => by
  unfold fOne; rw [h ρ hρ]; exact hk ρ
theorem v_two {qb : Bool} {fa fb : Sem1} {k : K2} {s s' u : Sv} (h : Ev Γ fa s) (h' : Ev Γ fb s') (hh : held s.m qb = true) (hk : ∀ ρ, k s s' ρ = .ok u ρ) : Ev Γ (fTwo qb fa fb k) u := fun ρ hρ => by
  unfold fTwo; rw [h ρ hρ]
  show grd (held s.m qb) (bnd (fb ρ) _) = _
  rw [hh, h' ρ hρ]; exact hk ρ
theorem v_frz {fa : Sem1} {s u : Sv} (h : Ev Γ fa s) (hk : ∀ ρ, kFrz s ρ = .ok u ρ) : Ev Γ (fFrz fa) u := fun ρ hρ => by
  show bnd (fa ρ) kFrz = _
  rw [h ρ hρ]; exact hk ρ
theorem v_aN : Ev Γ aNil [] := fun _ _ => rfl
theorem v_aE {fa : Sem1} {fr : SemA} {s : Sv} {as : List Ar} (h : Ev Γ fa s) (n : s.m.isT = false) (h' : Ev Γ fr as) : Ev Γ (aEx fa fr) (.ex s :: as) := fun ρ hρ => by
  unfold aEx; rw [h ρ hρ]
  show grd (!s.m.isT) (bnd (fr ρ) _) = _
  rw [n, h' ρ hρ]; rfl
theorem v_aS {i : Nat} {s : Sv} {fr : SemA} {as : List Ar} (e : Γ[i]? = some (.vl s)) (h' : Ev Γ fr as) : Ev Γ (aSl i fr) (.sl i :: as) := fun ρ hρ => by
  unfold aSl; rw [asg_var hρ e, h' ρ hρ]; rfl
theorem v_lst {fa : SemA} {as : List Ar} {u : Sv} (h : Ev Γ fa as) (hk : ∀ ρ, kLst as ρ = .ok u ρ) : Ev Γ (fLst fa) u := fun ρ hρ => by
  unfold fLst; rw [h ρ hρ]; exact hk ρ
theorem v_tst {f : Sem1} {m : Md} {b : Bool} (h : Ev Γ f ⟨m, .bl b⟩) : Ev Γ (fTst f) b := fun ρ hρ => by unfold fTst; rw [h ρ hρ]; rfl
theorem v_tru {f : Sem1} {s : Sv} {b : Bool} (h : Ev Γ f s) (k : tru s.d = some b) : Ev Γ (fTru f) b := fun ρ hρ => by
  unfold fTru; rw [h ρ hρ]
  show (match tru s.d with | some b => Rs.ok b ρ | none => .bad) = _
  rw [k]
theorem v_or {fa fb : SemB} {p q : Prop} [Decidable p] [Decidable q] (h : Ev Γ fa (decide p)) (h' : Ev Γ fb (decide q)) : Ev Γ (fOr fa fb) (decide (p ∨ q)) := fun ρ hρ => by
  unfold fOr; rw [h ρ hρ]
  by_cases c : p
  · rw [decide_eq_true c, decide_eq_true (.inl c)]; rfl
  · rw [decide_eq_false c]
    show fb ρ = _
    rw [h' ρ hρ]
    by_cases d : q
    · rw [decide_eq_true d, decide_eq_true (.inr d)]
    · rw [decide_eq_false d, decide_eq_false (by rintro (z | z); exact c z; exact d z)]
theorem v_not {fa : SemB} {p : Prop} [Decidable p] (h : Ev Γ fa (decide p)) : Ev Γ (fNot fa) (decide (¬ p)) := fun ρ hρ => by
  unfold fNot; rw [h ρ hρ]
  by_cases c : p
  · rw [decide_eq_true c, decide_eq_false fun z => z c]; rfl
  · rw [decide_eq_false c, decide_eq_true c]; rfl
theorem v_bp {g : SemB} {b : Bool} (h : Ev Γ g b) : Ev Γ g (decide (b = true)) := by rw [Bool.decide_eq_true]; exact h
theorem v_andV {fa fb : Sem1} {p q : Prop} [Decidable p] [Decidable q] (h : Ev Γ fa (isb (decide p))) (h' : Ev Γ fb (isb (decide q))) : Ev Γ (fAndV fa fb) (isb (decide (p ∧ q))) := fun ρ hρ => by
  unfold fAndV; rw [h ρ hρ]
  by_cases c : p
  · rw [decide_eq_true c]
    show fb ρ = _
    rw [h' ρ hρ]
    by_cases d : q
    · rw [decide_eq_true d, decide_eq_true ⟨c, d⟩]
    · rw [decide_eq_false d, decide_eq_false fun z => d z.2]
  · rw [decide_eq_false c, decide_eq_false fun z => c z.1]; rfl
theorem v_bpV {g : Sem1} {b : Bool} (h : Ev Γ g (isb b)) : Ev Γ g (isb (decide (b = true))) := by rw [Bool.decide_eq_true]; exact h
theorem v_chain {p p' : Int → Int → Bool} {fa fb fc : Sem1} {m m' m'' : Md} {i j k : Int} {q q' : Prop} [Decidable q] [Decidable q'] (h1 : Ev Γ fa ⟨m, .int i⟩) (h2 : Ev Γ fb ⟨m', .int j⟩) (h3 : Ev Γ fc ⟨m'', .int k⟩) (e : p i j = decide q) (e' : p' j k = decide q') : Ev Γ (fChain p p' fa fb fc) (isb (decide (q ∧ q'))) := fun ρ hρ => by
  unfold fChain; rw [h1 ρ hρ]
  show bnd (fb ρ) _ = _
  rw [h2 ρ hρ]
  show (match p i j with | true => bnd (fc ρ) (kI fun k ρ3 => .ok ⟨.shr, .bl (p' j k)⟩ ρ3) | false => Rs.ok (isb false) ρ) = _
  rw [e]
  by_cases c : q
  · rw [decide_eq_true c]
    show bnd (fc ρ) _ = _
    rw [h3 ρ hρ]
    show Rs.ok (isb (p' j k)) ρ = _
    rw [e']
    by_cases d : q'
    · rw [decide_eq_true d, decide_eq_true ⟨c, d⟩]
    · rw [decide_eq_false d, decide_eq_false fun z => d z.2]
  · rw [decide_eq_false c, decide_eq_false fun z => c z.1]
theorem c_tst {f : Sem1} {k : Bool → En → Sr} (h : RS Γ (fun ρ => bndS (f ρ) fun s ρ1 => bndS (kBl s ρ1) k) t C P) : RS Γ (fun ρ => bndS (fTst f ρ) k) t C P := h.congr fun _ _ => bndS_bnd _ _ _
theorem c_tru {f : Sem1} {k : Bool → En → Sr} (h : RS Γ (fun ρ => bndS (f ρ) fun s ρ1 => bndS (kTru s ρ1) k) t C P) : RS Γ (fun ρ => bndS (fTru f ρ) k) t C P := h.congr fun _ _ => bndS_bnd _ _ _
theorem c_ktru {s : Sv} {b : Bool} {k : Bool → En → Sr} (e : tru s.d = some b) (h : RS Γ (k b) t C P) : RS Γ (fun ρ => bndS (kTru s ρ) k) t C P := h.congr fun ρ _ => by
  show bndS (match tru s.d with | some b => Rs.ok b ρ | none => .bad) k = _
  rw [e]; rfl
theorem c_or {fa fb : SemB} {k : Bool → En → Sr} (h : RS Γ (fun ρ => bndS (fa ρ) fun x ρ1 => bsel x (k true ρ1) (bndS (fb ρ1) k)) t C P) : RS Γ (fun ρ => bndS (fOr fa fb ρ) k) t C P :=
  h.congr fun ρ _ => by
    unfold fOr
    rw [bndS_bnd]
    congr 1; funext x ρ1
    cases x <;> rfl
theorem c_not {fa : SemB} {k : Bool → En → Sr} (h : RS Γ (fun ρ => bndS (fa ρ) fun x ρ1 => k (!x) ρ1) t C P) : RS Γ (fun ρ => bndS (fNot fa ρ) k) t C P :=
  h.congr fun ρ _ => by unfold fNot; rw [bndS_bnd]; rfl
theorem c_andV {fa fb : Sem1} {k : Sv → En → Sr} (h : RS Γ (fun ρ => bndS (fa ρ) fun s ρ1 => bndS (kBl s ρ1) fun x ρ1 => bsel x (bndS (fb ρ1) k) (k (isb false) ρ1)) t C P) : RS Γ (fun ρ => bndS (fAndV fa fb ρ) k) t C P :=
  h.congr fun ρ _ => by
    unfold fAndV
    rw [bndS_bnd, bndS_bnd]
    congr 1; funext s ρ1
    congr 1; funext x ρ1
    cases x <;> rfl
theorem c_chain {p p' : Int → Int → Bool} {fa fb fc : Sem1} {k : Sv → En → Sr} (h : RS Γ (fun ρ => bndS (fa ρ) (kIS fun i ρ1 => bndS (fb ρ1) (kIS fun j ρ2 => bsel (p i j) (bndS (fc ρ2) (kIS fun k' ρ3 => k (isb (p' j k')) ρ3)) (k (isb false) ρ2)))) t C P) : RS Γ (fun ρ => bndS (fChain p p' fa fb fc ρ) k) t C P :=
  have e : ∀ (s : Sv) (ρ : En) (h : Int → En → Rs Sv), bndS (kI h s ρ) k = kIS (fun i ρ => bndS (h i ρ) k) s ρ := fun s ρ h => by
    obtain ⟨m, d⟩ := s
    cases d <;> rfl
  h.congr fun ρ _ => by
    unfold fChain
    rw [bndS_bnd]
    congr 1; funext s ρ1
    rw [e]
    congr 1; funext i ρ1
    rw [bndS_bnd]
    congr 1; funext s ρ2
    rw [e]
    congr 1; funext j ρ2
    cases p i j with
    | true =>
      show bndS (bnd (fc ρ2) _) k = bndS (fc ρ2) _
      rw [bndS_bnd]
      congr 1; funext s ρ3
      rw [e]; rfl
    | false => rfl
theorem c_sel {A B : SemS} {b : Bool} {p : Prop} [Decidable p] {ta tb : Oc l w r ν} (e : b = decide p) (ha : RS Γ A ta C P) (hb : RS Γ B tb C P) : RS Γ (fun ρ => bsel b (A ρ) (B ρ)) (if p then ta else tb) C P := by
  by_cases c : p
  · rw [if_pos c]
    refine ha.congr fun ρ _ => ?_
    rw [e, decide_eq_true c]; rfl
  · rw [if_neg c]
    refine hb.congr fun ρ _ => ?_
    rw [e, decide_eq_false c]; rfl
theorem c_join {f : Sem1} {k : Sv → En → Sr} {tv : Oc Empty w r α} {v : α → Sv} {G : α → List Sl} {u : α → Oc l w r ν} (h : RS Γ (fun ρ => bndS (f ρ) retK) tv C.nr (PV v G)) (g : ∀ a, RS (G a) (k (v a)) (u a) C P) : RS Γ (fun ρ => bndS (f ρ) k) ((liftO tv).bind u) C P := by
  refine RS.mk fun ρ hρ => ?_
  have h := h ρ hρ
  cases tv with
  | next a =>
    obtain ⟨ρ', e, k'⟩ := h
    have e' : f ρ = .ok (v a) ρ' := by
      cases ef : f ρ with
      | ok s ρ1 =>
        have e : bndS (f ρ) retK = .ret (v a) ρ' := e
        rw [ef] at e
        have e : Sr.ret s ρ1 = .ret (v a) ρ' := e
        injection e with e1 e2
        rw [e1, e2]
      | exc c fs ρ1 => have e : bndS (f ρ) retK = .ret (v a) ρ' := e; rw [ef] at e; cases e
      | bad => have e : bndS (f ρ) retK = .ret (v a) ρ' := e; rw [ef] at e; cases e
    have := g a ρ' k'
    rw [show k (v a) ρ' = bndS (f ρ) k by rw [e']; rfl] at this
    exact this
  | brk s => exact s.elim
  | cont s => exact s.elim
  | ret x o => obtain ⟨_, _, _, z⟩ := h; exact z.elim
  | exc c fs o =>
    obtain ⟨ρ', e, k'⟩ := h
    refine ⟨ρ', ?_, k'⟩
    cases ef : f ρ with
    | ok s ρ1 => have e : bndS (f ρ) retK = .exc c fs ρ' := e; rw [ef] at e; cases e
    | exc c' fs' ρ1 =>
      have e : bndS (f ρ) retK = .exc c fs ρ' := e
      rw [ef] at e
      exact e
    | bad => have e : bndS (f ρ) retK = .exc c fs ρ' := e; rw [ef] at e; cases e
  | bad => exact trivial
theorem c_joinB {f : SemB} {k : Bool → En → Sr} {tv : Oc Empty w r α} {v : α → Bool} {G : α → List Sl} {u : α → Oc l w r ν} (h : RS Γ (fun ρ => bndS (f ρ) retB) tv C.nr (PV (fun a => isb (v a)) G)) (g : ∀ a, RS (G a) (k (v a)) (u a) C P) : RS Γ (fun ρ => bndS (f ρ) k) ((liftO tv).bind u) C P := by
  refine RS.mk fun ρ hρ => ?_
  have h := h ρ hρ
  cases tv with
  | next a =>
    obtain ⟨ρ', e, k'⟩ := h
    have e' : f ρ = .ok (v a) ρ' := by
      cases ef : f ρ with
      | ok s ρ1 =>
        have e : bndS (f ρ) retB = .ret (isb (v a)) ρ' := e
        rw [ef] at e
        have e : Sr.ret (isb s) ρ1 = .ret (isb (v a)) ρ' := e
        injection e with e1 e2
        injection e1 with e3 e4
        injection e4 with e5
        rw [e5, e2]
      | exc c fs ρ1 => have e : bndS (f ρ) retB = .ret (isb (v a)) ρ' := e; rw [ef] at e; cases e
      | bad => have e : bndS (f ρ) retB = .ret (isb (v a)) ρ' := e; rw [ef] at e; cases e
    have := g a ρ' k'
    rw [show k (v a) ρ' = bndS (f ρ) k by rw [e']; rfl] at this
    exact this
  | brk s => exact s.elim
  | cont s => exact s.elim
  | ret x o => obtain ⟨_, _, _, z⟩ := h; exact z.elim
  | exc c fs o =>
    obtain ⟨ρ', e, k'⟩ := h
    refine ⟨ρ', ?_, k'⟩
    cases ef : f ρ with
    | ok s ρ1 => have e : bndS (f ρ) retB = .exc c fs ρ' := e; rw [ef] at e; cases e
    | exc c' fs' ρ1 =>
      have e : bndS (f ρ) retB = .exc c fs ρ' := e
      rw [ef] at e
      exact e
    | bad => have e : bndS (f ρ) retB = .exc c fs ρ' := e; rw [ef] at e; cases e
  | bad => exact trivial
theorem c_val {v : α → Sv} {G : α → List Sl} {a : α} (h : Wke Γ (G a)) : RS Γ (retK (v a)) (.next a : Oc l w r α) C (PV v G) := RS.mk fun ρ hρ => ⟨ρ, rfl, h.env hρ⟩
theorem c_valB {v : α → Bool} {G : α → List Sl} {a : α} (h : Wke Γ (G a)) : RS Γ (retB (v a)) (.next a : Oc l w r α) C (PV (fun a => isb (v a)) G) := RS.mk fun ρ hρ => ⟨ρ, rfl, h.env hρ⟩
theorem c_kcallJ {pm : List PM} {rm : Bool} {fn : Fn} {as : List Ar} {ds : List Vl} {k : Sv → En → Sr} {eo : w' → List Vl} {er : α → Vl} {tf : TF w' α} {g : w' → w} {u : α × w' → Oc l w r ν} (is : List Nat) (G : w' → List Sl) (hf : FOk eo er tf (fn ds)) (h1 : argG Γ pm as = some ds) (h2 : ioSl pm as = is) (h3 : (ndB is && chkA is pm as) = true) (h4 : is.all (vlG Γ) = true) (hG : ∀ o, outG is (eo o) Γ = G o)
    (hx : ∀ o ρ, EnvR (G o) ρ → C.ex (g o) ρ) (s : α → Sv) (hs : ∀ a, resM rm (er a) = s a)
    (h : ∀ a, RS (G a.2) (k (s a.1)) (u a) C P) : RS Γ (fun ρ => bndS (kCall pm rm fn as ρ) k) ((callI g tf).bind u) C P :=
  c_kcallI is hf h1 h2 h3 h4 (fun o ρ hρ => hx o ρ (by rw [← hG o]; exact hρ)) s hs fun a => by rw [hG a.2]; exact h a
end
end MV
namespace MV
open PySem PySem.Spec PyProof.Rows L2 He
section
variable {l l' w w' r ν α β γ : Type} {Γ Δ : List Sl} {C : Sur l w r} {P : ν → Sr → Prop} {t : Oc l w r ν} {g R : SemS}
theorem seq_eq (f g : SemS) (ρ : En) : sSeq f g ρ = seqK (f ρ) g := rfl
theorem s_last {f : SemS} (h : RS Γ (sSeq f sNil) t C P) : RS Γ f t C P := h.congr fun ρ _ => by
  show f ρ = seqK (f ρ) sNil
  cases f ρ <;> rfl
theorem s_nil (h : RS Γ g t C P) : RS Γ (sSeq sNil g) t C P := h
theorem s_end {G : ν → List Sl} {a : ν} (h : Wke Γ (G a)) : RS Γ sNil (.next a) C (PN G) := RS.mk fun ρ hρ => ⟨ρ, rfl, h.env hρ⟩
theorem s_stop {f : SemS} (h : RS Γ f t C (PF : ν → Sr → Prop)) : RS Γ (sSeq f g) t C P := by
  refine RS.mk fun ρ hρ => ?_
  have h := h ρ hρ
  cases t with
  | next a => exact h.elim
  | brk s => obtain ⟨ρ', e, k⟩ := h; exact ⟨ρ', by rw [seq_eq, e]; rfl, k⟩
  | cont s => obtain ⟨ρ', e, k⟩ := h; exact ⟨ρ', by rw [seq_eq, e]; rfl, k⟩
  | ret x o => obtain ⟨s, ρ', e, k⟩ := h; exact ⟨s, ρ', by rw [seq_eq, e]; rfl, k⟩
  | exc c fs o => obtain ⟨ρ', e, k⟩ := h; exact ⟨ρ', by rw [seq_eq, e]; rfl, k⟩
  | bad => exact trivial
theorem RS.ofF {f : SemS} (h : RS Γ f t C (PF : ν → Sr → Prop)) : RS Γ f t C P := by
  refine RS.mk fun ρ hρ => ?_
  have h := h ρ hρ
  cases t with
  | next a => exact h.elim
  | brk s => exact h
  | cont s => exact h
  | ret x o => exact h
  | exc c fs o => exact h
  | bad => exact trivial
theorem s_then {f : SemS} {ta : Oc l w r α} {u : α → Oc l w r ν} {G : α → List Sl} (h : RS Γ f ta C (PN G)) (k : ∀ a, RS (G a) g (u a) C P) : RS Γ (sSeq f g) (ta.bind u) C P := by
  refine RS.mk fun ρ hρ => ?_
  have h := h ρ hρ
  cases ta with
  | next a =>
    obtain ⟨ρ', e, k'⟩ := h
    have := k a ρ' k'
    rw [show g ρ' = sSeq f g ρ by rw [seq_eq, e]; rfl] at this
    exact this
  | brk s => obtain ⟨ρ', e, k⟩ := h; exact ⟨ρ', by rw [seq_eq, e]; rfl, k⟩
  | cont s => obtain ⟨ρ', e, k⟩ := h; exact ⟨ρ', by rw [seq_eq, e]; rfl, k⟩
  | ret x o => obtain ⟨s, ρ', e, k⟩ := h; exact ⟨s, ρ', by rw [seq_eq, e]; rfl, k⟩
  | exc c fs o => obtain ⟨ρ', e, k⟩ := h; exact ⟨ρ', by rw [seq_eq, e]; rfl, k⟩
  | bad => exact trivial
theorem s_asg {i : Nat} {fa : Sem1} (h : RS Γ (fun ρ => bndS (fa ρ) fun s ρ1 => seqK (stS i s ρ1) g) t C P) : RS Γ (sSeq (sAsg i fa) g) t C P := h.congr fun ρ _ => seqK_bndS _ _ _
theorem s_st {i : Nat} {s : Sv} (h1 : noIoG Γ i = true) (h2 : sto s.m = true) (h : RS (Γ.set i (.vl s)) g t C P) : RS Γ (fun ρ => seqK (stS i s ρ) g) t C P := by
  refine RS.mk fun ρ hρ => ?_
  have e : seqK (stS i s ρ) g = g (ρ.set i (some s)) := by
    unfold stS
    rw [noIoG.env h1 hρ, h2]; rfl
  have := h _ (hρ.set (show SlR (.vl s) (some s) from rfl) (i := i))
  rw [← e] at this
  exact this
theorem s_let {i : Nat} {v : α → Sv} {x : α} {u : α → Oc l w r ν} (h1 : noIoG Γ i = true) (h2 : ∀ x, sto (v x).m = true) (h : ∀ x, RS (Γ.set i (.vl (v x))) g (u x) C P) : RS Γ (fun ρ => seqK (stS i (v x) ρ) g) (letO x u) C P := s_st h1 (h2 x) (h x)
theorem s_expr {fa : Sem1} (h : RS Γ (fun ρ => bndS (fa ρ) fun _ ρ1 => g ρ1) t C P) : RS Γ (sSeq (sExpr fa) g) t C P := h.congr fun ρ _ => by
  show seqK (bndS (fa ρ) _) g = _
  rw [seqK_bndS]; rfl
theorem s_fz {i : Nat} {d : Vl} {f : SemS} (h0 : Γ[i]? = some (.vl ⟨.own, d⟩)) (h : RS (Γ.set i (.vl ⟨.shr, d⟩)) (sSeq f g) t C P) : RS Γ (sSeq (sFz i f) g) t C P := by
  refine RS.mk fun ρ hρ => ?_
  have e : sSeq (sFz i f) g ρ = sSeq f g (ρ.set i (some ⟨.shr, d⟩)) := by
    rw [seq_eq]
    unfold sFz frzR
    rw [hρ.var h0]; rfl
  have := h _ (hρ.set (show SlR (.vl ⟨.shr, d⟩) (some ⟨.shr, d⟩) from rfl) (i := i))
  rw [← e] at this
  exact this
theorem s_fz0 {i : Nat} {d : Vl} {f : SemS} (h0 : Γ[i]? = some (.vl ⟨.shr, d⟩)) (h : RS Γ (sSeq f g) t C P) : RS Γ (sSeq (sFz i f) g) t C P := h.congr fun ρ hρ => by
  rw [seq_eq]
  unfold sFz frzR
  rw [hρ.var h0]; rfl
theorem s_ret {fa : Sem1} (h : RS Γ (fun ρ => bndS (fa ρ) retK) t C P) : RS Γ (sRet fa) t C P := h
theorem r_ret {x : r} {o : w} {s : Sv} (h : ∀ ρ, EnvR Γ ρ → C.rt x o s ρ) : RS Γ (retK s) (.ret x o) C P := RS.mk fun ρ hρ => ⟨s, ρ, rfl, h ρ hρ⟩
theorem c_mv {i : Nat} {s : Sv} {k : Sv → En → Sr} (h0 : Γ[i]? = some (.vl s)) (hm : noIoG Γ i = true) (h : RS (Γ.set i .no) (k s) t C P) : RS Γ (fun ρ => bndS (fMv i ρ) k) t C P := by
  refine RS.mk fun ρ hρ => ?_
  have e : fMv i ρ = .ok s (ρ.set i none) := by
    unfold fMv
    rw [hρ.var h0]
    unfold noIoG at hm
    rw [h0] at hm
    obtain ⟨m, d⟩ := s
    cases m <;> first | rfl | cases hm
  have := h _ (hρ.set (show SlR .no none from rfl) (i := i))
  rw [show k s (ρ.set i none) = bndS (fMv i ρ) k by rw [e]; rfl] at this
  exact this
def raiseK (c : Str) (fs : List Str) : List Ar → En → Sr := fun as ρ1 => match argVs ρ1 (fs.map fun _ => .shr) as with
    | some ds => .exc c (fs.zip ds).reverse ρ1
    | none => .bad
theorem s_raise {c : Str} {fs : List Str} {fa : SemA} (h : RS Γ (fun ρ => bndS (fa ρ) (raiseK c fs)) t C P) : RS Γ (sRaise c fs fa) t C P := h.congr fun ρ _ => by
  unfold sRaise
  cases fa ρ <;> rfl
theorem r_raise {c : Str} {fs : List Str} {as : List Ar} {ds : List Vl} {fl : List (Str × Vl)} {o : w} (h : argG Γ (fs.map fun _ => .shr) as = some ds) (e : (fs.zip ds).reverse = fl) (hx : ∀ ρ, EnvR Γ ρ → C.ex o ρ) : RS Γ (raiseK c fs as) (.exc c fl o) C P := RS.mk fun ρ hρ => by
  refine ⟨ρ, ?_, hx ρ hρ⟩
  unfold raiseK
  rw [argG.env hρ h, ← e]
theorem xf {pm : List PM} {rm : Bool} {eo : w → List Vl} {er : r → Vl} {o : w} (h : outsG pm 0 Γ = some (eo o)) : ∀ ρ, EnvR Γ ρ → (surF pm rm eo er).ex o ρ := fun ρ hρ => outsG.env h hρ
theorem rtf {pm : List PM} {rm : Bool} {eo : w → List Vl} {er : r → Vl} {x : r} {o : w} {s : Sv} (h1 : s.d = er x) (h2 : resOk rm s = true) (h : outsG pm 0 Γ = some (eo o)) : ∀ ρ, EnvR Γ ρ → (surF pm rm eo er).rt x o s ρ := fun ρ hρ => ⟨h1, h2, outsG.env h hρ⟩
theorem xi {pm : List PM} {er : r → Vl} {d : Vl} (h : outsG pm 0 Γ = some [d]) : ∀ ρ, EnvR Γ ρ → (surI pm er).ex () ρ := fun ρ hρ => ⟨d, outsG.env h hρ⟩
theorem s_if {gc : SemB} {A B : SemS} (h : RS Γ (fun ρ => bndS (gc ρ) fun x ρ1 => seqK (bsel x (A ρ1) (B ρ1)) g) t C P) : RS Γ (sSeq (sIf gc A B) g) t C P := h.congr fun ρ _ => by
  rw [seq_eq]
  show seqK (bndS (gc ρ) _) g = _
  rw [seqK_bndS]
  exact congrArg (bndS (gc ρ)) (funext fun x => funext fun ρ1 => by cases x <;> rfl)
section
variable {A B : SemS} {b : Bool} {p : Prop} [Decidable p] {ta tb : Oc l w r ν}
theorem s_selC (e : b = decide p) (ha : RS Γ (sSeq A g) ta C P) (hb : RS Γ (sSeq B g) tb C P) : RS Γ (fun ρ => seqK (bsel b (A ρ) (B ρ)) g) (if p then ta else tb) C P := by
  by_cases c : p
  · rw [if_pos c]
    refine ha.congr fun ρ _ => ?_
    rw [e, decide_eq_true c]; rfl
  · rw [if_neg c]
    refine hb.congr fun ρ _ => ?_
    rw [e, decide_eq_false c]; rfl
theorem s_selA (e : b = decide p) (ha : RS Γ A ta C (PF : ν → Sr → Prop)) (hb : RS Γ (sSeq B g) tb C P) : RS Γ (fun ρ => seqK (bsel b (A ρ) (B ρ)) g) (if p then ta else tb) C P := s_selC e (s_stop ha) hb
theorem s_selJ {ta tb : Oc l w r α} {G : α → List Sl} {u : α → Oc l w r ν} (e : b = decide p) (ha : RS Γ A ta C (PN G)) (hb : RS Γ B tb C (PN G)) (k : ∀ a, RS (G a) g (u a) C P) : RS Γ (fun ρ => seqK (bsel b (A ρ) (B ρ)) g) ((if p then ta else tb).bind u) C P := by
  by_cases c : p
  · rw [if_pos c]
    refine (s_then ha k).congr fun ρ _ => ?_
    rw [e, decide_eq_true c]; rfl
  · rw [if_neg c]
    refine (s_then hb k).congr fun ρ _ => ?_
    rw [e, decide_eq_false c]; rfl
end
def forK (tgt : SemG) (body g : SemS) : Bool × List Sv → En → Sr := fun its ρ1 => seqK (grdS its.1 (loopL tgt body its.2 ρ1)) g
theorem s_for {src : SemI} {tgt : SemG} {body : SemS} (h : RS Γ (fun ρ => bndS (src ρ) (forK tgt body g)) t C P) : RS Γ (sSeq (sFor src tgt body) g) t C P := h.congr fun ρ _ => by
  rw [seq_eq]
  show seqK (bndS (src ρ) _) g = _
  rw [seqK_bndS]; rfl
theorem loop_go {tgt : SemG} {body : SemS} {v : α → Sv} {G : l' → List Sl} {TG : α → l' → List Sl} {tb : α → l' → Oc l' w r l'} (ht : ∀ x s ρ, EnvR (G s) ρ → ∃ ρ1, tgt (v x) ρ = some ρ1 ∧ EnvR (TG x s) ρ1) (hb : ∀ x s, RS (TG x s) body (tb x s) (C.loop G) (PN G)) : ∀ (xs : List α) (s0 : l') (ρ : En), EnvR (G s0) ρ → match (forO tb xs s0 : Oc l w r l') with
    | .next s => ∃ ρ', loopL tgt body (xs.map v) ρ = .next ρ' ∧ EnvR (G s) ρ'
    | .ret x o => ∃ s ρ', loopL tgt body (xs.map v) ρ = .ret s ρ' ∧ C.rt x o s ρ'
    | .exc c fs o => ∃ ρ', loopL tgt body (xs.map v) ρ = .exc c fs ρ' ∧ C.ex o ρ'
    | .bad => True
    | _ => False
  | [], s0, ρ, h => ⟨ρ, rfl, h⟩
  | x :: xs, s0, ρ, h => by
    obtain ⟨ρ1, e1, h1⟩ := ht x s0 ρ h
    have hb1 := hb x s0 ρ1 h1
    have el : loopL tgt body ((x :: xs).map v) ρ = (match body ρ1 with
      | .next ρ2 => loopL tgt body (xs.map v) ρ2
      | .cont ρ2 => loopL tgt body (xs.map v) ρ2
      | .brk ρ2 => .next ρ2
      | r => r) := by
      rw [List.map_cons]
      show (match tgt (v x) ρ with
        | some ρ1 => (match body ρ1 with
          | .next ρ2 => loopL tgt body (xs.map v) ρ2
          | .cont ρ2 => loopL tgt body (xs.map v) ρ2
          | .brk ρ2 => .next ρ2
          | r => r)
        | none => .bad) = _
      rw [e1]
    rw [el]
    have ef : (forO tb (x :: xs) s0 : Oc l w r l') = (match tb x s0 with
      | .next s' => forO tb xs s'
      | .cont s' => forO tb xs s'
      | .brk s' => .next s'
      | .ret x o => .ret x o
      | .exc c fs o => .exc c fs o
      | .bad => .bad) := rfl
    rw [ef]
    cases htb : tb x s0 with
    | next s' =>
      rw [htb] at hb1
      obtain ⟨ρ2, e2, h2⟩ := hb1
      rw [e2]
      exact loop_go ht hb xs s' ρ2 h2
    | cont s' =>
      rw [htb] at hb1
      obtain ⟨ρ2, e2, h2⟩ := hb1
      rw [e2]
      exact loop_go ht hb xs s' ρ2 h2
    | brk s' =>
      rw [htb] at hb1
      obtain ⟨ρ2, e2, h2⟩ := hb1
      rw [e2]
      exact ⟨ρ2, rfl, h2⟩
    | ret x o =>
      rw [htb] at hb1
      obtain ⟨s, ρ2, e2, h2⟩ := hb1
      rw [e2]
      exact ⟨s, ρ2, rfl, h2⟩
    | exc c fs o =>
      rw [htb] at hb1
      obtain ⟨ρ2, e2, h2⟩ := hb1
      rw [e2]
      exact ⟨ρ2, rfl, h2⟩
    | bad => exact trivial
theorem s_loop {tgt : SemG} {body : SemS} {v : α → Sv} {xs : List α} {s0 : l'} {G : l' → List Sl} {TG : α → l' → List Sl} {tb : α → l' → Oc l' w r l'} {u : l' → Oc l w r ν} (hw : Wke Γ (G s0)) (ht : ∀ x s ρ, EnvR (G s) ρ → ∃ ρ1, tgt (v x) ρ = some ρ1 ∧ EnvR (TG x s) ρ1) (hb : ∀ x s, RS (TG x s) body (tb x s) (C.loop G) (PN G)) (k : ∀ s, RS (G s) g (u s) C P) :
    RS Γ (forK tgt body g (true, xs.map v)) ((forO tb xs s0).bind u) C P := by
  refine RS.mk fun ρ hρ => ?_
  have h := loop_go (C := C) ht hb xs s0 ρ (hw.env hρ)
  show match (forO tb xs s0 : Oc l w r l').bind u with
    | .next a => P a (seqK (loopL tgt body (xs.map v) ρ) g)
    | .brk s => ∃ ρ', seqK (loopL tgt body (xs.map v) ρ) g = .brk ρ' ∧ C.lp s ρ'
    | .cont s => ∃ ρ', seqK (loopL tgt body (xs.map v) ρ) g = .cont ρ' ∧ C.lp s ρ'
    | .ret x o => ∃ s ρ', seqK (loopL tgt body (xs.map v) ρ) g = .ret s ρ' ∧ C.rt x o s ρ'
    | .exc c fs o => ∃ ρ', seqK (loopL tgt body (xs.map v) ρ) g = .exc c fs ρ' ∧ C.ex o ρ'
    | .bad => True
  cases e : (forO tb xs s0 : Oc l w r l') with
  | next s =>
    rw [e] at h
    obtain ⟨ρ', e1, h1⟩ := h
    rw [e1]
    exact k s ρ' h1
  | brk s => rw [e] at h; exact h.elim
  | cont s => rw [e] at h; exact h.elim
  | ret x o =>
    rw [e] at h
    obtain ⟨s, ρ', e1, h1⟩ := h
    rw [e1]
    exact ⟨s, ρ', rfl, h1⟩
  | exc c fs o =>
    rw [e] at h
    obtain ⟨ρ', e1, h1⟩ := h
    rw [e1]
    exact ⟨ρ', rfl, h1⟩
  | bad => exact trivial
theorem t_nm {i : Nat} {v : α → Sv} {G : l' → List Sl} (h1 : ∀ s, noIoG (G s) i = true) (h2 : ∀ x, sto (v x).m = true) : ∀ (x : α) (s : l') (ρ : En), EnvR (G s) ρ → ∃ ρ1, gNm i (v x) ρ = some ρ1 ∧ EnvR ((G s).set i (.vl (v x))) ρ1 := fun x s ρ hρ => by
  refine ⟨ρ.set i (some (v x)), ?_, hρ.set (show SlR (.vl (v x)) (some (v x)) from rfl)⟩
  unfold gNm
  rw [noIoG.env (h1 s) hρ, h2 x]; rfl
def setG : List Nat → List Vl → Md → List Sl → Option (List Sl)
  | [], [], _, Γ => some Γ
  | i :: is, d :: ds, m, Γ => if noIoG Γ i then setG is ds m (Γ.set i (.vl (mk m d))) else none
  | _, _, _, _ => none
theorem setG.env : ∀ {is : List Nat} {ds : List Vl} {m : Md} {Γ Δ : List Sl} {ρ : En}, setG is ds m Γ = some Δ → EnvR Γ ρ → ∃ ρ1, setAll is ds m ρ = some ρ1 ∧ EnvR Δ ρ1
  | [], [], _, Γ, Δ, ρ, h, e => by
    have h : some Γ = some Δ := h
    injection h with h
    subst h
    exact ⟨ρ, rfl, e⟩
  | i :: is, [], _, _, _, _, h, _ => by cases h
  | [], _ :: _, _, _, _, _, h, _ => by cases h
  | i :: is, d :: ds, m, Γ, Δ, ρ, h, e => by
    have h : (if noIoG Γ i then setG is ds m (Γ.set i (.vl (mk m d))) else none) = some Δ := h
    cases c : noIoG Γ i with
    | false => rw [c] at h; cases h
    | true =>
      rw [c] at h
      obtain ⟨ρ1, h1, h2⟩ := setG.env (is := is) h (e.set (show SlR (.vl (mk m d)) (some (mk m d)) from rfl))
      refine ⟨ρ1, ?_, h2⟩
      show (match noIo ρ i with
        | true => setAll is ds m (ρ.set i (some (mk m d)))
        | false => none) = _
      rw [noIoG.env c e]; exact h1
theorem t_tp {is : List Nat} {v : α → Sv} {ds : α → List Vl} {m : Md} {G : l' → List Sl} {TG : α → l' → List Sl} (hv : ∀ x, v x = ⟨m, .tup (ds x)⟩) (hm : m = .bor ∨ m = .shr) (h : ∀ x s, setG is (ds x) m (G s) = some (TG x s)) : ∀ (x : α) (s : l') (ρ : En), EnvR (G s) ρ → ∃ ρ1, gTp is (v x) ρ = some ρ1 ∧ EnvR (TG x s) ρ1 := fun x s ρ hρ => by
  obtain ⟨ρ1, h1, h2⟩ := setG.env (h x s) hρ
  refine ⟨ρ1, ?_, h2⟩
  rw [hv x]
  rcases hm with rfl | rfl <;> exact h1
end
end MV
namespace MV
open PySem PySem.Spec PyProof.Rows L2 He
section
variable {l w r α β : Type}
def ixO (xs : List α) (i : Int) : Oc l w r α := match atI xs i with
  | some a => .next a
  | none => .bad
def divO (i j : Int) : Oc l w r Int := if 0 < j ∧ j < 1073741824 then .next (i / j) else .bad
def modO (i j : Int) : Oc l w r Int := if 0 < j then .next (i % j) else .bad
def repO (xs : List α) (k : Int) : Oc l w r (List α) := if cRep xs.length k then .next (List.replicate k.toNat xs).flatten else .bad
def catO (xs ys : List α) : Oc l w r (List α) := if xs.length + ys.length ≤ sizeLine then .next (xs ++ ys) else .bad
def pushO (xs : List α) (x : α) : Oc l w r (List α) := if xs.length < sizeLine then .next (xs ++ [x]) else .bad
def maxO (xs : List Int) : Oc l w r Int := if xs.isEmpty then .bad else .next (maxL xs)
def rngO (a b : Int) : Oc l w r (List Int) := if c62 a && c62 b then .next (iv a (b - a).toNat) else .bad
end
section
variable {α β γ : Type} {e : α → Vl} {e' : β → Vl} {m m' m'' : Md} {xs ys : List α} {i j : Int} {ρ : En}
theorem k_len : ∀ ρ, kS1 gLen ⟨m, eL e xs⟩ ρ = .ok (isv xs.length) ρ := fun ρ => by
  show Rs.ok (isv ((xs.map e).length : Int)) ρ = _
  rw [List.length_map]
theorem k_lenT : ∀ ρ, kS1 gLen ⟨m, eT e xs⟩ ρ = .ok (isv xs.length) ρ := fun ρ => by
  show Rs.ok (isv ((xs.map e).length : Int)) ρ = _
  rw [List.length_map]
theorem k_modc (h : 0 < j) : ∀ ρ, kS (gIc cMod Int.fmod) ⟨m, .int i⟩ ⟨m', .int j⟩ ρ = .ok (isv (i % j)) ρ := fun ρ => by
  show (match (if cMod i j then some (Vl.int (i.fmod j)) else none) with | some d => if isSc d then Rs.ok (Sv.mk .shr d) ρ else .bad | none => .bad) = _
  rw [if_pos (show cMod i j = true from decide_eq_true (by omega)), Int.fmod_eq_emod_of_nonneg _ (Int.le_of_lt h)]; rfl
theorem k_tupL (hl : lft m (xs.map e) = true) : ∀ ρ, kTupOf ⟨m, eL e xs⟩ ρ = .ok ⟨.shr, eT e xs⟩ ρ := fun ρ => by
  show grd (lft m (xs.map e)) _ = _
  rw [hl]; rfl
theorem cutD_map {f : α → β} {lo hi : Option Int} : cutD (xs.map f) lo hi = (cutD xs lo hi).map f := by
  unfold cutD
  rw [List.length_map, List.map_take, List.map_drop]
theorem k_sl {lo hi : Option Int} (hl : lft m (xs.map e) = true) : ∀ ρ, kSl ⟨m, eL e xs⟩ lo hi ρ = .ok ⟨.own, eL e (cutD xs lo hi)⟩ ρ := fun ρ => by
  show grd (lft m (xs.map e)) (Rs.ok (Sv.mk .own (.lst (cutD (xs.map e) lo hi))) ρ) = _
  rw [hl, cutD_map]; rfl
end
section
variable {l w r ν α β γ : Type} {Γ Δ : List Sl} {C : Sur l w r} {P : ν → Sr → Prop} {t : Oc l w r ν} {e : α → Vl} {m m' : Md} {xs ys : List α} {i j : Int} {k : Sv → En → Sr}
theorem atI_map {f : α → β} : atI (xs.map f) i = (atI xs i).map f := by
  unfold atI
  rw [List.length_map]
  cases ixN xs.length i with
  | none => rfl
  | some n => simp
theorem c_ix {u : α → Oc l w r ν} (s : α → Sv) (hs : ∀ a, mk m.kid (e a) = s a) (h' : ∀ a, RS Γ (k (s a)) (u a) C P) : RS Γ (fun ρ => bndS (kIx ⟨m, eL e xs⟩ ⟨m', .int i⟩ ρ) k) ((ixO xs i).bind u) C P := by
  have h : ∀ a, RS Γ (k (mk m.kid (e a))) (u a) C P := fun a => by rw [hs a]; exact h' a
  have e0 : ∀ ρ, kIx ⟨m, eL e xs⟩ ⟨m', .int i⟩ ρ = match atI (xs.map e) i with | some d => .ok (mk m.kid d) ρ | none => .bad := fun _ => rfl
  unfold ixO
  cases c : atI xs i with
  | none => exact c_bad
  | some a =>
    refine c_ok (fun ρ => ?_) (h a)
    rw [e0, atI_map, c]; rfl
theorem c_ixT {u : α → Oc l w r ν} (s : α → Sv) (hs : ∀ a, mk m.kid (e a) = s a) (h' : ∀ a, RS Γ (k (s a)) (u a) C P) : RS Γ (fun ρ => bndS (kIx ⟨m, eT e xs⟩ ⟨m', .int i⟩ ρ) k) ((ixO xs i).bind u) C P := by
  have h : ∀ a, RS Γ (k (mk m.kid (e a))) (u a) C P := fun a => by rw [hs a]; exact h' a
  have e0 : ∀ ρ, kIx ⟨m, eT e xs⟩ ⟨m', .int i⟩ ρ = match atI (xs.map e) i with | some d => .ok (mk m.kid d) ρ | none => .bad := fun _ => rfl
  unfold ixO
  cases c : atI xs i with
  | none => exact c_bad
  | some a =>
    refine c_ok (fun ρ => ?_) (h a)
    rw [e0, atI_map, c]; rfl
theorem c_mod {u : Int → Oc l w r ν} (h : ∀ a, RS Γ (k (isv a)) (u a) C P) : RS Γ (fun ρ => bndS (kS (gIc cMod Int.fmod) ⟨m, .int i⟩ ⟨m', .int j⟩ ρ) k) ((modO i j).bind u) C P := by
  unfold modO
  by_cases c : 0 < j
  · rw [if_pos c]; exact c_ok (k_modc c) (h _)
  · rw [if_neg c]; exact c_bad
theorem c_rep {u : List α → Oc l w r ν} (hl : lft m (xs.map e) = true) (h : ∀ a, RS Γ (k ⟨.own, eL e a⟩) (u a) C P) : RS Γ (fun ρ => bndS (kMul ⟨m, eL e xs⟩ ⟨m', .int i⟩ ρ) k) ((repO xs i).bind u) C P := by
  unfold repO
  by_cases c : cRep xs.length i = true
  · rw [if_pos c]
    refine c_ok (fun ρ => ?_) (h _)
    show grd (lft m (xs.map e) && cRep (xs.map e).length i) (Rs.ok (Sv.mk .own (.lst (List.replicate i.toNat (xs.map e)).flatten)) ρ) = _
    rw [hl, List.length_map, c]
    show Rs.ok _ ρ = _
    unfold eL
    rw [List.map_flatten, List.map_replicate]
  · rw [if_neg c]; exact c_bad
theorem c_cat {u : List α → Oc l w r ν} (hl : lft m (xs.map e) = true) (hl' : lft m' (ys.map e) = true) (h : ∀ a, RS Γ (k ⟨.own, eL e a⟩) (u a) C P) : RS Γ (fun ρ => bndS (kAdd ⟨m, eL e xs⟩ ⟨m', eL e ys⟩ ρ) k) ((catO xs ys).bind u) C P := by
  unfold catO
  by_cases c : xs.length + ys.length ≤ sizeLine
  · rw [if_pos c]
    refine c_ok (fun ρ => ?_) (h _)
    show grd (lft m (xs.map e) && lft m' (ys.map e) && decide ((xs.map e).length + (ys.map e).length ≤ sizeLine)) (Rs.ok (Sv.mk .own (.lst (xs.map e ++ ys.map e))) ρ) = _
    rw [hl, hl', List.length_map, List.length_map, decide_eq_true c]
    show Rs.ok _ ρ = _
    unfold eL
    rw [List.map_append]
  · rw [if_neg c]; exact c_bad
theorem c_app {n : Nat} {ds : List Vl} {fa : Sem1} (h0 : Γ[n]? = some (.vl ⟨m, .lst ds⟩)) (h : RS Γ (fun ρ => bndS (fa ρ) fun s ρ1 => grdS (isShr s.m) (bndS (onL n (kApp s.d) ρ1) k)) t C P) : RS Γ (fun ρ => bndS (fApp n fa ρ) k) t C P :=
  h.congr fun ρ hρ => by
    unfold fApp
    have : isL ρ n = true := by unfold isL; rw [hρ.var h0]
    rw [this]
    show bndS (bnd (fa ρ) fun s ρ1 => grd (isShr s.m) (onL n (kApp s.d) ρ1)) k = _
    rw [bndS_bnd]
    congr 1; funext s ρ1
    rw [bndS_grd]
theorem c_onL {n : Nat} {ds es : List Vl} {d : Vl} {kk : List Vl → Option (Vl × List Vl)} (h0 : Γ[n]? = some (.vl ⟨m, .lst ds⟩)) (hm : mutb m = true) (e : kk ds = some (d, es)) (h : RS (Γ.set n (.vl ⟨m, .lst es⟩)) (k (mk .shr d)) t C P) : RS Γ (fun ρ => bndS (onL n kk ρ) k) t C P := by
  refine RS.mk fun ρ hρ => ?_
  have e1 : onL n kk ρ = .ok (mk .shr d) (ρ.set n (some ⟨m, .lst es⟩)) := by
    unfold onL
    rw [hρ.var h0]
    show grd (mutb m) (match kk ds with | some (d, ys) => .ok (mk .shr d) (ρ.set n (some ⟨m, .lst ys⟩)) | none => .bad) = _
    rw [hm, e]; rfl
  have := h _ (hρ.set (show SlR (.vl ⟨m, .lst es⟩) (some ⟨m, .lst es⟩) from rfl) (i := n))
  rw [show k (mk .shr d) (ρ.set n (some ⟨m, .lst es⟩)) = bndS (onL n kk ρ) k by rw [e1]; rfl] at this
  exact this
theorem c_push {n : Nat} {x : α} {u : List α → Oc l w r ν} (h0 : Γ[n]? = some (.vl ⟨m, eL e xs⟩)) (hm : mutb m = true) (h : ∀ ys, RS (Γ.set n (.vl ⟨m, eL e ys⟩)) (k svN) (u ys) C P) : RS Γ (fun ρ => bndS (onL n (kApp (e x)) ρ) k) ((pushO xs x).bind u) C P := by
  unfold pushO
  by_cases c : xs.length < sizeLine
  · rw [if_pos c]
    refine c_onL (d := .non) (es := (xs ++ [x]).map e) h0 hm ?_ (h (xs ++ [x]))
    unfold kApp
    rw [List.length_map, if_pos c, List.map_append]; rfl
  · rw [if_neg c]; exact c_bad
theorem rngI_iv {lo : Int} {n : Nat} : rngI lo 1 n = (iv lo n).map isv := by
  unfold rngI iv
  rw [List.map_map]
  refine List.map_congr_left fun k _ => ?_
  show (⟨.shr, .int (lo + (k : Int) * 1)⟩ : Sv) = ⟨.shr, .int (lo + (k : Int))⟩
  rw [Int.mul_one]
variable {ki : Bool × List Sv → En → Sr}
theorem kii_bnd {f : Int → En → Rs (Bool × List Sv)} (s : Sv) (ρ : En) : bndS (kII f s ρ) ki = kIS (fun i ρ => bndS (f i ρ) ki) s ρ := by
  obtain ⟨m, d⟩ := s
  cases d <;> rfl
theorem c_r1 {fa : Sem1} (h : RS Γ (fun ρ => bndS (fa ρ) (kIS fun j ρ1 => grdS (c62 0 && c62 j) (ki (true, (iv 0 (j - 0).toNat).map isv) ρ1))) t C P) : RS Γ (fun ρ => bndS (iR1 fa ρ) ki) t C P :=
  h.congr fun ρ _ => by
    unfold iR1
    rw [bndS_bnd]
    congr 1; funext s ρ1
    rw [kii_bnd]
    congr 1; funext j ρ2
    rw [bndS_grd, rngI_iv, show c62 0 = true from rfl, Int.sub_zero]; rfl
theorem c_r2 {fa fb : Sem1} (h : RS Γ (fun ρ => bndS (fa ρ) (kIS fun i ρ1 => bndS (fb ρ1) (kIS fun j ρ2 => grdS (c62 i && c62 j) (ki (true, (iv i (j - i).toNat).map isv) ρ2)))) t C P) : RS Γ (fun ρ => bndS (iR2 fa fb ρ) ki) t C P :=
  h.congr fun ρ _ => by
    unfold iR2
    rw [bndS_bnd]
    congr 1; funext s ρ1
    rw [kii_bnd]
    congr 1; funext i ρ2
    rw [bndS_bnd]
    congr 1; funext s ρ3
    rw [kii_bnd]
    congr 1; funext j ρ4
    rw [bndS_grd, rngI_iv]; rfl
theorem c_rng {u : List Int → Oc l w r ν} (h : ∀ xs, RS Γ (ki (true, xs.map isv)) (u xs) C P) : RS Γ (fun ρ => grdS (c62 i && c62 j) (ki (true, (iv i (j - i).toNat).map isv) ρ)) ((rngO i j).bind u) C P := by
  unfold rngO
  by_cases c : (c62 i && c62 j) = true
  · rw [if_pos c]; exact c_grd c (h _)
  · rw [if_neg c]; exact c_bad
theorem c_rngc {f : SemS} (c : (c62 i && c62 j) = true) (h : RS Γ f t C P) : RS Γ (fun ρ => grdS (c62 i && c62 j) (f ρ)) t C P := c_grd c h
theorem c_src {fa : Sem1} {kk : Sv → En → Rs (Bool × List Sv)} (h : RS Γ (fun ρ => bndS (fa ρ) fun s ρ1 => bndS (kk s ρ1) ki) t C P) : RS Γ (fun ρ => bndS (iSrc fa kk ρ) ki) t C P := h.congr fun _ _ => bndS_bnd _ _ _
theorem k_itL : ∀ ρ, kItL ⟨m, eL e xs⟩ ρ = .ok (!m.isT, xs.map fun x => mk m.kid (e x)) ρ := fun ρ => by
  show Rs.ok (!m.isT, (xs.map e).map (mk m.kid)) ρ = _
  rw [List.map_map]; rfl
theorem c_sl {ql qh : Bool} {fa : Sem1} {fl fh : SemO} (h : RS Γ (fun ρ => bndS (fa ρ) fun s ρ1 => grdS (held s.m (ql && qh)) (bndS (fl ρ1) fun lo ρ2 => bndS (fh ρ2) fun hi ρ3 => bndS (kSl s lo hi ρ3) k)) t C P) : RS Γ (fun ρ => bndS (fSl ql qh fa fl fh ρ) k) t C P :=
  h.congr fun ρ _ => by
    unfold fSl
    rw [bndS_bnd]
    congr 1; funext s ρ1
    rw [bndS_grd, bndS_bnd]
    congr 2; funext lo ρ2
    rw [bndS_bnd]
theorem v_sl {ql qh : Bool} {fa : Sem1} {fl fh : SemO} {s u : Sv} {lo hi : Option Int} (h : Ev Γ fa s) (hh : held s.m (ql && qh) = true) (h1 : Ev Γ fl lo) (h2 : Ev Γ fh hi) (hk : ∀ ρ, kSl s lo hi ρ = .ok u ρ) : Ev Γ (fSl ql qh fa fl fh) u := fun ρ hρ => by
  unfold fSl
  rw [h ρ hρ]
  show grd (held s.m (ql && qh)) (bnd (fl ρ) _) = _
  rw [hh, h1 ρ hρ]
  show bnd (fh ρ) _ = _
  rw [h2 ρ hρ]; exact hk ρ
theorem v_noP : Ev Γ fNoP none := fun _ _ => rfl
theorem v_part {fa : Sem1} (h : Ev Γ fa ⟨m, .int i⟩) : Ev Γ (fPart fa) (some i) := fun ρ hρ => by
  unfold fPart; rw [h ρ hρ]; rfl
theorem c_part {fa : Sem1} {ko : Option Int → En → Sr} (h : RS Γ (fun ρ => bndS (fa ρ) (kIS fun i ρ1 => ko (some i) ρ1)) t C P) : RS Γ (fun ρ => bndS (fPart fa ρ) ko) t C P :=
  h.congr fun ρ _ => by
    unfold fPart
    rw [bndS_bnd]
    congr 1; funext s ρ1
    obtain ⟨m, d⟩ := s
    cases d <;> rfl
end
end MV
namespace MV
open PySem PySem.Spec PyProof.Rows L2 He
structure EqT {α : Type} [DecidableEq α] (e : α → Vl) (n : Nat) : Prop where
  lay : ∀ x, (toD (e x)).canLay0 = true
  dep : ∀ x, (toD (e x)).depth ≤ n
  eqv : ∀ x y, PyData.eqv (toD (e x)) (toD (e y)) = decide (x = y)
theorem EqT.up {α : Type} [DecidableEq α] {e : α → Vl} {n : Nat} (h : EqT e n) : EqT e (n + 1) := ⟨h.lay, fun x => Nat.le_succ_of_le (h.dep x), h.eqv⟩
theorem eqt_I : EqT eI 0 := ⟨fun _ => rfl, fun _ => Nat.le_refl _, fun x y => by
  show PyData.eqv (.int x) (.int y) = _
  by_cases h : x = y
  · subst h; simp [PyData.eqv]
  · simp [PyData.eqv, h]⟩
theorem eqt_B : EqT eB 0 := ⟨fun _ => rfl, fun _ => Nat.le_refl _, fun x y => by
  show PyData.eqv (.bool x) (.bool y) = _
  cases x <;> cases y <;> simp [PyData.eqv]⟩
theorem chars_inj : ∀ {a b : List Char}, a.map Char.toNat = b.map Char.toNat → a = b
  | [], [], _ => rfl
  | [], _ :: _, h => by simp at h
  | _ :: _, [], h => by simp at h
  | c :: a, d :: b, h => by
    rw [List.map_cons, List.map_cons] at h
    injection h with h1 h2
    rw [chars_inj h2, Char.toNat_inj.mp h1]
theorem strOf_inj {a b : List Char} (h : strOf a = strOf b) : a = b := by
  unfold strOf at h
  injection h with h
  exact chars_inj (congrArg Array.toList h)
theorem strOf_ok (a : List Char) : PyData.strOk (strOf a) = true := by
  unfold PyData.strOk strOf
  rw [← Array.all_toList, List.all_map]
  refine List.all_eq_true.mpr fun c _ => ?_
  show decide (c.toNat < 0x110000) = true
  have h := c.valid
  refine decide_eq_true ?_
  rcases h with h | ⟨_, h⟩
  · exact Nat.lt_trans h (by decide)
  · exact h
theorem eqt_S : EqT eS 0 := ⟨fun x => strOf_ok x, fun _ => Nat.le_refl _, fun x y => by
  show PyData.eqv (.str (strOf x)) (.str (strOf y)) = _
  by_cases h : x = y
  · subst h; simp [PyData.eqv]
  · have : strOf x ≠ strOf y := fun z => h (strOf_inj z)
    simp [PyData.eqv, h, this]⟩
section
variable {α β γ δ : Type} [DecidableEq α] [DecidableEq β] [DecidableEq γ] [DecidableEq δ] {e : α → Vl} {a : β → Vl} {b : γ → Vl} {d : δ → Vl} {n : Nat}
theorem eqt_alls (h : EqT e n) : (∀ xs : List α, PyData.canLayAll0 (toDs (xs.map e)) = true) ∧ (∀ xs : List α, PyData.depthAll (toDs (xs.map e)) ≤ n) ∧ ∀ xs ys : List α, PyData.eqvAll (toDs (xs.map e)) (toDs (ys.map e)) = decide (xs = ys) := by
  refine ⟨fun xs => ?_, fun xs => ?_, fun xs => ?_⟩
  · induction xs with
    | nil => rfl
    | cons x xs ih => show (PyData.canLay0 (toD (e x)) && PyData.canLayAll0 (toDs (xs.map e))) = true; rw [h.lay, ih]; rfl
  · induction xs with
    | nil => simp [toDs, PyData.depthAll]
    | cons x xs ih =>
      show PyData.depthAll (toD (e x) :: toDs (xs.map e)) ≤ n
      have := h.dep x
      simp only [PyData.depthAll]
      omega
  · induction xs with
    | nil => intro ys; cases ys <;> simp [toDs, PyData.eqvAll]
    | cons x xs ih =>
      intro ys
      cases ys with
      | nil => simp [toDs, PyData.eqvAll]
      | cons y ys =>
        show (PyData.eqv (toD (e x)) (toD (e y)) && PyData.eqvAll (toDs (xs.map e)) (toDs (ys.map e))) = _
        rw [h.eqv, ih]
        by_cases c : x = y
        · subst c; simp
        · simp [c]
theorem eqt_L (h : EqT e n) : EqT (eL e) (n + 1) := by
  obtain ⟨h1, h2, h3⟩ := eqt_alls h
  refine ⟨h1, fun x => ?_, h3⟩
  show PyData.depth (.list (toDs (x.map e))) ≤ _
  simp only [PyData.depth]
  exact Nat.succ_le_succ (h2 x)
variable {m m' : Md} {x y : α}
theorem gEq_t (h : EqT e n) (hn : n ≤ 64 := by decide) : gEq (e x) (e y) = some (.bl (decide (x = y))) := by
  have hs : ∀ z, SeqAt.shaped (toD (e z)) = true := fun z => by
    show ((toD (e z)).canLay0 && decide ((toD (e z)).depth ≤ 64)) = true
    rw [h.lay, decide_eq_true (Nat.le_trans (h.dep z) hn)]; rfl
  unfold gEq cEq veq
  rw [hs, hs, h.eqv]; rfl
theorem k_eq (h : EqT e n) (hn : n ≤ 64 := by decide) : ∀ ρ, kS gEq ⟨m, e x⟩ ⟨m', e y⟩ ρ = .ok (isb (decide (x = y))) ρ := fun ρ => by
  show (match gEq (e x) (e y) with | some d => if isSc d then Rs.ok (Sv.mk .shr d) ρ else .bad | none => .bad) = _
  rw [gEq_t h hn]; rfl
theorem k_ne (h : EqT e n) (hn : n ≤ 64 := by decide) : ∀ ρ, kS gNe ⟨m, e x⟩ ⟨m', e y⟩ ρ = .ok (isb (decide (x ≠ y))) ρ := fun ρ => by
  have : gNe (e x) (e y) = some (.bl (decide (x ≠ y))) := by
    have hs : ∀ z, SeqAt.shaped (toD (e z)) = true := fun z => by
      show ((toD (e z)).canLay0 && decide ((toD (e z)).depth ≤ 64)) = true
      rw [h.lay, decide_eq_true (Nat.le_trans (h.dep z) hn)]; rfl
    unfold gNe cEq veq
    rw [hs, hs, h.eqv, decide_not]; rfl
  show (match gNe (e x) (e y) with | some d => if isSc d then Rs.ok (Sv.mk .shr d) ρ else .bad | none => .bad) = _
  rw [this]; rfl
end
section
variable {m m' : Md} {neg : Bool} {α : Type} [DecidableEq α] {e : α → Vl} {x : α} {xs : List α}
structure InT (e : α → Vl) : Prop where
  sc : ∀ x, isSc (e x) = true
  eq : ∀ x y, eqF (e y) (e x) = decide (x = y)
end
def lcK (own : List Nat) (tgt : SemG) (cond : SemB) (elt : Sem1) (items : List Sv) (k : Sv → En → Sr) : SemS := fun ρ1 => bndS (compL own tgt cond elt items (wipeE ρ1 own) []) fun ds ρ2 => k ⟨.own, .lst ds⟩ ρ2
def wipeG (Γ : List Sl) : List Nat → List Sl
  | [] => Γ
  | v :: vs => (wipeG Γ vs).set v .no
theorem wipeG.env {Γ : List Sl} {ρ : En} (h : EnvR Γ ρ) : ∀ own : List Nat, EnvR (wipeG Γ own) (wipeE ρ own)
  | [] => h
  | v :: vs => (wipeG.env h vs).set (show SlR .no none from rfl)
def eltS (cond : SemB) (elt : Sem1) : SemS := fun ρ => bndS (cond ρ) fun b ρ1 => bsel b (bndS (elt ρ1) retK) (.next ρ1)
def surE : Sur Empty Unit Unit := ⟨fun _ _ => False, fun _ _ _ _ => False, fun _ _ => True⟩
def PE {β : Type} (e : β → Vl) (G : List Sl) : Option β → Sr → Prop := fun o r => match o with
  | none => ∃ ρ', r = .next ρ' ∧ EnvR G ρ'
  | some y => ∃ ρ', r = .ret ⟨.shr, e y⟩ ρ' ∧ EnvR G ρ'
section
variable {l l' w r ν α β γ : Type} {Γ Δ : List Sl} {C : Sur l w r} {P : ν → Sr → Prop} {t : Oc l w r ν} {e : β → Vl} {k : Sv → En → Sr} {own : List Nat} {tgt : SemG} {cond : SemB} {elt : Sem1}
def lcF (own : List Nat) (tgt : SemG) (cond : SemB) (elt : Sem1) (q : Bool) (k : Sv → En → Sr) : Bool × List Sv → En → Sr := fun its ρ1 => grdS (its.1 || q) (lcK own tgt cond elt its.2 k ρ1)
theorem c_lc {q : Bool} {src : SemI} (h : RS Γ (fun ρ => bndS (src ρ) (lcF own tgt cond elt q k)) t C P) : RS Γ (fun ρ => bndS (fLc q own src tgt cond elt ρ) k) t C P :=
  h.congr fun ρ _ => by
    unfold fLc
    rw [bndS_bnd]
    congr 1; funext its ρ1
    rw [bndS_grd, bndS_bnd]; rfl
theorem comp_go {v : α → Sv} {D : List Sl} {TG : α → List Sl} {te : α → Oc Empty Unit Unit (Option β)} (ht : ∀ x ρ, EnvR D ρ → ∃ ρ1, tgt (v x) ρ = some ρ1 ∧ EnvR (TG x) ρ1) (hw : ∀ x, wipeG (TG x) own = D) (he : ∀ x, RS (TG x) (eltS cond elt) (te x) surE (PE e (TG x))) :
    ∀ (xs : List α) (acc : List β) (ρ : En), EnvR D ρ → match (compO te xs acc : Oc l w r (List β)) with
      | .next ys => ∃ ρ', compL own tgt cond elt (xs.map v) ρ (acc.map e) = .ok (ys.map e) ρ' ∧ EnvR D ρ'
      | .bad => True
      | _ => False
  | [], acc, ρ, h => ⟨ρ, rfl, h⟩
  | x :: xs, acc, ρ, h => by
    obtain ⟨ρ1, e1, h1⟩ := ht x ρ h
    have h2 := he x ρ1 h1
    have el : compL own tgt cond elt ((x :: xs).map v) ρ (acc.map e) = bndN (cond ρ1) fun b ρ2 => match b with
      | true => bndN (elt ρ2) fun s ρ3 => grd (isShr s.m && decide ((acc.map e).length < sizeLine)) (compL own tgt cond elt (xs.map v) (wipeE ρ3 own) (acc.map e ++ [s.d]))
      | false => compL own tgt cond elt (xs.map v) (wipeE ρ2 own) (acc.map e) := by
      rw [List.map_cons]
      show (match tgt (v x) ρ with | some ρ1 => _ | none => _) = _
      first | (rw [e1]; done) | (rw [e1]; rfl)
    have ec : (compO te (x :: xs) acc : Oc l w r (List β)) = match te x with
      | .next none => compO te xs acc
      | .next (some y) => if acc.length < sizeLine then compO te xs (acc ++ [y]) else .bad
      | _ => .bad := rfl
    rw [el, ec]
    cases hx : te x with
    | next o =>
      rw [hx] at h2
      cases o with
      | none =>
        obtain ⟨ρ', e3, h3⟩ := h2
        have : ∃ ρ2, cond ρ1 = .ok false ρ2 ∧ ρ2 = ρ' := by
          unfold eltS at e3
          cases q : cond ρ1 with
          | ok b ρ2 =>
            rw [q] at e3
            have e3 : bsel b (bndS (elt ρ2) retK) (.next ρ2) = .next ρ' := e3
            cases b with
            | true =>
              have e3 : bndS (elt ρ2) retK = .next ρ' := e3
              cases q2 : elt ρ2 <;> rw [q2] at e3 <;> cases e3
            | false =>
              have e3 : Sr.next ρ2 = .next ρ' := e3
              injection e3 with e3
              exact ⟨ρ2, rfl, e3⟩
          | exc _ _ _ => rw [q] at e3; cases e3
          | bad => rw [q] at e3; cases e3
        obtain ⟨ρ2, q1, rfl⟩ := this
        rw [q1]
        exact comp_go ht hw he xs acc _ (by rw [← hw x]; exact wipeG.env h3 own)
      | some y =>
        obtain ⟨ρ', e3, h3⟩ := h2
        have : ∃ ρ2, cond ρ1 = .ok true ρ2 ∧ elt ρ2 = .ok ⟨.shr, e y⟩ ρ' := by
          unfold eltS at e3
          cases q : cond ρ1 with
          | ok b ρ2 =>
            rw [q] at e3
            have e3 : bsel b (bndS (elt ρ2) retK) (.next ρ2) = .ret ⟨.shr, e y⟩ ρ' := e3
            cases b with
            | true =>
              have e3 : bndS (elt ρ2) retK = .ret ⟨.shr, e y⟩ ρ' := e3
              cases q2 : elt ρ2 with
              | ok s ρ3 =>
                rw [q2] at e3
                have e3 : Sr.ret s ρ3 = .ret ⟨.shr, e y⟩ ρ' := e3
                injection e3 with e4 e5
                exact ⟨ρ2, rfl, by rw [q2, e4, e5]⟩
              | exc _ _ _ => rw [q2] at e3; cases e3
              | bad => rw [q2] at e3; cases e3
            | false => have e3 : Sr.next ρ2 = .ret ⟨.shr, e y⟩ ρ' := e3; cases e3
          | exc _ _ _ => rw [q] at e3; cases e3
          | bad => rw [q] at e3; cases e3
        obtain ⟨ρ2, q1, q2⟩ := this
        by_cases c : acc.length < sizeLine
        · rw [q1]
          show match (if acc.length < sizeLine then compO te xs (acc ++ [y]) else .bad : Oc l w r (List β)) with
            | .next ys => ∃ ρ', bndN (elt ρ2) (fun s ρ3 => grd (isShr s.m && decide ((acc.map e).length < sizeLine)) (compL own tgt cond elt (xs.map v) (wipeE ρ3 own) (acc.map e ++ [s.d]))) = .ok (ys.map e) ρ' ∧ EnvR D ρ'
            | .bad => True
            | _ => False
          rw [if_pos c, q2]
          have := comp_go ht hw he xs (acc ++ [y]) (wipeE ρ' own) (by rw [← hw x]; exact wipeG.env h3 own)
          rw [List.map_append] at this
          rw [List.length_map, decide_eq_true c]
          exact this
        · show match (if acc.length < sizeLine then compO te xs (acc ++ [y]) else .bad : Oc l w r (List β)) with
            | .next ys => _
            | .bad => True
            | _ => False
          rw [if_neg c]; exact trivial
    | brk s => exact s.elim
    | cont s => exact s.elim
    | ret x o => rw [hx] at h2; obtain ⟨_, _, _, z⟩ := h2; exact z.elim
    | exc c fs o => exact trivial
    | bad => exact trivial
theorem c_comp {bb q : Bool} {v : α → Sv} {xs : List α} {D : List Sl} {TG : α → List Sl} {te : α → Oc Empty Unit Unit (Option β)} {u : List β → Oc l w r ν} (hq : (bb || q) = true) (e : β → Vl) (hd : wipeG Γ own = D) (ht : ∀ x ρ, EnvR D ρ → ∃ ρ1, tgt (v x) ρ = some ρ1 ∧ EnvR (TG x) ρ1) (hw : ∀ x, wipeG (TG x) own = D) (he : ∀ x, RS (TG x) (eltS cond elt) (te x) surE (PE e (TG x))) (h : ∀ ys, RS D (k ⟨.own, eL e ys⟩) (u ys) C P) :
    RS Γ (lcF own tgt cond elt q k (bb, xs.map v)) ((compO te xs []).bind u) C P := by
  refine RS.congr (g := lcK own tgt cond elt (xs.map v) k) (fun ρ _ => by show grdS (bb || q) _ = _; rw [hq]; rfl) ?_
  refine RS.mk fun ρ hρ => ?_
  have hD : EnvR D (wipeE ρ own) := by rw [← hd]; exact wipeG.env hρ own
  have g := comp_go (l := l) (w := w) (r := r) ht hw he xs [] _ hD
  cases q : (compO te xs [] : Oc l w r (List β)) with
  | next ys =>
    rw [q] at g
    obtain ⟨ρ', e1, h1⟩ := g
    have e1 : compL own tgt cond elt (xs.map v) (wipeE ρ own) [] = .ok (ys.map e) ρ' := e1
    have := h ys ρ' h1
    rw [show k ⟨.own, eL e ys⟩ ρ' = lcK own tgt cond elt (xs.map v) k ρ by unfold lcK; rw [e1]; rfl] at this
    exact this
  | brk _ => rw [q] at g; exact g.elim
  | cont _ => rw [q] at g; exact g.elim
  | ret _ _ => rw [q] at g; exact g.elim
  | exc _ _ _ => rw [q] at g; exact g.elim
  | bad => exact trivial
theorem compO_plain {p : α → Prop} [DecidablePred p] {f : α → β} : ∀ (xs : List α) (acc : List β), acc.length + xs.length ≤ sizeLine → (compO (fun x => if p x then .next (some (f x)) else .next none) xs acc : Oc l w r (List β)) = .next (acc ++ (xs.filter fun x => decide (p x)).map f)
  | [], acc, _ => by show Oc.next acc = _; simp
  | x :: xs, acc, h => by
    have h : acc.length + (xs.length + 1) ≤ sizeLine := h
    by_cases c : p x
    · have e : (compO (fun x => if p x then .next (some (f x)) else .next none) (x :: xs) acc : Oc l w r (List β)) = compO (fun x => if p x then .next (some (f x)) else .next none) xs (acc ++ [f x]) := by
        rw [compO, if_pos c]
        show (if acc.length < sizeLine then _ else _) = _
        rw [if_pos (by omega)]
      rw [e, compO_plain xs _ (by rw [List.length_append]; simp; omega), List.filter_cons_of_pos (by simpa using c)]
      simp
    · have e : (compO (fun x => if p x then .next (some (f x)) else .next none) (x :: xs) acc : Oc l w r (List β)) = compO (fun x => if p x then .next (some (f x)) else .next none) xs acc := by
        rw [compO, if_neg c]
      rw [e, compO_plain xs _ (by omega), List.filter_cons_of_neg (by simpa using c)]
theorem c_lcP {bb q : Bool} {v : α → Sv} {xs : List α} {D : List Sl} {TG : α → List Sl} {p : α → Prop} [DecidablePred p] {f : α → β} {u : List β → Oc l w r ν} (hq : (bb || q) = true) (e : β → Vl) (hd : wipeG Γ own = D) (ht : ∀ x ρ, EnvR D ρ → ∃ ρ1, tgt (v x) ρ = some ρ1 ∧ EnvR (TG x) ρ1) (hw : ∀ x, wipeG (TG x) own = D) (hc : ∀ x, Ev (TG x) cond (decide (p x))) (he : ∀ x, Ev (TG x) elt ⟨.shr, e (f x)⟩) (h : ∀ ys, RS D (k ⟨.own, eL e ys⟩) (u ys) C P) :
    RS Γ (lcF own tgt cond elt q k (bb, xs.map v)) ((lcO xs p f).bind u) C P := by
  unfold lcO
  by_cases c : xs.length ≤ sizeLine
  · rw [if_pos c]
    have := c_comp (Γ := Γ) (C := C) (P := P) (xs := xs) (te := fun x => if p x then .next (some (f x)) else .next none) hq e hd ht hw (fun x => RS.mk fun ρ hρ => by
      have e1 : eltS cond elt ρ = bsel (decide (p x)) (.ret ⟨.shr, e (f x)⟩ ρ) (.next ρ) := by
        unfold eltS
        rw [hc x ρ hρ]
        show bsel _ (bndS (elt ρ) retK) _ = _
        rw [he x ρ hρ]; rfl
      by_cases q : p x
      · rw [if_pos q]
        exact ⟨ρ, by rw [e1, decide_eq_true q]; rfl, hρ⟩
      · rw [if_neg q]
        exact ⟨ρ, by rw [e1, decide_eq_false q]; rfl, hρ⟩) h
    rw [compO_plain xs [] (by simpa using c)] at this
    simpa using this
  · rw [if_neg c]; exact c_bad
theorem c_lmP {bb q : Bool} {v : α → Sv} {xs : List α} {D : List Sl} {TG : α → List Sl} {f : α → β} {u : List β → Oc l w r ν} (hq : (bb || q) = true) (e : β → Vl) (hd : wipeG Γ own = D) (ht : ∀ x ρ, EnvR D ρ → ∃ ρ1, tgt (v x) ρ = some ρ1 ∧ EnvR (TG x) ρ1) (hw : ∀ x, wipeG (TG x) own = D) (he : ∀ x, Ev (TG x) elt ⟨.shr, e (f x)⟩) (h : ∀ ys, RS D (k ⟨.own, eL e ys⟩) (u ys) C P) :
    RS Γ (lcF own tgt bYes elt q k (bb, xs.map v)) ((lmO xs f).bind u) C P := by
  have := c_lcP (Γ := Γ) (C := C) (P := P) (cond := bYes) (p := fun _ => True) (f := f) (xs := xs) hq e hd ht hw (fun _ _ _ => rfl) he h
  have e1 : (lcO xs (fun _ => True) f : Oc l w r (List β)) = lmO xs f := by
    unfold lcO lmO
    rw [List.filter_eq_self.mpr (fun _ _ => by simp)]
  rw [e1] at this
  exact this
theorem e_some {y : β} {G : List Sl} (h : Wke Γ G) : RS Γ (retK ⟨.shr, e y⟩) (.next (some y) : Oc Empty Unit Unit (Option β)) surE (PE e G) := RS.mk fun ρ hρ => ⟨ρ, rfl, h.env hρ⟩
theorem e_yes {tt : Oc Empty Unit Unit (Option β)} {Q : Option β → Sr → Prop} (h : RS Γ (fun ρ => bndS (elt ρ) retK) tt surE Q) : RS Γ (eltS bYes elt) tt surE Q := h
theorem xE : ∀ ρ, EnvR Γ ρ → surE.ex () ρ := fun _ _ => trivial
theorem t_nmC {n : Nat} {v : α → Sv} {D : List Sl} (h1 : noIoG D n = true) (h2 : ∀ x, sto (v x).m = true) : ∀ (x : α) (ρ : En), EnvR D ρ → ∃ ρ1, gNm n (v x) ρ = some ρ1 ∧ EnvR (D.set n (.vl (v x))) ρ1 := fun x ρ hρ =>
  t_nm (G := fun _ : Unit => D) (fun _ => h1) h2 x () ρ hρ
def fldK (i : Nat) (f : Str) (cs : List Str) (s : Sv) (ρ1 : En) : Sr := match ρ1[i]? with
  | some (some ⟨m, .ins c fs⟩) => grdS (mutb m && decide (c ∈ cs) && decide (fs.length < 1000)) (.next (ρ1.set i (some ⟨m, .ins c (putFV f s.d fs)⟩)))
  | _ => .bad
theorem s_fld {i : Nat} {f : Str} {cs : List Str} {fa : Sem1} {g : SemS} (h : RS Γ (fun ρ => bndS (fa ρ) fun s ρ1 => grdS (isShr s.m) (seqK (fldK i f cs s ρ1) g)) t C P) : RS Γ (sSeq (sFldS i f cs fa) g) t C P :=
  h.congr fun ρ _ => by
    rw [seq_eq]
    unfold sFldS
    rw [seqK_bndS]
    congr 1; funext s ρ1
    rw [seqK_grdS]; rfl
theorem c_fld {i : Nat} {f : Str} {cs : List Str} {m : Md} {c : Str} {d : Vl} {fs fs' : List (Str × Vl)} {g : SemS} (h0 : Γ[i]? = some (.vl ⟨m, .ins c fs⟩)) (hm : (mutb m && decide (c ∈ cs) && decide (fs.length < 1000)) = true) (e : putFV f d fs = fs') (h : RS (Γ.set i (.vl ⟨m, .ins c fs'⟩)) g t C P) : RS Γ (fun ρ => seqK (fldK i f cs ⟨.shr, d⟩ ρ) g) t C P := by
  refine RS.mk fun ρ hρ => ?_
  have := h _ (hρ.set (show SlR (.vl ⟨m, .ins c fs'⟩) (some ⟨m, .ins c fs'⟩) from rfl) (i := i))
  have e1 : g (ρ.set i (some ⟨m, .ins c fs'⟩)) = seqK (fldK i f cs ⟨.shr, d⟩ ρ) g := by
    unfold fldK
    rw [hρ.var h0]
    show _ = seqK (grdS (mutb m && decide (c ∈ cs) && decide (fs.length < 1000)) (.next (ρ.set i (some ⟨m, .ins c (putFV f d fs)⟩)))) g
    rw [hm, e]; rfl
  rw [e1] at this
  exact this
def tryO {l w w' r ν : Type} (g : w' → w) (tf : Oc l w' r ν) (th : Str → List (Str × Vl) → w' → Oc l w r ν) : Oc l w r ν := match tf with
  | .next a => .next a
  | .brk s => .brk s
  | .cont s => .cont s
  | .ret x o => .ret x (g o)
  | .exc c fs o => th c fs o
  | .bad => .bad
@[simp] theorem tryO_next {w' : Type} (g : w' → w) (a : ν) (th : Str → List (Str × Vl) → w' → Oc l w r ν) : tryO g (.next a) th = .next a := rfl
@[simp] theorem tryO_ret {w' : Type} (g : w' → w) (x : r) (o : w') (th : Str → List (Str × Vl) → w' → Oc l w r ν) : tryO g (.ret x o) th = .ret x (g o) := rfl
@[simp] theorem tryO_exc {w' : Type} (g : w' → w) (c : Str) (fs : List (Str × Vl)) (o : w') (th : Str → List (Str × Vl) → w' → Oc l w r ν) : tryO g (.exc c fs o) th = th c fs o := rfl
@[simp] theorem tryO_bad {w' : Type} (g : w' → w) (th : Str → List (Str × Vl) → w' → Oc l w r ν) : tryO g .bad th = .bad := rfl
def Sur.try_ {w' : Type} (C : Sur l w r) (g : w' → w) (Gx : w' → List Sl) : Sur l w' r where
  lp := C.lp
  rt := fun x o s ρ => C.rt x (g o) s ρ
  ex := fun o ρ => EnvR (Gx o) ρ
theorem xtry {w' : Type} {g : w' → w} {Gx : w' → List Sl} {o : w'} (h : Wke Γ (Gx o)) : ∀ ρ, EnvR Γ ρ → (C.try_ g Gx).ex o ρ := fun ρ hρ => h.env hρ
theorem pn_ne {G : ν → List Sl} (a : ν) (c : Str) (fs : List (Str × Vl)) (ρ' : En) : ¬ PN G a (.exc c fs ρ') := fun ⟨_, z, _⟩ => by cases z
theorem pf_ne (a : ν) (c : Str) (fs : List (Str × Vl)) (ρ' : En) : ¬ (PF : ν → Sr → Prop) a (.exc c fs ρ') := fun z => z
theorem s_try {w' : Type} {f : SemS} {hs : List HSem} {g : w' → w} {Gx : w' → List Sl} {tf : Oc l w' r ν} {th : Str → List (Str × Vl) → w' → Oc l w r ν} (hP : ∀ a c fs ρ', ¬ P a (.exc c fs ρ')) (hf : RS Γ f tf (C.try_ g Gx) P) (hh : ∀ c fs o, RS (Gx o) (fun ρ => hRun hs c fs ρ) (th c fs o) C P) : RS Γ (sTry f hs) (tryO g tf th) C P := by
  refine RS.mk fun ρ hρ => ?_
  have hf := hf ρ hρ
  have e : sTry f hs ρ = match f ρ with
    | .exc c fs ρ1 => hRun hs c fs ρ1
    | r => r := rfl
  cases tf with
  | next a =>
    have hf : P a (f ρ) := hf
    show P a (sTry f hs ρ)
    rw [e]
    cases q : f ρ with
    | exc c fs ρ' => rw [q] at hf; exact (hP a c fs ρ' hf).elim
    | next _ => rw [q] at hf; exact hf
    | brk _ => rw [q] at hf; exact hf
    | cont _ => rw [q] at hf; exact hf
    | ret _ _ => rw [q] at hf; exact hf
    | bad => rw [q] at hf; exact hf
  | brk s => obtain ⟨ρ', e1, k⟩ := hf; exact ⟨ρ', by rw [e, e1], k⟩
  | cont s => obtain ⟨ρ', e1, k⟩ := hf; exact ⟨ρ', by rw [e, e1], k⟩
  | ret x o => obtain ⟨s, ρ', e1, k⟩ := hf; exact ⟨s, ρ', by rw [e, e1], k⟩
  | exc c fs o =>
    obtain ⟨ρ', e1, k⟩ := hf
    have := hh c fs o ρ' k
    have e2 : sTry f hs ρ = hRun hs c fs ρ' := by rw [e, e1]
    show match th c fs o with
      | .next a => P a (sTry f hs ρ)
      | .brk s => ∃ ρ', sTry f hs ρ = .brk ρ' ∧ C.lp s ρ'
      | .cont s => ∃ ρ', sTry f hs ρ = .cont ρ' ∧ C.lp s ρ'
      | .ret x o => ∃ s ρ', sTry f hs ρ = .ret s ρ' ∧ C.rt x o s ρ'
      | .exc c fs o => ∃ ρ', sTry f hs ρ = .exc c fs ρ' ∧ C.ex o ρ'
      | .bad => True
    rw [e2]
    exact this
  | bad => exact trivial
theorem h_end {c : Str} {fs : List (Str × Vl)} {o : w} (hx : ∀ ρ, EnvR Γ ρ → C.ex o ρ) : RS Γ (fun ρ => hRun [] c fs ρ) (.exc c fs o) C P := RS.mk fun ρ hρ => ⟨ρ, rfl, hx ρ hρ⟩
def Sur.nx (C : Sur l w r) : Sur l w r := ⟨C.lp, C.rt, fun _ _ => False⟩
theorem h_as {i : Nat} {c : Str} {fs : List (Str × Vl)} {yes no : List Str} {su : Str → List (Str × Vl) → SemS} {hs : List HSem} {T1 T2 : Oc l w r ν} (hi : noIoG Γ i = true) (hP : ∀ a c fs ρ', ¬ P a (.exc c fs ρ')) (hn : ∀ a x, P a x → match x with
    | .next ρ => P a (.next (ρ.set i none))
    | .ret _ _ => True
    | _ => False) (hl : ∀ s ρ, C.lp s ρ → C.lp s (ρ.set i none)) (h1 : RS (Γ.set i .no) (su c fs) T1 C.nx P) (h2 : RS Γ (fun ρ => hRun hs c fs ρ) T2 C P) :
    RS Γ (fun ρ => hRun (⟨some i, tabX yes no, su⟩ :: hs) c fs ρ) (if yes.contains c then T1 else if no.contains c then T2 else .bad) C P := by
  have e : ∀ ρ, hRun (⟨some i, tabX yes no, su⟩ :: hs) c fs ρ = match tabX yes no c with
    | some true => (match (if noIo ρ i && decide (i < ρ.length) then some (ρ.set i none) else none) with
      | some ρ1 => unR (some i) (su c fs ρ1)
      | none => .bad)
    | some false => hRun hs c fs ρ
    | none => .bad := fun _ => rfl
  by_cases q : yes.contains c = true
  · rw [if_pos q]
    refine RS.mk fun ρ hρ => ?_
    have k := h1 (ρ.set i none) (hρ.set (show SlR .no none from rfl))
    have hlen : i < ρ.length := by
      unfold noIoG at hi
      cases g : Γ[i]? with
      | none => rw [g] at hi; cases hi
      | some a =>
        obtain ⟨o, h3, _⟩ := hρ.get g
        rcases Nat.lt_or_ge i ρ.length with z | z
        · exact z
        · rw [List.getElem?_eq_none z] at h3; cases h3
    have e1 : hRun (⟨some i, tabX yes no, su⟩ :: hs) c fs ρ = unR (some i) (su c fs (ρ.set i none)) := by
      rw [e ρ, show tabX yes no c = some true by unfold tabX; rw [if_pos q]]
      show (match (if noIo ρ i && decide (i < ρ.length) then some (ρ.set i none) else none) with
      | some ρ1 => unR (some i) (su c fs ρ1)
      | none => .bad) = _
      rw [noIoG.env hi hρ, decide_eq_true hlen]; rfl
    cases T1 with
    | next a =>
      have k : P a (su c fs (ρ.set i none)) := k
      show P a (hRun (⟨some i, tabX yes no, su⟩ :: hs) c fs ρ)
      rw [e1]
      have := hn a _ k
      cases z : su c fs (ρ.set i none) with
      | next ρ1 => rw [z] at this; exact this
      | ret s ρ1 => rw [z] at k; exact k
      | brk _ => rw [z] at this; exact this.elim
      | cont _ => rw [z] at this; exact this.elim
      | exc _ _ _ => rw [z] at this; exact this.elim
      | bad => rw [z] at this; exact this.elim
    | brk s => obtain ⟨ρ', q1, q2⟩ := k; exact ⟨ρ'.set i none, e1.trans (by rw [q1]; rfl), hl _ _ q2⟩
    | cont s => obtain ⟨ρ', q1, q2⟩ := k; exact ⟨ρ'.set i none, e1.trans (by rw [q1]; rfl), hl _ _ q2⟩
    | ret x o => obtain ⟨s, ρ', q1, q2⟩ := k; exact ⟨s, ρ', e1.trans (by rw [q1]; rfl), q2⟩
    | exc cc ff o => obtain ⟨ρ', _, z⟩ := k; exact z.elim
    | bad => exact trivial
  · rw [if_neg q]
    by_cases q2 : no.contains c = true
    · rw [if_pos q2]
      exact h2.congr fun ρ _ => by rw [e ρ, show tabX yes no c = some false by unfold tabX; rw [if_neg q, if_pos q2]]
    · rw [if_neg q2]; exact c_bad
theorem hn_F {i : Nat} : ∀ (a : ν) (x : Sr), (PF : ν → Sr → Prop) a x → match x with
    | .next ρ => (PF : ν → Sr → Prop) a (.next (ρ.set i none))
    | .ret _ _ => True
    | _ => False := fun _ _ z => z.elim
theorem set_jk {G : List Sl} {i : Nat} {ρ : En} (h : G[i]? = some .jk ∨ G[i]? = some .no) (hρ : EnvR G ρ) : EnvR G (ρ.set i none) := by
  have : ∀ a, G[i]? = some a → G = G.set i a := fun a e => by
    apply List.ext_getElem?
    intro j
    rw [List.getElem?_set]
    by_cases c : i = j
    · subst c
      rw [if_pos rfl, e]
      rcases Nat.lt_or_ge i G.length with z | z
      · rw [if_pos z]
      · rw [List.getElem?_eq_none z] at e; cases e
    · rw [if_neg c]
  rcases h with h | h
  · rw [this _ h]; exact hρ.set (show SlR .jk none from trivial)
  · rw [this _ h]; exact hρ.set (show SlR .no none from rfl)
theorem hn_N {i : Nat} {G : ν → List Sl} (h : ∀ a, (G a)[i]? = some .jk ∨ (G a)[i]? = some .no) : ∀ (a : ν) (x : Sr), PN G a x → match x with
    | .next ρ => PN G a (.next (ρ.set i none))
    | .ret _ _ => True
    | _ => False := fun a x ⟨ρ', e, k⟩ => by
  subst e
  exact ⟨_, rfl, set_jk (h a) k⟩
theorem hl_0 {pm : List PM} {rm : Bool} {eo : w → List Vl} {er : r → Vl} {i : Nat} : ∀ s ρ, (surF pm rm eo er).lp s ρ → (surF pm rm eo er).lp s (ρ.set i none) := fun s => s.elim
def xfI (fs : List (Str × Vl)) (f : Str) : Oc l w r Int := match fs.lookup f with
  | some (.int i) => .next i
  | _ => .bad
theorem c_xfI {fs : List (Str × Vl)} {f : Str} {u : Int → Oc l w r ν} (h : ∀ a, RS Γ (k (isv a)) (u a) C P) : RS Γ (fun ρ => bndS (fXf fs f ρ) k) ((xfI fs f).bind u) C P := by
  have e : ∀ ρ, fXf fs f ρ = match fs.lookup f with | some d => .ok ⟨.shr, d⟩ ρ | none => .bad := fun _ => rfl
  unfold xfI
  split
  · rename_i i q
    exact c_ok (fun ρ => by rw [e, q]) (h i)
  · exact c_bad
end
end MV
namespace MV
open PySem PySem.Spec PyProof.Rows L2 He
section
variable {l l' w r ν α β γ : Type} {Γ Δ : List Sl} {C : Sur l w r} {P : ν → Sr → Prop} {t : Oc l w r ν} {m m' : Md} {k : Sv → En → Sr}
theorem v_str {z : Str} {cs : List Char} (h : strOf cs = z) : Ev Γ (fC (.str z)) (sv (eS cs)) := fun _ _ => by rw [← h]; rfl
theorem v_isx {b : Bool} : Ev Γ (fIsX b) (isb b) := fun _ _ => rfl
theorem bt (b : Bool) : b = decide (b = true) := (Bool.decide_eq_true (b := b)).symm
theorem not_dec {b : Bool} {p : Prop} [Decidable p] (h : b = decide p) : (!b) = decide (¬ p) := by rw [h, decide_not]
theorem c_int {i : Int} {F : Int → En → Sr} (h : RS Γ (F i) t C P) : RS Γ (kIS F ⟨m, .int i⟩) t C P := h
theorem c_grd0 {f : SemS} (g : RS Γ f t C P) : RS Γ f t C P := g
theorem mkb_sto (d : Vl) : sto (mk .bor d).m = true := by
  unfold mk
  split <;> rfl
def eqO (x y : Vl) : Oc l w r Bool := if cEq x y then .next (veq x y) else .bad
def neO (x y : Vl) : Oc l w r Bool := if cEq x y then .next (!veq x y) else .bad
theorem c_neO {x y : Vl} {u : Bool → Oc l w r ν} (h : ∀ b, RS Γ (k (isb b)) (u b) C P) : RS Γ (fun ρ => bndS (kS gNe ⟨m, x⟩ ⟨m', y⟩ ρ) k) ((neO x y).bind u) C P := by
  unfold neO
  by_cases c : cEq x y = true
  · rw [if_pos c]
    refine c_ok (fun ρ => ?_) (h _)
    show (match (if cEq x y then some (Vl.bl (!veq x y)) else none) with | some d => if isSc d then Rs.ok (Sv.mk .shr d) ρ else .bad | none => .bad) = _
    rw [if_pos c]; rfl
  · rw [if_neg c]; exact c_bad
theorem eLV {e : α → Vl} {xs : List α} : eL e xs = eL eV (xs.map e) := by
  unfold eL
  rw [List.map_map]; rfl
theorem c_catV {e : α → Vl} {e' : β → Vl} {xs : List α} {ys : List β} {u : List Vl → Oc l w r ν} (hl : lft m (xs.map e) = true) (hl' : lft m' (ys.map e') = true) (h : ∀ a, RS Γ (k ⟨.own, eL eV a⟩) (u a) C P) : RS Γ (fun ρ => bndS (kAdd ⟨m, eL e xs⟩ ⟨m', eL e' ys⟩ ρ) k) ((catO (xs.map e) (ys.map e')).bind u) C P := by
  have := c_cat (Γ := Γ) (C := C) (P := P) (e := eV) (m := m) (m' := m') (xs := xs.map e) (ys := ys.map e') (u := u) (by rw [List.map_map]; exact hl) (by rw [List.map_map]; exact hl') h
  rw [← eLV, ← eLV] at this
  exact this
def getO (x : Option α) : Oc l w r α := match x with
  | some a => .next a
  | none => .bad
@[simp] theorem getO_some (a : α) : (getO (some a) : Oc l w r α) = .next a := rfl
def isiO (g : Vl → Option Bool) (x : Vl) : Oc l w r Bool := match g x with
  | some b => .next b
  | none => .bad
theorem c_isiO {g : Vl → Option Bool} {x : Vl} {u : Bool → Oc l w r ν} (h : ∀ b, RS Γ (k (isb b)) (u b) C P) : RS Γ (fun ρ => bndS (kIsi g ⟨m, x⟩ ρ) k) ((isiO g x).bind u) C P := by
  have e : ∀ ρ, kIsi g ⟨m, x⟩ ρ = match g x with | some b => .ok ⟨.shr, .bl b⟩ ρ | none => .bad := fun _ => rfl
  unfold isiO
  cases q : g x with
  | none => exact c_bad
  | some b => exact c_ok (fun ρ => by rw [e, q]) (h b)
end
structure Drw where
  v : Int
  p : Nat
  cs : List Int
  v0 : 0 ≤ v
  pl : p ≤ cs.length
  c63 : cs.length ≤ 63
def eDrw (d : Drw) : Vl := .lst [.int d.v, .int d.p, .lst (d.cs.map Vl.int)]
def iabs (i : Int) : Int := if i < 0 then -i else i
def skipZ (cs : List Int) : Nat → Int → Nat → Int × Nat
  | 0, v, p => (v, p)
  | n + 1, v, p => if v = 0 then (if p < cs.length then skipZ cs n (iabs (cs.getD p 0)) (p + 1) else (v, p)) else (v, p)
theorem skipZ_ok {cs : List Int} : ∀ (n : Nat) (v : Int) (p : Nat), 0 ≤ v → p ≤ cs.length → 0 ≤ (skipZ cs n v p).1 ∧ (skipZ cs n v p).2 ≤ cs.length
  | 0, _, _, h, k => ⟨h, k⟩
  | n + 1, v, p, h, k => by
    unfold skipZ
    split
    · split
      · exact skipZ_ok n _ _ (by unfold iabs; split <;> omega) (by omega)
      · exact ⟨h, k⟩
    · exact ⟨h, k⟩
def Drw.sk (d : Drw) : Int × Nat := skipZ d.cs (d.cs.length - d.p + 1) d.v d.p
def t_l_draw (d : Drw) (lim : Int) : TF Drw Int := if h : 0 < lim ∧ lim < 1073741824 then .ret (d.sk.1 % lim) ⟨d.sk.1 / lim, d.sk.2, d.cs, Int.ediv_nonneg (skipZ_ok _ _ _ d.v0 d.pl).1 (Int.le_of_lt h.1), (skipZ_ok _ _ _ d.v0 d.pl).2, d.c63⟩ else .bad
def t_l_begin (ns : List Int) : TF Unit Drw := if h : ns.length ≤ 63 then .ret ⟨0, 0, ns, Int.le_refl 0, Nat.zero_le _, h⟩ () else .bad
theorem draw_ok (d : Drw) {lim : Int} (h1 : 0 < lim) (h2 : lim < 1073741824) : ∃ r d', t_l_draw d lim = .ret r d' ∧ 0 ≤ r ∧ r < lim := by
  unfold t_l_draw
  rw [dif_pos ⟨h1, h2⟩]
  exact ⟨_, _, rfl, Int.emod_nonneg _ (by omega), Int.emod_lt_of_pos _ h1⟩
theorem begin_ok {ns : List Int} (h : ns.length ≤ 63) : ∃ d, t_l_begin ns = .ret d () := by
  unfold t_l_begin
  rw [dif_pos h]
  exact ⟨_, rfl⟩
end MV
namespace MV
open PySem PySem.Spec PyProof.Rows L2 He
section
variable {l l' w r ν α β : Type}
theorem size_eq : sizeLine = 16777216 := by decide
theorem ixN_nn {n : Nat} {i : Int} (h0 : 0 ≤ i) (h1 : i < (n : Int)) : ixN n i = some i.toNat := by
  unfold ixN
  rw [if_pos h0, if_pos h1]
theorem atI_nn {xs : List α} {i : Int} (h0 : 0 ≤ i) (h1 : i < (xs.length : Int)) : atI xs i = xs[i.toNat]? := by
  unfold atI
  rw [ixN_nn h0 h1]; rfl
theorem ixO_get {xs : List α} {i : Int} {a : α} (h0 : 0 ≤ i) (h1 : xs[i.toNat]? = some a) : (ixO xs i : Oc l w r α) = .next a := by
  have hl : i.toNat < xs.length := by
    rcases Nat.lt_or_ge i.toNat xs.length with z | z
    · exact z
    · rw [List.getElem?_eq_none z] at h1; cases h1
  unfold ixO
  rw [atI_nn h0 (by omega), h1]
theorem ixO_d {xs : List α} {i : Int} (d : α) (h0 : 0 ≤ i) (h1 : i < (xs.length : Int)) : (ixO xs i : Oc l w r α) = .next (xs.getD i.toNat d) := by
  refine ixO_get h0 ?_
  rw [List.getD_eq_getElem?_getD, List.getElem?_eq_getElem (by omega)]; rfl
theorem ixO_n {xs : List α} {i : Nat} (d : α) (h1 : i < xs.length) : (ixO xs (i : Int) : Oc l w r α) = .next (xs.getD i d) := by
  have := ixO_d (l := l) (w := w) (r := r) (xs := xs) d (Int.natCast_nonneg i) (by omega)
  simpa using this
theorem pushO_ok {xs : List α} {x : α} (h : xs.length < 16777216) : (pushO xs x : Oc l w r (List α)) = .next (xs ++ [x]) := by
  unfold pushO
  rw [size_eq, if_pos h]
theorem modO_ok {i j : Int} (h : 0 < j) : (modO i j : Oc l w r Int) = .next (i % j) := by unfold modO; rw [if_pos h]
theorem divO_ok {i j : Int} (h : 0 < j) (h' : j < 1073741824) : (divO i j : Oc l w r Int) = .next (i / j) := by unfold divO; rw [if_pos ⟨h, h'⟩]
theorem c62_b {i : Int} (h1 : -4000000000000000000 ≤ i) (h2 : i ≤ 4000000000000000000) : c62 i = true := by
  unfold c62
  rw [decide_eq_true (show -(2 ^ 62) ≤ i by omega), decide_eq_true (show i < 2 ^ 62 by omega)]; rfl
theorem rngO_ok {a b : Int} (h : (-4000000000000000000 ≤ a ∧ a ≤ 4000000000000000000) ∧ -4000000000000000000 ≤ b ∧ b ≤ 4000000000000000000) : (rngO a b : Oc l w r (List Int)) = .next (iv a (b - a).toNat) := by
  unfold rngO
  rw [c62_b h.1.1 h.1.2, c62_b h.2.1 h.2.2]; rfl
theorem rngO_n {n : Nat} (h : n ≤ 16777216) : (rngO 0 (n : Int) : Oc l w r (List Int)) = .next (iv 0 n) := by
  rw [rngO_ok (by omega), show ((n : Int) - 0).toNat = n by omega]
theorem lmO_ok {xs : List α} {f : α → β} (h : xs.length ≤ 16777216) : (lmO xs f : Oc l w r (List β)) = .next (xs.map f) := by unfold lmO; rw [size_eq, if_pos h]
theorem maxO_ok {xs : List Int} (h : xs ≠ []) : (maxO xs : Oc l w r Int) = .next (maxL xs) := by
  unfold maxO
  cases xs with
  | nil => exact (h rfl).elim
  | cons x xs => rfl
theorem forO_cons {body : α → l' → Oc l' w r l'} {x : α} {xs : List α} {s : l'} : (forO body (x :: xs) s : Oc l w r l') = match body x s with
    | .next s' => forO body xs s'
    | .cont s' => forO body xs s'
    | .brk s' => .next s'
    | .ret x o => .ret x o
    | .exc c fs o => .exc c fs o
    | .bad => .bad := rfl
theorem forO_f {body : α → l' → Oc l' w r l'} (f : Nat → l') : ∀ (xs : List α) (k : Nat), (∀ j (h : j < xs.length), body xs[j] (f (k + j)) = .next (f (k + j + 1)) ∨ body xs[j] (f (k + j)) = .cont (f (k + j + 1))) → (forO body xs (f k) : Oc l w r l') = .next (f (k + xs.length))
  | [], k, _ => rfl
  | x :: xs, k, h => by
    have ih := forO_f f xs (k + 1) fun j hj => by
      have := h (j + 1) (by simpa using hj)
      rw [show k + 1 + j = k + (j + 1) by omega]
      exact this
    have h0 := h 0 (by simp)
    rw [forO_cons]
    have e : f (k + (x :: xs).length) = f (k + 1 + xs.length) := by rw [List.length_cons]; congr 1; omega
    rw [e, ← ih]
    rcases h0 with h0 | h0
    · have h0 : body x (f k) = .next (f (k + 1)) := h0
      rw [h0]
    · have h0 : body x (f k) = .cont (f (k + 1)) := h0
      rw [h0]
theorem forO_l {body : α → l' → Oc l' w r l'} (f : Nat → l') {xs : List α} {s : l'} (h0 : s = f 0) (h : ∀ j (hj : j < xs.length), body xs[j] (f j) = .next (f (j + 1)) ∨ body xs[j] (f j) = .cont (f (j + 1))) : (forO body xs s : Oc l w r l') = .next (f xs.length) := by
  have := forO_f (l := l) (body := body) f xs 0 fun j hj => by simpa using h j hj
  rw [h0]; simpa using this
theorem iv_len {lo : Int} {n : Nat} : (iv lo n).length = n := by unfold iv; simp
theorem iv_at {lo : Int} {n j : Nat} (h : j < (iv lo n).length) : (iv lo n)[j] = lo + (j : Int) := by
  have e : (iv lo n)[j]? = some (lo + (j : Int)) := by
    rw [iv_len] at h
    unfold iv
    rw [List.getElem?_map, List.getElem?_range h]; rfl
  rw [List.getElem?_eq_getElem h] at e
  exact Option.some.inj e
theorem forO_iv {body : Int → l' → Oc l' w r l'} (f : Nat → l') {a : Int} {n : Nat} {s : l'} (h0 : s = f 0) (h : ∀ j, j < n → body (a + (j : Int)) (f j) = .next (f (j + 1)) ∨ body (a + (j : Int)) (f j) = .cont (f (j + 1))) : (forO body (iv a n) s : Oc l w r l') = .next (f n) := by
  have := forO_l (l := l) (body := body) f (xs := iv a n) h0 fun j hj => by rw [iv_at]; exact h j (by rw [iv_len] at hj; exact hj)
  rw [iv_len] at this
  exact this
theorem forO_iv0 {body : Int → l' → Oc l' w r l'} (f : Nat → l') {n : Nat} {s : l'} (h0 : s = f 0) (h : ∀ j, j < n → body (j : Int) (f j) = .next (f (j + 1)) ∨ body (j : Int) (f j) = .cont (f (j + 1))) : (forO body (iv 0 n) s : Oc l w r l') = .next (f n) :=
  forO_iv f h0 fun j hj => by rw [show (0 : Int) + (j : Int) = (j : Int) by omega]; exact h j hj
theorem forO_i {body : α → l' → Oc l' w r l'} (I : Nat → l' → Prop) : ∀ (xs : List α) (k : Nat) (s : l'), I k s → (∀ j (h : j < xs.length) s, I (k + j) s → ∃ s', (body xs[j] s = .next s' ∨ body xs[j] s = .cont s') ∧ I (k + j + 1) s') → ∃ s', (forO body xs s : Oc l w r l') = .next s' ∧ I (k + xs.length) s'
  | [], k, s, h, _ => ⟨s, rfl, h⟩
  | x :: xs, k, s, h, hs => by
    obtain ⟨s1, h1, h2⟩ := hs 0 (by simp) s h
    obtain ⟨s', e, i⟩ := forO_i I xs (k + 1) s1 h2 fun j hj s h => by
      have := hs (j + 1) (by simpa using hj) s (by rw [show k + (j + 1) = k + 1 + j by omega]; exact h)
      rw [show k + 1 + j + 1 = k + (j + 1) + 1 by omega]
      exact this
    refine ⟨s', ?_, by rw [List.length_cons, show k + (xs.length + 1) = k + 1 + xs.length by omega]; exact i⟩
    rw [forO_cons]
    rcases h1 with h1 | h1
    · have h1 : body x s = .next s1 := h1
      rw [h1]; exact e
    · have h1 : body x s = .cont s1 := h1
      rw [h1]; exact e
theorem forO_inv {body : α → l' → Oc l' w r l'} (I : Nat → l' → Prop) {xs : List α} {s : l'} (h0 : I 0 s) (hs : ∀ j (h : j < xs.length) s, I j s → ∃ s', (body xs[j] s = .next s' ∨ body xs[j] s = .cont s') ∧ I (j + 1) s') : ∃ s', (forO body xs s : Oc l w r l') = .next s' ∧ I xs.length s' := by
  have := forO_i (l := l) (body := body) I xs 0 s h0 fun j hj s h => by
    rw [Nat.zero_add] at h ⊢
    exact hs j hj s h
  simpa using this
theorem forO_inv_iv {body : Int → l' → Oc l' w r l'} (I : Nat → l' → Prop) {a : Int} {n : Nat} {s : l'} (h0 : I 0 s) (hs : ∀ j, j < n → ∀ s, I j s → ∃ s', (body (a + (j : Int)) s = .next s' ∨ body (a + (j : Int)) s = .cont s') ∧ I (j + 1) s') : ∃ s', (forO body (iv a n) s : Oc l w r l') = .next s' ∧ I n s' := by
  have := forO_inv (l := l) (body := body) I (xs := iv a n) h0 fun j hj s h => by rw [iv_at]; exact hs j (by rw [iv_len] at hj; exact hj) s h
  rw [iv_len] at this
  exact this
theorem forO_at {body : α → l' → Oc l' w r l'} (f : Nat → l') {xs : List α} {s : l'} {k : Nat} (hk : k < xs.length) (h0 : s = f 0) (h : ∀ j (hj : j < k), body (xs[j]'(by omega)) (f j) = .next (f (j + 1)) ∨ body (xs[j]'(by omega)) (f j) = .cont (f (j + 1))) : (forO body xs s : Oc l w r l') = forO body (xs[k] :: xs.drop (k + 1)) (f k) := by
  have e : xs = xs.take k ++ (xs[k] :: xs.drop (k + 1)) := by
    rw [List.getElem_cons_drop, List.take_append_drop]
  have hl : (xs.take k).length = k := by rw [List.length_take]; omega
  have key : ∀ (ys zs : List α) (s s' : l'), (forO body ys s : Oc l w r l') = .next s' → (∀ j (hj : j < ys.length) t, body ys[j] t ≠ .brk s') → True := fun _ _ _ _ _ _ => trivial
  have app : ∀ (ys zs : List α) (g : Nat → l') (i : Nat), (∀ j (hj : j < ys.length), body ys[j] (g (i + j)) = .next (g (i + j + 1)) ∨ body ys[j] (g (i + j)) = .cont (g (i + j + 1))) → (forO body (ys ++ zs) (g i) : Oc l w r l') = forO body zs (g (i + ys.length)) := by
    intro ys
    induction ys with
    | nil => exact fun _ _ _ _ => rfl
    | cons y ys ih =>
      intro zs g i hy
      have ih := ih zs g (i + 1) fun j hj => by
        have := hy (j + 1) (by simpa using hj)
        rw [show i + 1 + j = i + (j + 1) by omega]
        exact this
      have h0 := hy 0 (by simp)
      rw [List.cons_append, forO_cons, List.length_cons, show i + (ys.length + 1) = i + 1 + ys.length by omega, ← ih]
      rcases h0 with h0 | h0
      · have h0 : body y (g i) = .next (g (i + 1)) := h0
        rw [h0]
      · have h0 : body y (g i) = .cont (g (i + 1)) := h0
        rw [h0]
  have := app (xs.take k) (xs[k] :: xs.drop (k + 1)) f 0 fun j hj => by
    rw [List.getElem_take, Nat.zero_add]
    exact h j (by omega)
  rw [← e, Nat.zero_add, hl] at this
  rw [h0]; exact this
theorem forO_ret {body : α → l' → Oc l' w r l'} (f : Nat → l') {xs : List α} {s : l'} {k : Nat} (hk : k < xs.length) {x : r} {o : w} (h0 : s = f 0) (h : ∀ j (hj : j < k), body (xs[j]'(by omega)) (f j) = .next (f (j + 1)) ∨ body (xs[j]'(by omega)) (f j) = .cont (f (j + 1))) (hx : body xs[k] (f k) = .ret x o) : (forO body xs s : Oc l w r l') = .ret x o := by
  rw [forO_at f hk h0 h, forO_cons, hx]
theorem forO_exc {body : α → l' → Oc l' w r l'} (f : Nat → l') {xs : List α} {s : l'} {k : Nat} (hk : k < xs.length) {c : Str} {fs : List (Str × Vl)} {o : w} (h0 : s = f 0) (h : ∀ j (hj : j < k), body (xs[j]'(by omega)) (f j) = .next (f (j + 1)) ∨ body (xs[j]'(by omega)) (f j) = .cont (f (j + 1))) (hx : body xs[k] (f k) = .exc c fs o) : (forO body xs s : Oc l w r l') = .exc c fs o := by
  rw [forO_at f hk h0 h, forO_cons, hx]
end
end MV
namespace MV
theorem iv_length {lo : Int} {n : Nat} : (iv lo n).length = n := by unfold iv; simp
theorem mem_iv {x lo : Int} {n : Nat} : x ∈ iv lo n ↔ lo ≤ x ∧ x < lo + n := by
  unfold iv
  rw [List.mem_map]
  constructor
  · rintro ⟨k, hk, rfl⟩
    have := List.mem_range.mp hk
    omega
  · rintro ⟨h1, h2⟩
    exact ⟨(x - lo).toNat, List.mem_range.mpr (by omega), by omega⟩
theorem nodup_iv {lo : Int} {n : Nat} : (iv lo n).Nodup := by
  unfold iv List.Nodup
  rw [List.pairwise_map]
  exact List.nodup_range.imp fun h e => h (by omega)
theorem iv_zero {lo : Int} : iv lo 0 = [] := rfl
theorem iv_succ {lo : Int} {n : Nat} : iv lo (n + 1) = iv lo n ++ [lo + (n : Int)] := by
  unfold iv
  rw [List.range_succ, List.map_append]; rfl
def sm {α : Type} (l : List α) (f : α → Int) : Int := (l.map f).sum
theorem sm_nil {α : Type} {f : α → Int} : sm [] f = 0 := rfl
theorem sm_cons {α : Type} {a : α} {l : List α} {f : α → Int} : sm (a :: l) f = f a + sm l f := by unfold sm; simp
theorem sm_app {α : Type} {l m : List α} {f : α → Int} : sm (l ++ m) f = sm l f + sm m f := by unfold sm; simp
theorem sm_add {α : Type} {l : List α} {f g : α → Int} : sm l (fun x => f x + g x) = sm l f + sm l g := by
  induction l with
  | nil => rfl
  | cons a l ih => rw [sm_cons, sm_cons, sm_cons, ih]; omega
theorem sm_sub {α : Type} {l : List α} {f g : α → Int} : sm l (fun x => f x - g x) = sm l f - sm l g := by
  induction l with
  | nil => rfl
  | cons a l ih => rw [sm_cons, sm_cons, sm_cons, ih]; omega
theorem sm_mul {α : Type} {l : List α} {f : α → Int} {c : Int} : sm l (fun x => c * f x) = c * sm l f := by
  induction l with
  | nil => simp [sm_nil]
  | cons a l ih => rw [sm_cons, sm_cons, ih, Int.mul_add]
theorem sm_zero {α : Type} {l : List α} : sm l (fun _ => 0) = 0 := by
  induction l with
  | nil => rfl
  | cons a l ih => rw [sm_cons, ih]; rfl
theorem sm_congr {α : Type} {l : List α} {f g : α → Int} (h : ∀ x ∈ l, f x = g x) : sm l f = sm l g := by
  unfold sm; rw [List.map_congr_left h]
theorem sm_comm {α β : Type} {l : List α} {m : List β} {f : α → β → Int} : sm l (fun a => sm m (f a)) = sm m (fun b => sm l fun a => f a b) := by
  induction l with
  | nil => rw [sm_nil]; exact sm_zero.symm
  | cons a l ih =>
    rw [sm_cons, ih, ← sm_add]
    exact sm_congr fun b _ => (sm_cons (f := fun a => f a b)).symm
theorem sm_perm {α : Type} {l m : List α} {f : α → Int} (h : l.Perm m) : sm l f = sm m f := by
  induction h with
  | nil => rfl
  | cons a _ ih => rw [sm_cons, sm_cons, ih]
  | swap a b l => rw [sm_cons, sm_cons, sm_cons, sm_cons]; omega
  | trans _ _ i j => exact i.trans j
theorem sm_map {α β : Type} {l : List α} {g : α → β} {f : β → Int} : sm (l.map g) f = sm l fun x => f (g x) := by
  unfold sm; rw [List.map_map]; rfl
theorem sm_id {l : List Int} : sm l (fun x => x) = l.sum := by unfold sm; rw [List.map_id']
theorem sm_le {α : Type} {l : List α} {f : α → Int} (h : ∀ x ∈ l, 0 ≤ f x) : 0 ≤ sm l f ∧ ∀ x ∈ l, f x ≤ sm l f := by
  induction l with
  | nil => exact ⟨by rw [sm_nil]; omega, fun x hx => by cases hx⟩
  | cons a l ih =>
    have ⟨i1, i2⟩ := ih fun x hx => h x (List.mem_cons_of_mem _ hx)
    have h0 := h a List.mem_cons_self
    rw [sm_cons]
    refine ⟨by omega, fun x hx => ?_⟩
    rcases List.mem_cons.mp hx with e | e
    · rw [e]; omega
    · have := i2 x e; omega
def ind (p : Prop) [Decidable p] : Int := if p then 1 else 0
theorem sm_count {α : Type} {l : List α} {p : α → Prop} [DecidablePred p] : sm l (fun x => ind (p x)) = ((l.filter fun x => decide (p x)).length : Int) := by
  induction l with
  | nil => rfl
  | cons a l ih =>
    rw [sm_cons, ih]
    unfold ind
    by_cases h : p a
    · rw [if_pos h, List.filter_cons_of_pos (p := fun x => decide (p x)) (decide_eq_true h), List.length_cons]; omega
    · rw [if_neg h, List.filter_cons_of_neg (p := fun x => decide (p x)) (by simp [h])]; omega
def hAt (hs : List Int) (p : Int) : Int := hs.getD (p % (hs.length : Int)).toNat 0
def land (hs : List Int) (p : Int) : Int := p + hAt hs p
def tgs (hs : List Int) : List Int := (List.range hs.length).map fun (i : Nat) => ((i : Int) + hs.getD i 0) % (hs.length : Int)
structure Gd (hs : List Int) : Prop where
  l1 : 1 ≤ hs.length
  l2 : hs.length ≤ 6
  lo : ∀ h ∈ hs, 0 ≤ h
  hi : ∀ h ∈ hs, h ≤ 96
  pm : (tgs hs).Perm (iv 0 hs.length)
theorem getD_mem {hs : List Int} {i : Nat} (h : i < hs.length) : hs.getD i 0 ∈ hs := by
  rw [List.getD_eq_getElem?_getD, List.getElem?_eq_getElem h]
  exact List.getElem_mem h
section
variable {hs : List Int}
theorem modlt (h : 1 ≤ hs.length) (p : Int) : (p % (hs.length : Int)).toNat < hs.length ∧ ((p % (hs.length : Int)).toNat : Int) = p % (hs.length : Int) := by
  have h0 : (0 : Int) ≤ p % (hs.length : Int) := Int.emod_nonneg _ (by omega)
  have h1 : p % (hs.length : Int) < (hs.length : Int) := Int.emod_lt_of_pos _ (by omega)
  omega
theorem hAt_mem (h : 1 ≤ hs.length) (p : Int) : hAt hs p ∈ hs := getD_mem (modlt h p).1
theorem Gd.hlo (g : Gd hs) (p : Int) : 0 ≤ hAt hs p := g.lo _ (hAt_mem g.l1 p)
theorem Gd.hhi (g : Gd hs) (p : Int) : hAt hs p ≤ 96 := g.hi _ (hAt_mem g.l1 p)
theorem hAt_mod {p q : Int} (h : p % (hs.length : Int) = q % (hs.length : Int)) : hAt hs p = hAt hs q := by unfold hAt; rw [h]
theorem hAt_nat {i : Nat} (h : i < hs.length) : hAt hs (i : Int) = hs.getD i 0 := by
  unfold hAt
  rw [Int.emod_eq_of_lt (by omega) (by omega)]; rfl
theorem Gd.inj (g : Gd hs) {p q : Int} (e : land hs p = land hs q) : p = q := by
  have nd : (tgs hs).Nodup := g.pm.nodup_iff.mpr nodup_iv
  have hp := modlt g.l1 p
  have hq := modlt g.l1 q
  have l1 := g.l1
  have key : ∀ r : Int, (((r % (hs.length : Int)).toNat : Int) + hs.getD (r % (hs.length : Int)).toNat 0) % (hs.length : Int) = (land hs r) % (hs.length : Int) := fun r => by
    have hr := modlt g.l1 r
    unfold land hAt
    rw [hr.2, Int.emod_add_emod]
  have e2 : (tgs hs)[(p % (hs.length : Int)).toNat]? = (tgs hs)[(q % (hs.length : Int)).toNat]? := by
    unfold tgs
    rw [List.getElem?_map, List.getElem?_map, List.getElem?_range hp.1, List.getElem?_range hq.1]
    exact congrArg some ((key p).trans (by rw [e]; exact (key q).symm))
  have e3 : (p % (hs.length : Int)).toNat = (q % (hs.length : Int)).toNat := by
    have h1 : (p % (hs.length : Int)).toNat < (tgs hs).length := by unfold tgs; rw [List.length_map, List.length_range]; exact hp.1
    exact (List.getElem?_inj h1 nd).mp e2
  have e4 : p % (hs.length : Int) = q % (hs.length : Int) := by omega
  have e5 := hAt_mod e4
  unfold land at e
  omega
theorem Gd.sur (g : Gd hs) (q : Int) : ∃ i : Nat, i < hs.length ∧ ((i : Int) + hs.getD i 0) % (hs.length : Int) = q % (hs.length : Int) := by
  have hq := modlt g.l1 q
  have : q % (hs.length : Int) ∈ tgs hs := g.pm.mem_iff.mpr (mem_iv.mpr (by omega))
  unfold tgs at this
  obtain ⟨i, h1, h2⟩ := List.mem_map.mp this
  exact ⟨i, List.mem_range.mp h1, h2⟩
theorem sub_of_mod {n i h q : Int} (n0 : 0 < n) (i0 : 0 ≤ i) (i1 : i < n) (e : (i + h) % n = q % n) : (q - h) % n = i := by
  have : (q - h) % n = i % n := by
    rw [Int.emod_eq_emod_iff_emod_sub_eq_zero] at e ⊢
    have e2 : (i + h - q) = -(q - h - i) := by omega
    rw [e2] at e
    exact Int.emod_eq_zero_of_dvd (Int.dvd_neg.mp (Int.dvd_of_emod_eq_zero e))
  rw [this, Int.emod_eq_of_lt i0 i1]
structure Cm (hs c : List Int) : Prop where
  len : c.length = hs.length
  at_ : ∀ i : Nat, i < hs.length → c.getD (((i : Int) + hs.getD i 0) % (hs.length : Int)).toNat 0 = ((i : Int) + hs.getD i 0) % (hs.length : Int) - hs.getD i 0
def cm (c : List Int) (q : Int) : Int := hAt c q + q - q % (c.length : Int)
theorem Cm.land {c : List Int} (g : Gd hs) (m : Cm hs c) (q : Int) : land hs (cm c q) = q := by
  obtain ⟨i, h1, h2⟩ := g.sur q
  have l1 := g.l1
  have e : cm c q = q - hs.getD i 0 := by
    unfold cm hAt
    rw [m.len, ← h2, m.at_ i h1]; omega
  have e2 : hAt hs (q - hs.getD i 0) = hs.getD i 0 := by
    unfold hAt
    rw [sub_of_mod (by omega) (by omega) (by omega) h2]; rfl
  rw [e]
  unfold MV.land
  rw [e2]; omega
theorem Cm.iff {c : List Int} (g : Gd hs) (m : Cm hs c) (p q : Int) : MV.land hs p = q ↔ p = cm c q :=
  ⟨fun e => g.inj (e.trans (m.land g q).symm), fun e => by rw [e]; exact m.land g q⟩
theorem step_div {n y : Int} (h1 : 1 ≤ n) (h2 : n ≤ 6) : y / n - (y - 1) / n = ind (y % n = 0) := by
  unfold ind
  have : n = 1 ∨ n = 2 ∨ n = 3 ∨ n = 4 ∨ n = 5 ∨ n = 6 := by omega
  rcases this with rfl | rfl | rfl | rfl | rfl | rfl <;> split <;> omega
theorem win {n g h i : Int} (h1 : 1 ≤ n) (h2 : n ≤ 6) (i0 : 0 ≤ i) (i1 : i < n) (h0 : 0 ≤ h) : ∀ m : Nat, sm (iv 0 m) (fun k => ind ((g - 1 - k) % n = i ∧ g ≤ g - 1 - k + h)) = (g - 1 - i) / n - (g - 1 - (if (m : Int) ≤ h then (m : Int) else h) - i) / n
  | 0 => by
    show 0 = _
    rw [if_pos (by omega)]
    simp
  | m + 1 => by
    rw [iv_succ, sm_app, win h1 h2 i0 i1 h0 m, sm_cons, sm_nil]
    by_cases c : (m : Int) < h
    · rw [if_pos (by omega), if_pos (by omega)]
      have s := step_div (n := n) (y := g - 1 - m - i) h1 h2
      have e : ind ((g - 1 - m - i) % n = 0) = ind ((g - 1 - (0 + (m : Int))) % n = i ∧ g ≤ g - 1 - (0 + (m : Int)) + h) := by
        unfold ind
        have : ((g - 1 - m - i) % n = 0) ↔ ((g - 1 - (0 + (m : Int))) % n = i ∧ g ≤ g - 1 - (0 + (m : Int)) + h) := by
          rw [Int.zero_add]
          constructor
          · intro z
            refine ⟨?_, by omega⟩
            have := Int.emod_emod_of_dvd
            have z2 : (g - 1 - m) % n = i % n := (Int.emod_eq_emod_iff_emod_sub_eq_zero).mpr z
            rw [z2, Int.emod_eq_of_lt i0 i1]
          · rintro ⟨z, _⟩
            have z2 : (g - 1 - m) % n = i % n := by rw [z, Int.emod_eq_of_lt i0 i1]
            exact (Int.emod_eq_emod_iff_emod_sub_eq_zero).mp z2
        by_cases w : (g - 1 - m - i) % n = 0
        · rw [if_pos w, if_pos (this.mp w)]
        · rw [if_neg w, if_neg fun z => w (this.mpr z)]
      rw [← e, ← s]
      rw [show g - 1 - ((m + 1 : Nat) : Int) - i = g - 1 - m - i - 1 by omega]
      omega
    · have e : ind ((g - 1 - (0 + (m : Int))) % n = i ∧ g ≤ g - 1 - (0 + (m : Int)) + h) = 0 := by
        unfold ind; rw [if_neg]; omega
      rw [e, if_neg (show ¬ ((m + 1 : Nat) : Int) ≤ h by omega)]
      by_cases c2 : (m : Int) = h
      · rw [if_pos (show (m : Int) ≤ h by omega), c2]; omega
      · rw [if_neg (show ¬ (m : Int) ≤ h by omega)]; omega
theorem one_class {n : Nat} {f : Nat → Int} {r : Nat} (h : r < n) : sm (List.range n) (fun i => if r = i then f i else 0) = f r := by
  induction n with
  | zero => omega
  | succ n ih =>
    rw [List.range_succ, sm_app, sm_cons, sm_nil]
    by_cases c : r = n
    · subst c
      have : sm (List.range r) (fun i => if r = i then f i else 0) = 0 := (sm_congr (g := fun _ => 0) fun x hx => if_neg (show ¬ r = x by have := List.mem_range.mp hx; omega)).trans sm_zero
      rw [this, if_pos rfl]; omega
    · rw [ih (by omega), if_neg c]; omega
theorem Gd.sum (g : Gd hs) : hs.sum = (hs.length : Int) * sm (List.range hs.length) (fun i => ((i : Int) + hs.getD i 0) / (hs.length : Int)) := by
  have e0 : hs = (List.range hs.length).map fun i => hs.getD i 0 := by
    apply List.ext_getElem
    · simp
    · intro i h1 h2
      rw [List.getElem_map, List.getElem_range, List.getD_eq_getElem?_getD, List.getElem?_eq_getElem h1]; rfl
  have e1 : hs.sum = sm (List.range hs.length) (fun i => hs.getD i 0) := by
    show hs.sum = ((List.range hs.length).map fun i => hs.getD i 0).sum
    rw [← e0]
  have e2 : sm (List.range hs.length) (fun i => ((i : Int) + hs.getD i 0) % (hs.length : Int)) = sm (List.range hs.length) (fun i => (i : Int)) := by
    have := sm_perm (f := fun x => x) g.pm
    unfold tgs iv at this
    rw [sm_map, sm_map] at this
    rw [this]
    exact sm_congr fun x _ => by omega
  have e3 : sm (List.range hs.length) (fun i => (i : Int) + hs.getD i 0) = sm (List.range hs.length) (fun i => (hs.length : Int) * (((i : Int) + hs.getD i 0) / (hs.length : Int))) + sm (List.range hs.length) (fun i => ((i : Int) + hs.getD i 0) % (hs.length : Int)) := by
    rw [← sm_add]
    exact sm_congr fun i _ => (Int.mul_ediv_add_emod _ _).symm
  rw [sm_add, e2, sm_mul] at e3
  have e4 : sm (List.range hs.length) (fun (i : Nat) => (i : Int)) = sm (List.range hs.length) Nat.cast := rfl
  rw [e1]; omega
theorem Gd.air (g : Gd hs) (t : Int) : (((iv 0 96).filter fun k => decide (t ≤ land hs (t - 1 - k))).length : Int) = hs.sum / (hs.length : Int) := by
  have l1 := g.l1
  have l2 := g.l2
  rw [← sm_count, g.sum, Int.mul_ediv_cancel_left _ (by omega)]
  have e1 : sm (iv 0 96) (fun k => ind (t ≤ land hs (t - 1 - k))) = sm (iv 0 96) (fun k => sm (List.range hs.length) fun i => ind ((t - 1 - k) % (hs.length : Int) = (i : Int) ∧ t ≤ t - 1 - k + hs.getD i 0)) := by
    refine sm_congr fun k _ => ?_
    have hm := modlt g.l1 (t - 1 - k)
    have := one_class (f := fun i => ind (t ≤ t - 1 - k + hs.getD i 0)) hm.1
    show ind (t ≤ t - 1 - k + hs.getD ((t - 1 - k) % (hs.length : Int)).toNat 0) = _
    rw [← this]
    refine sm_congr fun i _ => ?_
    unfold ind
    by_cases c : ((t - 1 - k) % (hs.length : Int)).toNat = i
    · rw [if_pos c]
      by_cases d : t ≤ t - 1 - k + hs.getD i 0
      · rw [if_pos d, if_pos ⟨by omega, d⟩]
      · rw [if_neg d, if_neg fun z => d z.2]
    · rw [if_neg c, if_neg fun z => c (by omega)]
  rw [e1, sm_comm]
  have e2 : sm (List.range hs.length) (fun i => sm (iv 0 96) fun k => ind ((t - 1 - k) % (hs.length : Int) = (i : Int) ∧ t ≤ t - 1 - k + hs.getD i 0)) = sm (List.range hs.length) fun i => (t - 1 - (i : Int)) / (hs.length : Int) - ((t - 1 - (((i : Int) + hs.getD i 0) % (hs.length : Int))) / (hs.length : Int) - ((i : Int) + hs.getD i 0) / (hs.length : Int)) := by
    refine sm_congr fun i hi => ?_
    have hi := List.mem_range.mp hi
    have hm := getD_mem hi
    have := g.lo _ hm
    have h96 := g.hi _ hm
    rw [win (by omega) (by omega) (by omega) (by omega) this]
    have : (if ((96 : Nat) : Int) ≤ hs.getD i 0 then ((96 : Nat) : Int) else hs.getD i 0) = hs.getD i 0 := by split <;> omega
    rw [this]
    have e : t - 1 - hs.getD i 0 - (i : Int) = t - 1 - (((i : Int) + hs.getD i 0) % (hs.length : Int)) + (hs.length : Int) * (-(((i : Int) + hs.getD i 0) / (hs.length : Int))) := by
      have := Int.mul_ediv_add_emod ((i : Int) + hs.getD i 0) (hs.length : Int)
      rw [Int.mul_neg]; omega
    rw [e, Int.add_mul_ediv_left _ _ (by omega)]
    omega
  rw [e2, sm_sub, sm_sub]
  have e3 : sm (List.range hs.length) (fun i => (t - 1 - (((i : Int) + hs.getD i 0) % (hs.length : Int))) / (hs.length : Int)) = sm (List.range hs.length) (fun i => (t - 1 - (i : Int)) / (hs.length : Int)) := by
    have := sm_perm (f := fun x => (t - 1 - x) / (hs.length : Int)) g.pm
    unfold tgs iv at this
    rw [sm_map, sm_map] at this
    rw [this]
    exact sm_congr fun x _ => by rw [Int.zero_add]
  rw [e3]; omega
end
end MV
namespace MV
section
variable {hs : List Int}
def fnd (hs : List Int) (g : Int) : List Int := ((iv (g - 96) 96).map (land hs)).filter fun q => decide (g ≤ q)
def airC (c : List Int) (g : Int) (H : Nat) : List Int := (iv g H).filter fun q => decide (cm c q < g)
theorem Gd.nodup_map (g : Gd hs) {lo : Int} {n : Nat} : ((iv lo n).map (land hs)).Nodup := by
  unfold List.Nodup
  rw [List.pairwise_map]
  exact nodup_iv.imp fun h e => h (g.inj e)
theorem mem_fnd {t q : Int} : q ∈ fnd hs t ↔ t ≤ q ∧ ∃ p, t - 96 ≤ p ∧ p < t ∧ land hs p = q := by
  unfold fnd
  rw [List.mem_filter, List.mem_map]
  constructor
  · rintro ⟨⟨p, hp, e⟩, h⟩
    have := mem_iv.mp hp
    exact ⟨of_decide_eq_true h, p, by omega, by omega, e⟩
  · rintro ⟨h, p, h1, h2, e⟩
    exact ⟨⟨p, mem_iv.mpr (by omega), e⟩, decide_eq_true h⟩
theorem Gd.ge (g : Gd hs) (p : Int) : p ≤ land hs p := by have := g.hlo p; unfold land; omega
theorem Gd.le (g : Gd hs) (p : Int) : land hs p ≤ p + 96 := by have := g.hhi p; unfold land; omega
theorem Cm.mem {c : List Int} (g : Gd hs) (m : Cm hs c) {t q : Int} : q ∈ fnd hs t ↔ t ≤ q ∧ cm c q < t := by
  rw [mem_fnd]
  constructor
  · rintro ⟨h, p, h1, h2, e⟩
    rw [(m.iff g p q).mp e] at h2
    exact ⟨h, h2⟩
  · rintro ⟨h1, h2⟩
    have := g.le (cm c q)
    rw [m.land g q] at this
    exact ⟨h1, cm c q, by omega, h2, m.land g q⟩
theorem Cm.air {c : List Int} (g : Gd hs) (m : Cm hs c) {t : Int} {H : Nat} (hH : ∀ h ∈ hs, h ≤ (H : Int)) : (airC c t H).Perm (fnd hs t) := by
  refine (List.perm_ext_iff_of_nodup (nodup_iv.filter _) (g.nodup_map.filter _)).mpr fun q => ?_
  show q ∈ airC c t H ↔ q ∈ fnd hs t
  rw [m.mem g]
  unfold airC
  rw [List.mem_filter, mem_iv, decide_eq_true_iff]
  constructor
  · rintro ⟨⟨h1, h2⟩, h3⟩; exact ⟨h1, h3⟩
  · rintro ⟨h1, h2⟩
    refine ⟨⟨h1, ?_⟩, h2⟩
    have e := m.land g q
    have := hH _ (hAt_mem g.l1 (cm c q))
    unfold MV.land at e
    omega
theorem Gd.count (g : Gd hs) (t : Int) : ((fnd hs t).length : Int) = hs.sum / (hs.length : Int) := by
  rw [← g.air t]
  have p : ((iv 0 96).map fun k => t - 1 - k).Perm (iv (t - 96) 96) := by
    refine (List.perm_ext_iff_of_nodup ?_ nodup_iv).mpr fun q => ?_
    · unfold List.Nodup
      rw [List.pairwise_map]
      exact nodup_iv.imp fun h e => h (by omega)
    · rw [List.mem_map, mem_iv]
      constructor
      · rintro ⟨k, hk, rfl⟩
        have := mem_iv.mp hk
        omega
      · intro h
        exact ⟨t - 1 - q, mem_iv.mpr (by omega), by omega⟩
  unfold fnd
  have e1 := ((p.map (land hs)).filter fun q => decide (t ≤ q)).length_eq
  rw [← e1, List.map_map, List.filter_map, List.length_map]
  rfl
theorem Cm.one {c : List Int} (g : Gd hs) (m : Cm hs c) {q : Int} : ((iv (q - 96) 97).filter fun p => decide (MV.land hs p = q)) = [cm c q] := by
  have h1 := g.ge (cm c q)
  have h2 := g.le (cm c q)
  rw [m.land g q] at h1 h2
  refine (List.Perm.eq_singleton ?_)
  refine (List.perm_ext_iff_of_nodup (nodup_iv.filter _) (by simp)).mpr fun p => ?_
  rw [List.mem_filter, decide_eq_true_iff, mem_iv, List.mem_singleton, m.iff g]
  constructor
  · rintro ⟨_, h⟩; exact h
  · intro h; exact ⟨by omega, h⟩
end
end MV
namespace MV
def tgn (n : Nat) (hs : List Int) : List Int := (List.range hs.length).map fun (i : Nat) => ((i : Int) + hs.getD i 0) % (n : Int)
theorem tgn_self {hs : List Int} : tgn hs.length hs = tgs hs := rfl
theorem tgn_app {n : Nat} {hs : List Int} {x : Int} : tgn n (hs ++ [x]) = tgn n hs ++ [((hs.length : Int) + x) % (n : Int)] := by
  unfold tgn
  rw [List.length_append, List.length_singleton, List.range_succ, List.map_append]
  congr 1
  · refine List.map_congr_left fun i hi => ?_
    have hi := List.mem_range.mp hi
    rw [List.getD_eq_getElem?_getD, List.getD_eq_getElem?_getD, List.getElem?_append_left hi]
  · simp [List.getD_eq_getElem?_getD]
theorem tgn_len {n : Nat} {hs : List Int} : (tgn n hs).length = hs.length := by unfold tgn; simp
theorem perm_era {α : Type} : ∀ {l : List α} {j : Nat} {t : α}, l[j]? = some t → (t :: l.eraseIdx j).Perm l
  | x :: l, 0, t, e => by
    have : x = t := by simpa using e
    rw [this]; exact List.Perm.refl _
  | x :: l, j + 1, t, e => by
    have := perm_era (l := l) (j := j) (t := t) (by simpa using e)
    exact (List.Perm.swap x t _).trans (this.cons x)
structure L1 (n k : Nat) (left hs : List Int) : Prop where
  pm : (left ++ tgn n hs).Perm (iv 0 n)
  len : hs.length = k
  lo : ∀ h ∈ hs, 0 ≤ h ∧ h < (n : Int)
theorem L1.start (n : Nat) : L1 n 0 (iv 0 n) [] := ⟨by show (iv 0 n ++ []).Perm _; rw [List.append_nil], rfl, fun h hh => by cases hh⟩
theorem L1.left {n k : Nat} {left hs : List Int} (h : L1 n k left hs) : left.length + k = n := by
  have := h.pm.length_eq
  rw [List.length_append, tgn_len, iv_length, h.len] at this
  exact this
theorem L1.step {n k : Nat} {left hs : List Int} (h : L1 n k left hs) {j : Nat} (hj : j < left.length) (t : Int) (e : left[j]? = some t) : L1 n (k + 1) (left.eraseIdx j) (hs ++ [(t - (k : Int)) % (n : Int)]) := by
  have hn : 0 < n := by have := h.left; omega
  have et : left[j] = t := by rw [List.getElem?_eq_getElem hj] at e; exact Option.some.inj e
  have mt : t ∈ iv 0 n := h.pm.mem_iff.mp (List.mem_append_left _ (et ▸ List.getElem_mem hj))
  have bt := mem_iv.mp mt
  have e2 : ((hs.length : Int) + (t - (k : Int)) % (n : Int)) % (n : Int) = t := by
    rw [h.len, Int.add_emod_emod, show (k : Int) + (t - k) = t by omega, Int.emod_eq_of_lt (by omega) (by omega)]
  refine ⟨?_, by rw [List.length_append, List.length_singleton, h.len], fun x hx => ?_⟩
  · rw [tgn_app, e2]
    refine List.Perm.trans ?_ h.pm
    have p1 : (t :: left.eraseIdx j).Perm left := perm_era e
    have p2 : (left.eraseIdx j ++ (tgn n hs ++ [t])).Perm (t :: (left.eraseIdx j ++ tgn n hs)) := by
      rw [← List.append_assoc]
      exact List.perm_append_singleton _ _
    exact p2.trans (by rw [← List.cons_append]; exact p1.append_right _)
  · rcases List.mem_append.mp hx with q | q
    · exact h.lo x q
    · rw [List.mem_singleton.mp q]
      exact ⟨Int.emod_nonneg _ (by omega), Int.emod_lt_of_pos _ (by omega)⟩
theorem pm_sum {hs : List Int} (pm : (tgs hs).Perm (iv 0 hs.length)) : ∃ b, hs.sum = (hs.length : Int) * b := by
  have e0 : hs = (List.range hs.length).map fun i => hs.getD i 0 := by
    apply List.ext_getElem
    · simp
    · intro i h1 h2
      rw [List.getElem_map, List.getElem_range, List.getD_eq_getElem?_getD, List.getElem?_eq_getElem h1]; rfl
  have e1 : hs.sum = sm (List.range hs.length) (fun i => hs.getD i 0) := by
    show hs.sum = ((List.range hs.length).map fun i => hs.getD i 0).sum
    rw [← e0]
  have e2 : sm (List.range hs.length) (fun i => ((i : Int) + hs.getD i 0) % (hs.length : Int)) = sm (List.range hs.length) (fun i => (i : Int)) := by
    have := sm_perm (f := fun x => x) pm
    unfold tgs iv at this
    rw [sm_map, sm_map] at this
    rw [this]
    exact sm_congr fun x _ => by omega
  have e3 : sm (List.range hs.length) (fun i => (i : Int) + hs.getD i 0) = sm (List.range hs.length) (fun i => (hs.length : Int) * (((i : Int) + hs.getD i 0) / (hs.length : Int))) + sm (List.range hs.length) (fun i => ((i : Int) + hs.getD i 0) % (hs.length : Int)) := by
    rw [← sm_add]
    exact sm_congr fun i _ => (Int.mul_ediv_add_emod _ _).symm
  rw [sm_add, e2, sm_mul] at e3
  have e4 : sm (List.range hs.length) (fun (i : Nat) => (i : Int)) = sm (List.range hs.length) Nat.cast := rfl
  exact ⟨sm (List.range hs.length) (fun i => ((i : Int) + hs.getD i 0) / (hs.length : Int)), by rw [e1]; omega⟩
theorem sum_le {n : Int} : ∀ {hs : List Int}, (∀ h ∈ hs, 0 ≤ h ∧ h < n) → 0 ≤ hs.sum ∧ hs.sum ≤ (hs.length : Int) * (n - 1)
  | [], _ => by simp
  | h :: hs, q => by
    have := sum_le fun x hx => q x (List.mem_cons_of_mem _ hx)
    have h0 := q h List.mem_cons_self
    rw [List.sum_cons, List.length_cons]
    have e : ((hs.length + 1 : Nat) : Int) * (n - 1) = (hs.length : Int) * (n - 1) + (n - 1) := by
      rw [show ((hs.length + 1 : Nat) : Int) = (hs.length : Int) + 1 by omega, Int.add_mul]; omega
    omega
theorem mem_le_sum : ∀ {hs : List Int}, (∀ h ∈ hs, 0 ≤ h) → 0 ≤ hs.sum ∧ ∀ h ∈ hs, h ≤ hs.sum
  | [], _ => ⟨by simp, fun h hh => by cases hh⟩
  | h :: hs, q => by
    have ⟨i1, i2⟩ := mem_le_sum fun x hx => q x (List.mem_cons_of_mem _ hx)
    have h0 := q h List.mem_cons_self
    rw [List.sum_cons]
    refine ⟨by omega, fun x hx => ?_⟩
    rcases List.mem_cons.mp hx with e | e
    · omega
    · have := i2 x e; omega
structure L2s (n : Nat) (most balls : Int) (hs : List Int) : Prop where
  len : hs.length = n
  pm : (tgs hs).Perm (iv 0 hs.length)
  lo : ∀ h ∈ hs, 0 ≤ h
  sm : hs.sum = (n : Int) * balls
  b0 : 0 ≤ balls
  bm : balls ≤ most
theorem L1.done {n : Nat} {left hs : List Int} (h : L1 n n left hs) (h1 : 1 ≤ n) (h6 : n ≤ 6) {most : Int} (hm : 5 ≤ most) : L2s n most (hs.sum / (n : Int)) hs := by
  have hl := h.left
  have e : left = [] := List.eq_nil_of_length_eq_zero (by omega)
  have pm := h.pm
  rw [e, List.nil_append, ← h.len, tgn_self] at pm
  obtain ⟨b, hb⟩ := pm_sum pm
  have s := sum_le h.lo
  rw [h.len] at hb s
  have eb : hs.sum / (n : Int) = b := by rw [hb, Int.mul_ediv_cancel_left _ (by omega)]
  have hb2 : 0 ≤ b ∧ b ≤ n - 1 := by
    rw [hb] at s
    have : n = 1 ∨ n = 2 ∨ n = 3 ∨ n = 4 ∨ n = 5 ∨ n = 6 := by omega
    rcases this with rfl | rfl | rfl | rfl | rfl | rfl <;> omega
  exact ⟨h.len, pm, fun x hx => (h.lo x hx).1, by rw [eb]; exact hb, by omega, by omega⟩
theorem sum_set : ∀ {hs : List Int} {i : Nat} {x : Int}, i < hs.length → (hs.set i x).sum = hs.sum + x - hs.getD i 0
  | h :: hs, 0, x, _ => by
    rw [List.set_cons_zero, List.sum_cons, List.sum_cons]
    show x + hs.sum = h + hs.sum + x - h
    omega
  | h :: hs, i + 1, x, q => by
    rw [List.set_cons_succ, List.sum_cons, List.sum_cons, sum_set (by simpa using q)]
    show h + (hs.sum + x - hs.getD i 0) = h + hs.sum + x - hs.getD i 0
    omega
theorem getD_set {hs : List Int} {i j : Nat} {x : Int} (h : i < hs.length) : (hs.set i x).getD j 0 = if i = j then x else hs.getD j 0 := by
  rw [List.getD_eq_getElem?_getD, List.getElem?_set]
  split
  · rfl
  · rw [List.getD_eq_getElem?_getD]
theorem L2s.step {n : Nat} {most balls more : Int} {hs : List Int} (h : L2s n most balls hs) {i : Nat} (hi : i < n) (m0 : 0 ≤ more) (m1 : balls + more ≤ most) : L2s n most (balls + more) (hs.set i (hs.getD i 0 + (n : Int) * more)) := by
  have hl : i < hs.length := by rw [h.len]; exact hi
  have et : tgs (hs.set i (hs.getD i 0 + (n : Int) * more)) = tgs hs := by
    unfold tgs
    rw [List.length_set]
    refine List.map_congr_left fun j _ => ?_
    rw [getD_set hl]
    split
    · rename_i e
      subst e
      rw [← Int.add_assoc, h.len, Int.add_mul_emod_self_left]
    · rfl
  have nm : 0 ≤ (n : Int) * more := Int.mul_nonneg (by omega) m0
  refine ⟨by rw [List.length_set]; exact h.len, by rw [et, List.length_set]; exact h.pm, fun x hx => ?_, ?_, by have := h.b0; omega, m1⟩
  · rcases List.mem_or_eq_of_mem_set hx with q | q
    · exact h.lo x q
    · have := h.lo _ (getD_mem hl)
      omega
  · rw [sum_set hl, h.sm, Int.mul_add]; omega
theorem L2s.gd {n : Nat} {most balls : Int} {hs : List Int} (h : L2s n most balls hs) (h1 : 1 ≤ n) (h6 : n ≤ 6) (hm : most ≤ 16) : Gd hs ∧ hs.sum / (hs.length : Int) ≤ most ∧ hs.sum = (hs.length : Int) * (hs.sum / (hs.length : Int)) := by
  have b0 := h.b0
  have bm := h.bm
  have eb : hs.sum / (hs.length : Int) = balls := by rw [h.sm, h.len, Int.mul_ediv_cancel_left _ (by omega)]
  refine ⟨⟨by rw [h.len]; exact h1, by rw [h.len]; exact h6, h.lo, fun x hx => ?_, h.pm⟩, by omega, by rw [eb, h.sm, h.len]⟩
  have := (mem_le_sum h.lo).2 x hx
  rw [h.sm] at this
  have : n = 1 ∨ n = 2 ∨ n = 3 ∨ n = 4 ∨ n = 5 ∨ n = 6 := by omega
  rcases this with rfl | rfl | rfl | rfl | rfl | rfl <;> omega
theorem hAt_cycle {hs : List Int} {p k : Int} : hAt hs (p + (hs.length : Int) * k) = hAt hs p := hAt_mod (by rw [Int.add_mul_emod_self_left])
theorem Gd.nocol {hs : List Int} (g : Gd hs) {i j : Nat} (h : j < i) (hi : i < hs.length) : ((i : Int) + hs.getD i 0 - (j : Int) - hs.getD j 0) % (hs.length : Int) ≠ 0 := fun e => by
  obtain ⟨k, hk⟩ := Int.dvd_of_emod_eq_zero e
  have e1 : land hs (i : Int) = land hs ((j : Int) + (hs.length : Int) * k) := by
    unfold land
    rw [hAt_cycle, hAt_nat hi, hAt_nat (Nat.lt_trans h hi)]; omega
  have e2 := g.inj e1
  have : 0 < (hs.length : Int) * k := by omega
  have k0 : 0 < k := by
    rcases Int.lt_or_le 0 k with q | q
    · exact q
    · have := Int.mul_le_mul_of_nonneg_left q (show (0 : Int) ≤ (hs.length : Int) by omega)
      omega
  have := Int.mul_le_mul_of_nonneg_left (show (1 : Int) ≤ k by omega) (show (0 : Int) ≤ (hs.length : Int) by omega)
  omega
end MV
namespace MV
section
variable {hs : List Int}
theorem iv_add {lo : Int} {m : Nat} : ∀ n : Nat, iv lo (m + n) = iv lo m ++ iv (lo + (m : Int)) n
  | 0 => by rw [iv_zero, List.append_nil]; rfl
  | n + 1 => by
    rw [← Nat.add_assoc, iv_succ, iv_add n, iv_succ, List.append_assoc]
    congr 2
    simp only [Int.natCast_add, Int.add_assoc]
theorem filt_split {α : Type} {p : α → Bool} : ∀ l : List α, (l.filter p).length + (l.filter fun x => !p x).length = l.length
  | [] => rfl
  | a :: l => by
    have ih := filt_split (p := p) l
    cases h : p a with
    | true => rw [List.filter_cons_of_pos h, List.filter_cons_of_neg (by simp [h]), List.length_cons, List.length_cons]; omega
    | false => rw [List.filter_cons_of_neg (by simp [h]), List.filter_cons_of_pos (by simp [h]), List.length_cons, List.length_cons]; omega
def cnt (hs : List Int) (a t : Int) : List Int := (iv a (t - a).toNat).filter fun p => decide (t ≤ land hs p)
theorem fnd_length (t : Int) : (fnd hs t).length = ((iv (t - 96) 96).filter fun p => decide (t ≤ land hs p)).length := by
  unfold fnd
  rw [List.filter_map, List.length_map]; rfl
theorem none_before (g : Gd hs) {t lo : Int} {n : Nat} (h : lo + (n : Int) ≤ t - 96) : ((iv lo n).filter fun p => decide (t ≤ land hs p)) = [] :=
  List.filter_eq_nil_iff.mpr fun p hp e => by
    have h1 := mem_iv.mp hp
    have h2 := g.le p
    have h3 : t ≤ land hs p := of_decide_eq_true e
    omega
theorem win_all (g : Gd hs) {a t : Int} (h : a ≤ t) : ((iv (a - 96) (t - a + 96).toNat).filter fun p => decide (t ≤ land hs p)).length = (fnd hs t).length := by
  have e : (t - a + 96).toNat = (t - a).toNat + 96 := by omega
  rw [e, iv_add, List.filter_append, none_before g (by omega), List.nil_append, fnd_length]
  congr 3
  omega
theorem balls_same (g : Gd hs) (a t : Int) : (fnd hs a).length = (fnd hs t).length := by
  have h1 := g.count a
  have h2 := g.count t
  omega
theorem cnt_U (g : Gd hs) {a t : Int} (h : a ≤ t) : (cnt hs a t).length = ((fnd hs a).filter fun q => decide (q < t)).length := by
  have h1 := win_all g h
  have e : (t - a + 96).toNat = 96 + (t - a).toNat := by omega
  rw [e, iv_add, List.filter_append, List.length_append, show a - 96 + ((96 : Nat) : Int) = a by omega] at h1
  have h2 := filt_split (p := fun q => decide (q < t)) (fnd hs a)
  have h3 : ((fnd hs a).filter fun q => !decide (q < t)).length = ((iv (a - 96) 96).filter fun p => decide (t ≤ land hs p)).length := by
    unfold fnd
    rw [List.filter_filter, List.filter_map, List.length_map]
    congr 1
    refine List.filter_congr fun p _ => ?_
    show (!decide (land hs p < t) && decide (a ≤ land hs p)) = decide (t ≤ land hs p)
    by_cases c : t ≤ land hs p
    · rw [decide_eq_true c, decide_eq_false (show ¬ land hs p < t by omega), decide_eq_true (show a ≤ land hs p by omega)]; rfl
    · rw [decide_eq_false c, decide_eq_true (show land hs p < t by omega)]; rfl
  have h4 := balls_same g a t
  show ((iv a (t - a).toNat).filter fun p => decide (t ≤ land hs p)).length = _
  omega
theorem cnt_clip (g : Gd hs) {a b t : Int} {H : Int} (hH : ∀ h ∈ hs, h ≤ H) (hb : b = if t - H > a then t - H else a) (h : a ≤ t) (h0 : 0 ≤ H) : ((iv b (t - b).toNat).filter fun p => decide (t ≤ land hs p)) = cnt hs a t := by
  unfold cnt
  by_cases c : t - H > a
  · rw [if_pos c] at hb
    have e : (t - a).toNat = (b - a).toNat + (t - b).toNat := by omega
    rw [e, iv_add, List.filter_append]
    have : ((iv a (b - a).toNat).filter fun p => decide (t ≤ land hs p)) = [] := List.filter_eq_nil_iff.mpr fun p hp e => by
      have h1 := mem_iv.mp hp
      have h2 := hH _ (hAt_mem g.l1 p)
      have h3 : t ≤ land hs p := of_decide_eq_true e
      unfold land at h3
      omega
    rw [this, List.nil_append, show a + ((b - a).toNat : Int) = b by omega]
  · rw [if_neg c] at hb
    rw [hb]
end
end MV
namespace MV
def dc (c : Int → Int) (a : Int) : Nat → Int
  | 0 => 0
  | k + 1 => dc c a k + (if c (a + k) < a then 1 else 0)
def cc1 (E : Int → Bool) (b : Int → Nat → Int) (a : Int) : Nat → Int
  | 0 => b a 0
  | k + 1 => if E (a + k) then max (max (cc1 E b a k) (b a k + 1)) (b a (k + 1)) else max (cc1 E b a k) (b a (k + 1))
def ccb (b : Int → Nat → Int) (P : List (Int → Bool)) : Int → Nat → Int := P.foldl (fun b E => cc1 E b) b
def lw (c : Int → Int) (E : Int → Bool) : Nat → Int → Int → Int
  | 0, _, l => l
  | f + 1, p, l => if E p then l else lw c E f (p - 1) (min l (c (p - 1)))
def brt (n : Nat) (c : Int → Int) (E : Int → Bool) (g : Int) : Int := lw c E n (g - 1) (c (g - 1))
def stepf (n : Nat) (c : Int → Int) (E : Int → Bool) (g : Int) : Int := if E g = true ∨ c g < brt n c E g then brt n c E g else c g
structure ES (n : Nat) (E : Int → Bool) : Prop where
  per : ∀ q, E (q + n) = E q
  ex : ∃ q, E q = true
structure CF (n : Nat) (c : Int → Int) : Prop where
  le : ∀ q, c q ≤ q
  per : ∀ q, c (q + n) = c q + n
  pm : ((iv 0 n).map fun q => c q % (n : Int)).Perm (iv 0 n)
theorem lw_min {c : Int → Int} {E : Int → Bool} {x : Int} : ∀ (f : Nat) (p l : Int), lw c E f p (min x l) = min x (lw c E f p l)
  | 0, _, _ => rfl
  | f + 1, p, l => by
    unfold lw
    cases E p with
    | true => rfl
    | false =>
      show lw c E f (p - 1) (min (min x l) (c (p - 1))) = min x (lw c E f (p - 1) (min l (c (p - 1))))
      rw [← lw_min f (p - 1), show min (min x l) (c (p - 1)) = min x (min l (c (p - 1))) by omega]
theorem lw_le {c : Int → Int} {E : Int → Bool} : ∀ (f : Nat) (p l : Int), lw c E f p l ≤ l
  | 0, _, l => Int.le_refl l
  | f + 1, p, l => by
    unfold lw
    cases E p with
    | true => exact Int.le_refl l
    | false =>
      have := lw_le (c := c) (E := E) f (p - 1) (min l (c (p - 1)))
      show lw c E f (p - 1) (min l (c (p - 1))) ≤ l
      omega
theorem lw_fuel {c : Int → Int} {E : Int → Bool} : ∀ (f d : Nat) (p l : Int), d ≤ f → E (p - (d : Int)) = true → lw c E (f + 1) p l = lw c E f p l
  | 0, d, p, l, hd, h => by
    have : p - (d : Int) = p := by omega
    rw [this] at h
    unfold lw
    rw [h]; rfl
  | f + 1, d, p, l, hd, h => by
    rw [show lw c E (f + 1 + 1) p l = if E p then l else lw c E (f + 1) (p - 1) (min l (c (p - 1))) from rfl]
    rw [show lw c E (f + 1) p l = if E p then l else lw c E f (p - 1) (min l (c (p - 1))) from rfl]
    cases e : E p with
    | true => rfl
    | false =>
      have d0 : d ≠ 0 := by
        intro z; subst z
        rw [show p - ((0 : Nat) : Int) = p by omega, e] at h
        cases h
      exact lw_fuel f (d - 1) (p - 1) _ (by omega) (by rw [show p - 1 - ((d - 1 : Nat) : Int) = p - (d : Int) by omega]; exact h)
theorem per_mul {c : Int → Int} {n : Nat} (h : ∀ q, c (q + n) = c q + n) (q : Int) : ∀ k : Int, c (q + n * k) = c q + n * k := by
  have nat : ∀ k : Nat, ∀ q, c (q + n * (k : Int)) = c q + n * (k : Int) := by
    intro k
    induction k with
    | zero => intro q; simp
    | succ k ih =>
      intro q
      have e : (n : Int) * ((k + 1 : Nat) : Int) = n * (k : Int) + n := by rw [Int.natCast_add, Int.mul_add]; simp
      rw [e, ← Int.add_assoc, h, ih]; omega
  intro k
  rcases Int.le_total 0 k with hk | hk
  · obtain ⟨m, rfl⟩ := Int.eq_ofNat_of_zero_le hk
    exact nat m q
  · obtain ⟨m, hm⟩ := Int.eq_ofNat_of_zero_le (show 0 ≤ -k by omega)
    have := nat m (q + n * k)
    have e : (n : Int) * k = -(n * (m : Int)) := by rw [← Int.mul_neg, ← hm, Int.neg_neg]
    rw [e] at this ⊢
    rw [show q + -((n : Int) * (m : Int)) + n * (m : Int) = q by omega] at this
    omega
theorem bper_mul {E : Int → Bool} {n : Nat} (h : ∀ q, E (q + n) = E q) (q : Int) : ∀ k : Int, E (q + n * k) = E q := by
  have nat : ∀ k : Nat, ∀ q, E (q + n * (k : Int)) = E q := by
    intro k
    induction k with
    | zero => intro q; simp
    | succ k ih =>
      intro q
      have e : (n : Int) * ((k + 1 : Nat) : Int) = n * (k : Int) + n := by rw [Int.natCast_add, Int.mul_add]; simp
      rw [e, ← Int.add_assoc, h, ih]
  intro k
  rcases Int.le_total 0 k with hk | hk
  · obtain ⟨m, rfl⟩ := Int.eq_ofNat_of_zero_le hk
    exact nat m q
  · obtain ⟨m, hm⟩ := Int.eq_ofNat_of_zero_le (show 0 ≤ -k by omega)
    have := nat m (q + n * k)
    have e : (n : Int) * k = -(n * (m : Int)) := by rw [← Int.mul_neg, ← hm, Int.neg_neg]
    rw [e] at this ⊢
    rw [show q + -((n : Int) * (m : Int)) + n * (m : Int) = q by omega] at this
    exact this.symm
theorem ES.near {n : Nat} {E : Int → Bool} (e : ES n E) (n1 : 1 ≤ n) (p : Int) : ∃ d : Nat, d < n ∧ E (p - (d : Int)) = true := by
  obtain ⟨q, hq⟩ := e.ex
  have h0 : 0 ≤ (p - q) % (n : Int) := Int.emod_nonneg _ (by omega)
  have h1 : (p - q) % (n : Int) < n := Int.emod_lt_of_pos _ (by omega)
  refine ⟨((p - q) % (n : Int)).toNat, by omega, ?_⟩
  rw [show (((p - q) % (n : Int)).toNat : Int) = (p - q) % (n : Int) by omega]
  have := Int.emod_add_mul_ediv (p - q) (n : Int)
  rw [show p - (p - q) % (n : Int) = q + n * ((p - q) / (n : Int)) by omega, bper_mul e.per]
  exact hq
theorem brt_succ {n : Nat} {c : Int → Int} {E : Int → Bool} (e : ES n E) (n1 : 1 ≤ n) (g : Int) : brt n c E (g + 1) = if E g then c g else min (c g) (brt n c E g) := by
  obtain ⟨m, rfl⟩ : ∃ m, n = m + 1 := ⟨n - 1, by omega⟩
  unfold brt
  rw [show g + 1 - 1 = g by omega]
  rw [show lw c E (m + 1) g (c g) = if E g then c g else lw c E m (g - 1) (min (c g) (c (g - 1))) from rfl]
  cases h : E g with
  | true => rfl
  | false =>
    show lw c E m (g - 1) (min (c g) (c (g - 1))) = min (c g) (lw c E (m + 1) (g - 1) (c (g - 1)))
    obtain ⟨d, hd, hE⟩ := e.near n1 g
    have d0 : d ≠ 0 := by
      intro z; subst z
      rw [show g - ((0 : Nat) : Int) = g by omega, h] at hE
      cases hE
    rw [lw_min, lw_fuel m (d - 1) (g - 1) _ (by omega) (by rw [show g - 1 - ((d - 1 : Nat) : Int) = g - (d : Int) by omega]; exact hE)]
theorem brt_lt {n : Nat} {c : Int → Int} {E : Int → Bool} (le : ∀ q, c q ≤ q) (g : Int) : brt n c E g < g := by
  unfold brt
  have := lw_le (c := c) (E := E) n (g - 1) (c (g - 1))
  have := le (g - 1)
  omega
theorem cc1_eq {n : Nat} {c : Int → Int} {E : Int → Bool} (e : ES n E) (n1 : 1 ≤ n) (le : ∀ q, c q ≤ q) (a : Int) : ∀ k : Nat, cc1 E (dc c) a k = dc c a k + (if a ≤ brt n c E (a + k) then 1 else 0)
  | 0 => by
    have := brt_lt (n := n) (E := E) le (a + ((0 : Nat) : Int))
    rw [if_neg (by omega)]; rfl
  | k + 1 => by
    have ih := cc1_eq e n1 le a k
    have b := brt_succ (c := c) e n1 (a + (k : Int))
    unfold cc1
    rw [ih, show a + ((k + 1 : Nat) : Int) = a + (k : Int) + 1 by omega, b]
    rw [show dc c a (k + 1) = dc c a k + (if c (a + k) < a then 1 else 0) from rfl]
    cases E (a + (k : Int)) with
    | true =>
      simp only [if_true]
      split <;> split <;> split <;> omega
    | false =>
      simp only [if_false, Bool.false_eq_true]
      split <;> split <;> split <;> omega
theorem cc1_step {n : Nat} {c : Int → Int} {E : Int → Bool} (e : ES n E) (n1 : 1 ≤ n) (le : ∀ q, c q ≤ q) (a : Int) : ∀ k : Nat, cc1 E (dc c) a k = dc (stepf n c E) a k
  | 0 => rfl
  | k + 1 => by
    have ih := cc1_step e n1 le a k
    have h1 := cc1_eq e n1 le a k
    have h2 := cc1_eq e n1 le a (k + 1)
    have b := brt_succ (c := c) e n1 (a + (k : Int))
    rw [show a + ((k + 1 : Nat) : Int) = a + (k : Int) + 1 by omega, b] at h2
    rw [show dc c a (k + 1) = dc c a k + (if c (a + k) < a then 1 else 0) from rfl] at h2
    rw [show dc (stepf n c E) a (k + 1) = dc (stepf n c E) a k + (if stepf n c E (a + k) < a then 1 else 0) from rfl, ← ih, h1, h2]
    unfold stepf
    generalize brt n c E (a + (k : Int)) = B
    generalize c (a + (k : Int)) = C
    cases E (a + (k : Int)) with
    | true =>
      simp only [if_true, true_or]
      split <;> split <;> split <;> omega
    | false =>
      simp only [if_false, Bool.false_eq_true, false_or]
      by_cases q : C < B
      · rw [if_pos q]
        split <;> split <;> split <;> omega
      · rw [if_neg q]
        split <;> split <;> omega
theorem step_le {n : Nat} {c : Int → Int} {E : Int → Bool} (le : ∀ q, c q ≤ q) (g : Int) : stepf n c E g ≤ g := by
  have := brt_lt (n := n) (E := E) le g
  have := le g
  unfold stepf
  split <;> omega
theorem lw_per {n : Nat} {c : Int → Int} {E : Int → Bool} (hc : ∀ q, c (q + n) = c q + n) (hE : ∀ q, E (q + n) = E q) : ∀ (f : Nat) (p l : Int), lw c E f (p + n) (l + n) = lw c E f p l + n
  | 0, _, _ => rfl
  | f + 1, p, l => by
    unfold lw
    rw [hE]
    cases E p with
    | true => rfl
    | false =>
      show lw c E f (p + n - 1) (min (l + n) (c (p + n - 1))) = lw c E f (p - 1) (min l (c (p - 1))) + n
      rw [← lw_per hc hE f (p - 1), show p + (n : Int) - 1 = p - 1 + n by omega, hc, show min (l + (n : Int)) (c (p - 1) + n) = min l (c (p - 1)) + n by omega]
theorem brt_per {n : Nat} {c : Int → Int} {E : Int → Bool} (hc : ∀ q, c (q + n) = c q + n) (hE : ∀ q, E (q + n) = E q) (g : Int) : brt n c E (g + n) = brt n c E g + n := by
  unfold brt
  rw [show g + (n : Int) - 1 = g - 1 + n by omega, hc]
  exact lw_per hc hE n (g - 1) _
theorem step_per {n : Nat} {c : Int → Int} {E : Int → Bool} (hc : ∀ q, c (q + n) = c q + n) (hE : ∀ q, E (q + n) = E q) (g : Int) : stepf n c E (g + n) = stepf n c E g + n := by
  unfold stepf
  rw [brt_per hc hE, hc, hE]
  by_cases h : E g = true ∨ c g < brt n c E g
  · rw [if_pos h, if_pos (h.imp id fun h => by omega)]
  · rw [if_neg h, if_neg fun z => h (z.imp id fun h => by omega)]
theorem step_sum {n : Nat} {c : Int → Int} {E : Int → Bool} (e : ES n E) (n1 : 1 ≤ n) (φ : Int → Int) (a : Int) : ∀ m : Nat, sm (iv a m) (fun g => φ (stepf n c E g)) + φ (brt n c E (a + m)) = φ (brt n c E a) + sm (iv a m) (fun g => φ (c g))
  | 0 => by
    rw [iv_zero, sm_nil, sm_nil, show a + ((0 : Nat) : Int) = a by omega]; omega
  | m + 1 => by
    have ih := step_sum (c := c) e n1 φ a m
    have b := brt_succ (c := c) e n1 (a + (m : Int))
    rw [iv_succ, sm_app, sm_app, sm_cons, sm_nil, sm_cons, sm_nil, show a + ((m + 1 : Nat) : Int) = a + (m : Int) + 1 by omega, b]
    have key : φ (stepf n c E (a + m)) + φ (if E (a + (m : Int)) then c (a + m) else min (c (a + m)) (brt n c E (a + m))) = φ (brt n c E (a + m)) + φ (c (a + m)) := by
      unfold stepf
      cases E (a + (m : Int)) with
      | true => simp only [if_true, true_or]
      | false =>
        simp only [if_false, Bool.false_eq_true, false_or]
        by_cases q : c (a + m) < brt n c E (a + m)
        · rw [if_pos q, show min (c (a + (m : Int))) (brt n c E (a + m)) = c (a + m) by omega]
        · rw [if_neg q, show min (c (a + (m : Int))) (brt n c E (a + m)) = brt n c E (a + m) by omega]; omega
    omega
theorem perm_of_sm {n : Nat} {f g : Int → Int} (h : ∀ r : Int, sm (iv 0 n) (fun q => ind (f q = r)) = sm (iv 0 n) (fun q => ind (g q = r))) : ((iv 0 n).map f).Perm ((iv 0 n).map g) := by
  refine List.perm_iff_count.mpr fun r => ?_
  have key : ∀ f : Int → Int, (((iv 0 n).map f).count r : Int) = sm (iv 0 n) (fun q => ind (f q = r)) := by
    intro f
    rw [sm_count]
    congr 1
    rw [List.count_eq_countP, List.countP_map, List.countP_eq_length_filter]
    congr 1
  have := h r
  rw [← key, ← key] at this
  omega
theorem CF.step {n : Nat} {c : Int → Int} {E : Int → Bool} (h : CF n c) (e : ES n E) (n1 : 1 ≤ n) : CF n (stepf n c E) := by
  refine ⟨step_le h.le, step_per h.per e.per, ?_⟩
  refine List.Perm.trans (perm_of_sm fun r => ?_) h.pm
  have s := step_sum (c := c) e n1 (fun x => ind (x % (n : Int) = r)) 0 n
  have b := brt_per h.per e.per 0
  rw [Int.zero_add] at s b
  have : ind (brt n c E n % (n : Int) = r) = ind (brt n c E 0 % (n : Int) = r) := by
    rw [b, Int.add_emod_right]
  have s : sm (iv 0 n) (fun g => ind (stepf n c E g % (n : Int) = r)) + ind (brt n c E n % (n : Int) = r) = ind (brt n c E 0 % (n : Int) = r) + sm (iv 0 n) (fun g => ind (c g % (n : Int) = r)) := s
  omega
def tot (n : Nat) (c : Int → Int) : Int := sm (iv 0 n) fun q => q - c q
theorem tot_step {n : Nat} {c : Int → Int} {E : Int → Bool} (h : CF n c) (e : ES n E) (n1 : 1 ≤ n) : tot n (stepf n c E) = tot n c + n := by
  have s := step_sum (c := c) e n1 (fun x => x) 0 n
  have b := brt_per h.per e.per 0
  rw [Int.zero_add] at s b
  have s : sm (iv 0 n) (fun g => stepf n c E g) + brt n c E n = brt n c E 0 + sm (iv 0 n) (fun g => c g) := s
  have d1 : tot n (stepf n c E) = sm (iv 0 n) (fun g => g) - sm (iv 0 n) (fun g => stepf n c E g) := sm_sub
  have d2 : tot n c = sm (iv 0 n) (fun g => g) - sm (iv 0 n) (fun g => c g) := sm_sub
  omega
theorem CF.high {n : Nat} {c : Int → Int} (h : CF n c) (n1 : 1 ≤ n) (q : Int) : q - c q ≤ tot n c := by
  have e := Int.emod_add_mul_ediv q (n : Int)
  have h0 : 0 ≤ q % (n : Int) := Int.emod_nonneg _ (by omega)
  have h1 : q % (n : Int) < n := Int.emod_lt_of_pos _ (by omega)
  have p := per_mul h.per (q % (n : Int)) (q / (n : Int))
  rw [e] at p
  have := (sm_le (l := iv 0 n) (f := fun q => q - c q) (fun x _ => by have := h.le x; show 0 ≤ x - c x; omega)).2 (q % (n : Int)) (mem_iv.mpr (by omega))
  have : q % (n : Int) - c (q % (n : Int)) ≤ tot n c := this
  omega
theorem CF.id (n : Nat) : CF n (fun q => q) := by
  refine ⟨fun q => Int.le_refl q, fun q => rfl, ?_⟩
  have : ((iv 0 n).map fun q => q % (n : Int)) = iv 0 n := by
    rw [List.map_congr_left (g := fun q => q) fun q hq => ?_, List.map_id']
    have := mem_iv.mp hq
    exact Int.emod_eq_of_lt this.1 (by omega)
  rw [this]
theorem dc_id {a : Int} : ∀ k : Nat, dc (fun q => q) a k = 0
  | 0 => rfl
  | k + 1 => by
    unfold dc
    rw [dc_id k, if_neg (by omega)]; rfl
def pgc (n : Nat) (c : Int → Int) (P : List (Int → Bool)) : Int → Int := P.foldl (fun c E => stepf n c E) c
theorem pgc_ok {n : Nat} (n1 : 1 ≤ n) : ∀ {P : List (Int → Bool)} {c : Int → Int}, CF n c → (∀ E ∈ P, ES n E) → CF n (pgc n c P) ∧ tot n (pgc n c P) = tot n c + n * (P.length : Int) ∧ ccb (dc c) P = dc (pgc n c P)
  | [], c, h, _ => ⟨h, by simp [pgc], rfl⟩
  | E :: P, c, h, hP => by
    have e := hP E List.mem_cons_self
    obtain ⟨h1, h2, h3⟩ := pgc_ok n1 (P := P) (h.step e n1) fun F hF => hP F (List.mem_cons_of_mem _ hF)
    refine ⟨h1, ?_, ?_⟩
    · show tot n (pgc n (stepf n c E) P) = _
      rw [h2, tot_step h e n1, List.length_cons, Int.natCast_add, Int.mul_add]; omega
    · show ccb (cc1 E (dc c)) P = dc (pgc n (stepf n c E) P)
      rw [← h3, show cc1 E (dc c) = dc (stepf n c E) from funext fun a => funext fun k => cc1_step e n1 h.le a k]
end MV
namespace MV
structure HC (n : Nat) (c : Int → Int) (hs : List Int) : Prop where
  len : hs.length = n
  at_ : ∀ i : Nat, i < n → c ((i : Int) + hs.getD i 0) = i
theorem map_inj_nodup {α β : Type} {f : α → β} : ∀ {l : List α}, (l.map f).Nodup → ∀ {x y : α}, x ∈ l → y ∈ l → f x = f y → x = y
  | [], _, x, y, hx, _, _ => by cases hx
  | a :: l, nd, x, y, hx, hy, e => by
    rw [List.map_cons, List.nodup_cons] at nd
    rcases List.mem_cons.mp hx with hxa | hx
    · subst hxa
      rcases List.mem_cons.mp hy with hya | hy
      · exact hya.symm
      · exact absurd (List.mem_map.mpr ⟨y, hy, e.symm⟩) nd.1
    · rcases List.mem_cons.mp hy with hy | hy
      · exact absurd (List.mem_map.mpr ⟨x, hx, by rw [e, hy]⟩) nd.1
      · exact map_inj_nodup nd.2 hx hy e
section
variable {n : Nat} {c : Int → Int} {hs : List Int}
theorem mod_mem (n1 : 1 ≤ n) (q : Int) : q % (n : Int) ∈ iv 0 n := by
  have h0 : 0 ≤ q % (n : Int) := Int.emod_nonneg _ (by omega)
  have h1 : q % (n : Int) < n := Int.emod_lt_of_pos _ (by omega)
  exact mem_iv.mpr (by omega)
theorem CF.at_mod (h : CF n c) (q : Int) : c q = c (q % (n : Int)) + n * (q / (n : Int)) := by
  have e := Int.emod_add_mul_ediv q (n : Int)
  have p := per_mul h.per (q % (n : Int)) (q / (n : Int))
  rw [e] at p
  exact p
theorem CF.inj (h : CF n c) (n1 : 1 ≤ n) {x y : Int} (e : c x = c y) : x = y := by
  have nd : ((iv 0 n).map fun q => c q % (n : Int)).Nodup := h.pm.nodup_iff.mpr nodup_iv
  have e1 := h.at_mod x
  have e2 := h.at_mod y
  have m : x % (n : Int) = y % (n : Int) := by
    refine map_inj_nodup nd (mod_mem n1 x) (mod_mem n1 y) ?_
    have a1 : c x % (n : Int) = c (x % (n : Int)) % (n : Int) := by rw [e1, Int.add_mul_emod_self_left]
    have a2 : c y % (n : Int) = c (y % (n : Int)) % (n : Int) := by rw [e2, Int.add_mul_emod_self_left]
    show c (x % (n : Int)) % (n : Int) = c (y % (n : Int)) % (n : Int)
    rw [← a1, ← a2, e]
  rw [m] at e1
  have d1 := Int.emod_add_mul_ediv x (n : Int)
  have d2 := Int.emod_add_mul_ediv y (n : Int)
  omega
theorem CF.sur (h : CF n c) (n1 : 1 ≤ n) (p : Int) : ∃ q, c q = p := by
  obtain ⟨q, hq, e⟩ := List.mem_map.mp (h.pm.mem_iff.mpr (mod_mem n1 p))
  have e : c q % (n : Int) = p % (n : Int) := e
  have d1 := Int.emod_add_mul_ediv (c q) (n : Int)
  have d2 := Int.emod_add_mul_ediv p (n : Int)
  refine ⟨q + n * (p / (n : Int) - c q / (n : Int)), ?_⟩
  rw [per_mul h.per, Int.mul_sub]
  omega
theorem HC.land (k : HC n c hs) (h : CF n c) (n1 : 1 ≤ n) (p : Int) : c (MV.land hs p) = p := by
  have e := Int.emod_add_mul_ediv p (n : Int)
  have h0 : 0 ≤ p % (n : Int) := Int.emod_nonneg _ (by omega)
  have h1 : p % (n : Int) < n := Int.emod_lt_of_pos _ (by omega)
  have a := k.at_ (p % (n : Int)).toNat (by omega)
  have m := per_mul h.per (((p % (n : Int)).toNat : Int) + hs.getD (p % (n : Int)).toNat 0) (p / (n : Int))
  unfold MV.land hAt
  rw [k.len]
  rw [a] at m
  rw [show p + hs.getD (p % (n : Int)).toNat 0 = ((p % (n : Int)).toNat : Int) + hs.getD (p % (n : Int)).toNat 0 + n * (p / (n : Int)) by omega, m]
  omega
theorem HC.back (k : HC n c hs) (h : CF n c) (n1 : 1 ≤ n) (q : Int) : MV.land hs (c q) = q := h.inj n1 (k.land h n1 (c q))
theorem HC.gd (k : HC n c hs) (h : CF n c) (n1 : 1 ≤ n) (n6 : n ≤ 6) (t : tot n c ≤ 96) : Gd hs := by
  have at_ : ∀ i : Nat, i < n → MV.land hs i = (i : Int) + hs.getD i 0 := fun i hi => by
    unfold MV.land
    rw [hAt_nat (by rw [k.len]; exact hi)]
  have lm : ∀ x ∈ hs, ∃ i : Nat, i < n ∧ hs.getD i 0 = x := fun x hx => by
    obtain ⟨i, hi, rfl⟩ := List.getElem_of_mem hx
    exact ⟨i, by rw [← k.len]; exact hi, by rw [List.getD_eq_getElem?_getD, List.getElem?_eq_getElem hi]; rfl⟩
  refine ⟨by rw [k.len]; exact n1, by rw [k.len]; exact n6, fun x hx => ?_, fun x hx => ?_, ?_⟩
  · obtain ⟨i, hi, rfl⟩ := lm x hx
    have a := k.at_ i hi
    have b := h.le ((i : Int) + hs.getD i 0)
    omega
  · obtain ⟨i, hi, rfl⟩ := lm x hx
    have a := k.at_ i hi
    have b := h.high n1 ((i : Int) + hs.getD i 0)
    omega
  · have e1 : tgs hs = (iv 0 n).map fun p => MV.land hs p % (n : Int) := by
      unfold tgs iv
      rw [k.len, List.map_map]
      refine List.map_congr_left fun i hi => ?_
      have hi := List.mem_range.mp hi
      show ((i : Int) + hs.getD i 0) % (n : Int) = MV.land hs (0 + (i : Int)) % (n : Int)
      rw [Int.zero_add, at_ i hi]
    have e2 : (((iv 0 n).map fun q => c q % (n : Int)).map fun p => MV.land hs p % (n : Int)) = iv 0 n := by
      rw [List.map_map]
      rw [List.map_congr_left (g := fun q => q) fun q hq => ?_, List.map_id']
      have hq := mem_iv.mp hq
      show MV.land hs (c q % (n : Int)) % (n : Int) = q
      have lp : ∀ p : Int, MV.land hs (p % (n : Int)) % (n : Int) = MV.land hs p % (n : Int) := fun p => by
        unfold MV.land
        rw [← k.len, hAt_mod (Int.emod_emod _ _), Int.emod_add_emod]
      rw [lp, k.back h n1]
      exact Int.emod_eq_of_lt hq.1 (by omega)
    rw [e1, k.len]
    exact (h.pm.map _).symm.trans (by rw [e2])
theorem Cm.cf {cl : List Int} (g : Gd hs) (m : Cm hs cl) : CF hs.length (cm cl) ∧ HC hs.length (cm cl) hs := by
  have l1 := g.l1
  have per : ∀ q, cm cl (q + hs.length) = cm cl q + hs.length := fun q => by
    unfold cm
    rw [m.len]
    have a : hAt cl (q + (hs.length : Int)) = hAt cl q := hAt_mod (by rw [m.len, Int.add_emod_right])
    rw [a, Int.add_emod_right]; omega
  have hc : ∀ i : Nat, i < hs.length → cm cl ((i : Int) + hs.getD i 0) = i := fun i hi => by
    have := (m.iff g (i : Int) ((i : Int) + hs.getD i 0)).mp (by unfold MV.land; rw [hAt_nat hi])
    exact this.symm
  refine ⟨⟨fun q => ?_, per, ?_⟩, rfl, hc⟩
  · have a := m.land g q
    have b := g.ge (cm cl q)
    omega
  · have e : ((tgs hs).map fun q => cm cl q % (hs.length : Int)) = iv 0 hs.length := by
      unfold tgs iv
      rw [List.map_map]
      refine List.map_congr_left fun i hi => ?_
      have hi := List.mem_range.mp hi
      show cm cl (((i : Int) + hs.getD i 0) % (hs.length : Int)) % (hs.length : Int) = 0 + (i : Int)
      have d := Int.emod_add_mul_ediv ((i : Int) + hs.getD i 0) (hs.length : Int)
      have p := per_mul per (((i : Int) + hs.getD i 0) % (hs.length : Int)) (((i : Int) + hs.getD i 0) / (hs.length : Int))
      rw [d, hc i hi] at p
      have : cm cl (((i : Int) + hs.getD i 0) % (hs.length : Int)) % (hs.length : Int) = (i : Int) % (hs.length : Int) :=
        ((congrArg (fun x => x % (hs.length : Int)) p).trans (Int.add_mul_emod_self_left _ _ _)).symm
      rw [this, Int.emod_eq_of_lt (by omega) (by omega)]; omega
    have := g.pm.map fun q => cm cl q % (hs.length : Int)
    rw [e] at this
    exact this.symm
theorem HC.uniq {hs' : List Int} (k : HC n c hs) (k' : HC n c hs') (h : CF n c) (n1 : 1 ≤ n) : hs = hs' := by
  refine List.ext_getElem (by rw [k.len, k'.len]) fun i h1 h2 => ?_
  have hi : i < n := by rw [← k.len]; exact h1
  have e := h.inj n1 ((k.at_ i hi).trans (k'.at_ i hi).symm)
  rw [List.getD_eq_getElem?_getD, List.getD_eq_getElem?_getD, List.getElem?_eq_getElem h1, List.getElem?_eq_getElem h2] at e
  have e : (i : Int) + hs[i] = (i : Int) + hs'[i] := e
  omega
theorem HC.cm {cl : List Int} (k : HC n c hs) (h : CF n c) (n1 : 1 ≤ n) (g : Gd hs) (m : Cm hs cl) : MV.cm cl = c := by
  funext q
  have a := m.land g q
  have b := k.land h n1 (MV.cm cl q)
  rw [a] at b
  exact b.symm
theorem HC.sum (k : HC n c hs) (h : CF n c) (n1 : 1 ≤ n) (g : Gd hs) : tot n c = hs.sum := by
  have e1 : sm (tgs hs) (fun q => q - c q) = sm (iv 0 n) (fun q => q - c q) := sm_perm (by have := g.pm; rw [k.len] at this; exact this)
  have e2 : sm (tgs hs) (fun q => q - c q) = sm (List.range n) (fun (i : Nat) => hs.getD i 0) := by
    unfold tgs
    rw [sm_map, k.len]
    refine sm_congr fun i hi => ?_
    have hi := List.mem_range.mp hi
    have d := Int.emod_add_mul_ediv ((i : Int) + hs.getD i 0) (n : Int)
    have p := h.at_mod ((i : Int) + hs.getD i 0)
    rw [k.at_ i hi] at p
    omega
  have e3 : sm (List.range n) (fun (i : Nat) => hs.getD i 0) = hs.sum := by
    unfold sm
    congr 1
    refine List.ext_getElem (by simp [k.len]) fun i h1 h2 => ?_
    simp [List.getElem_map, List.getElem_range, List.getD_eq_getElem?_getD, List.getElem?_eq_getElem h2]
  unfold tot
  omega
theorem dc_filt {a : Int} : ∀ k : Nat, dc c a k = (((iv a k).filter fun q => decide (c q < a)).length : Int)
  | 0 => rfl
  | k + 1 => by
    rw [iv_succ, List.filter_append, List.length_append]
    show dc c a k + _ = _
    rw [dc_filt k]
    by_cases h : c (a + (k : Int)) < a
    · rw [if_pos h, List.filter_cons_of_pos (p := fun q => decide (c q < a)) (decide_eq_true h)]; simp
    · rw [if_neg h, List.filter_cons_of_neg (p := fun q => decide (c q < a)) (by rw [decide_eq_false h]; simp)]; simp
theorem HC.cnt (k : HC n c hs) (h : CF n c) (n1 : 1 ≤ n) (g : Gd hs) (a : Int) (m : Nat) : ((MV.cnt hs a (a + m)).length : Int) = dc c a m := by
  rw [cnt_U g (by omega), dc_filt]
  congr 1
  have nd : (fnd hs a).Nodup := g.nodup_map.filter _
  have : ((fnd hs a).filter fun q => decide (q < a + (m : Int))).Perm ((iv a m).filter fun q => decide (c q < a)) := by
    refine (List.perm_ext_iff_of_nodup (nd.filter _) (nodup_iv.filter _)).mpr fun q => ?_
    rw [List.mem_filter, List.mem_filter, mem_fnd, mem_iv, decide_eq_true_iff, decide_eq_true_iff]
    constructor
    · rintro ⟨⟨h1, p, h2, h3, rfl⟩, h4⟩
      rw [k.land h n1]
      exact ⟨⟨h1, h4⟩, h3⟩
    · rintro ⟨⟨h1, h2⟩, h3⟩
      have b := k.back h n1 q
      have := g.le (c q)
      exact ⟨⟨h1, c q, by omega, h3, b⟩, h2⟩
  exact this.length_eq
structure CL (n : Nat) (c : Int → Int) (cl : List Int) : Prop where
  len : cl.length = n
  at_ : ∀ i : Nat, i < n → cl.getD i 0 = c i
theorem CL.cm {cl : List Int} (l : CL n c cl) (h : CF n c) (n1 : 1 ≤ n) (q : Int) : MV.cm cl q = c q := by
  have h0 : 0 ≤ q % (n : Int) := Int.emod_nonneg _ (by omega)
  have h1 : q % (n : Int) < n := Int.emod_lt_of_pos _ (by omega)
  have d := Int.emod_add_mul_ediv q (n : Int)
  unfold MV.cm hAt
  rw [l.len, l.at_ _ (by omega), show ((q % (n : Int)).toNat : Int) = q % (n : Int) by omega, h.at_mod q]
  omega
def hof (n : Nat) (c : Int → Int) (k : Nat) : List Int := (List.range k).foldl (fun hs (i : Nat) => hs.set (c i % (n : Int)).toNat ((i : Int) - c i)) (List.replicate n 0)
theorem hof_succ {k : Nat} : hof n c (k + 1) = (hof n c k).set (c k % (n : Int)).toNat ((k : Int) - c k) := by
  unfold hof
  rw [List.range_succ, List.foldl_append]; rfl
theorem hof_len : ∀ k : Nat, (hof n c k).length = n
  | 0 => by unfold hof; simp
  | k + 1 => by rw [hof_succ, List.length_set, hof_len k]
theorem hof_get (h : CF n c) (n1 : 1 ≤ n) : ∀ k : Nat, k ≤ n → ∀ i : Nat, i < k → (hof n c k).getD (c i % (n : Int)).toNat 0 = (i : Int) - c i
  | 0, _, i, hi => by omega
  | k + 1, hk, i, hi => by
    have nd : ((iv 0 n).map fun q => c q % (n : Int)).Nodup := h.pm.nodup_iff.mpr nodup_iv
    have h0 : 0 ≤ c k % (n : Int) := Int.emod_nonneg _ (by omega)
    have h1 : c k % (n : Int) < n := Int.emod_lt_of_pos _ (by omega)
    have h2 : 0 ≤ c i % (n : Int) := Int.emod_nonneg _ (by omega)
    rw [hof_succ, getD_set (by rw [hof_len]; omega)]
    by_cases e : i = k
    · subst e
      rw [if_pos rfl]
    · rw [if_neg, hof_get h n1 k (by omega) i (by omega)]
      intro z
      have : (i : Int) = (k : Int) := map_inj_nodup nd (x := (i : Int)) (y := (k : Int)) (mem_iv.mpr (by omega)) (mem_iv.mpr (by omega)) (by show c i % (n : Int) = c k % (n : Int); omega)
      omega
theorem hof_hc (h : CF n c) (n1 : 1 ≤ n) : HC n c (hof n c n) := by
  refine ⟨hof_len n, fun j hj => ?_⟩
  obtain ⟨q, hq, e⟩ := List.mem_map.mp (h.pm.mem_iff.mpr (mem_iv.mpr (show 0 ≤ (j : Int) ∧ (j : Int) < 0 + n by omega)))
  have hq := mem_iv.mp hq
  have e : c q % (n : Int) = (j : Int) := e
  have g := hof_get h n1 n (Nat.le_refl n) q.toNat (by omega)
  rw [show ((q.toNat : Nat) : Int) = q by omega, e, Int.toNat_natCast] at g
  rw [g]
  have d := Int.emod_add_mul_ediv (c q) (n : Int)
  have p := per_mul h.per q (-(c q / (n : Int)))
  rw [Int.mul_neg] at p
  rw [show (j : Int) + (q - c q) = q + -((n : Int) * (c q / (n : Int))) by omega, p]
  omega
end
end MV
namespace MV
def uf (c : Int → Int) (q : Int) : Bool := decide (c q ≠ q)
def nxt (E : Int → Bool) : Nat → Int → Int
  | 0, q => q
  | f + 1, q => if E q then q else nxt E f (q + 1)
def pcf (n : Nat) (c : Int → Int) (q : Int) : Int := if uf c q then c (nxt (uf c) n (q + 1)) else q
theorem nxt_spec {E : Int → Bool} : ∀ (f d : Nat) (q : Int), d < f → E (q + (d : Int)) = true → E (nxt E f q) = true ∧ q ≤ nxt E f q ∧ ∀ x, q ≤ x → x < nxt E f q → E x = false
  | 0, d, q, hd, _ => by omega
  | f + 1, d, q, hd, h => by
    unfold nxt
    cases e : E q with
    | true => exact ⟨e, Int.le_refl q, fun x h1 h2 => by simp only [if_true] at h2; omega⟩
    | false =>
      have d0 : d ≠ 0 := by
        intro z; subst z
        rw [show q + ((0 : Nat) : Int) = q by omega, e] at h
        cases h
      obtain ⟨h1, h2, h3⟩ := nxt_spec f (d - 1) (q + 1) (by omega) (by rw [show q + 1 + ((d - 1 : Nat) : Int) = q + (d : Int) by omega]; exact h)
      simp only [Bool.false_eq_true, if_false]
      refine ⟨h1, by omega, fun x x1 x2 => ?_⟩
      by_cases c : x = q
      · rw [c]; exact e
      · exact h3 x (by omega) x2
theorem ES.nx {n : Nat} {E : Int → Bool} (e : ES n E) (n1 : 1 ≤ n) (q : Int) : E (nxt E n q) = true ∧ q ≤ nxt E n q ∧ ∀ x, q ≤ x → x < nxt E n q → E x = false := by
  obtain ⟨d, hd, h⟩ := e.near n1 (q + ((n - 1 : Nat) : Int))
  exact nxt_spec n (n - 1 - d) q (by omega) (by rw [show q + ((n - 1 - d : Nat) : Int) = q + ((n - 1 : Nat) : Int) - (d : Int) by omega]; exact h)
theorem ES.nx_eq {n : Nat} {E : Int → Bool} (e : ES n E) (n1 : 1 ≤ n) {q u : Int} (h : E u = true) (h1 : q ≤ u) (h2 : ∀ x, q ≤ x → x < u → E x = false) : nxt E n q = u := by
  obtain ⟨a1, a2, a3⟩ := e.nx n1 q
  rcases Int.lt_trichotomy (nxt E n q) u with x | x | x
  · have := h2 _ a2 x
    rw [a1] at this; cases this
  · exact x
  · have := a3 _ h1 x
    rw [h] at this; cases this
theorem nxt_per {n : Nat} {E : Int → Bool} (h : ∀ q, E (q + n) = E q) : ∀ (f : Nat) (q : Int), nxt E f (q + n) = nxt E f q + n
  | 0, _ => rfl
  | f + 1, q => by
    unfold nxt
    rw [h]
    cases E q with
    | true => rfl
    | false =>
      show nxt E f (q + n + 1) = nxt E f (q + 1) + n
      rw [show q + (n : Int) + 1 = q + 1 + n by omega, nxt_per h f]
section
variable {n : Nat} {c : Int → Int}
theorem uf_per (h : CF n c) (q : Int) : uf c (q + n) = uf c q := by
  unfold uf
  rw [h.per]
  exact decide_eq_decide.mpr (by omega)
theorem uf_t {q : Int} : uf c q = true ↔ c q ≠ q := decide_eq_true_iff
theorem uf_f {q : Int} : uf c q = false ↔ c q = q := by
  unfold uf
  rw [decide_eq_false_iff_not]
  exact ⟨fun h => Classical.not_not.mp h, fun h z => z h⟩
theorem CF.used (h : CF n c) (n1 : 1 ≤ n) {q : Int} (u : uf c q = true) : uf c (c q) = true ∧ c q < q := by
  have u := uf_t.mp u
  have := h.le q
  exact ⟨uf_t.mpr fun z => u (h.inj n1 z), by omega⟩
theorem CF.src (h : CF n c) (n1 : 1 ≤ n) (e : ES n (uf c)) (q : Int) : c (nxt (uf c) n q) < q := by
  obtain ⟨a1, a2, a3⟩ := e.nx n1 q
  obtain ⟨b1, b2⟩ := h.used n1 a1
  rcases Int.lt_or_le (c (nxt (uf c) n q)) q with x | x
  · exact x
  · have := a3 _ x b2
    rw [b1] at this; cases this
theorem nx_self (e : ES n (uf c)) (n1 : 1 ≤ n) {q : Int} (u : uf c q = true) : nxt (uf c) n q = q := e.nx_eq n1 u (Int.le_refl q) fun x h1 h2 => by omega
theorem nx_up (e : ES n (uf c)) (n1 : 1 ≤ n) {q : Int} (u : uf c q = false) : nxt (uf c) n q = nxt (uf c) n (q + 1) := by
  obtain ⟨a1, a2, a3⟩ := e.nx n1 (q + 1)
  refine e.nx_eq n1 a1 (by omega) fun x h1 h2 => ?_
  by_cases z : x = q
  · rw [z]; exact u
  · exact a3 x (by omega) h2
theorem pcf_sum (h : CF n c) (n1 : 1 ≤ n) (e : ES n (uf c)) (φ : Int → Int) (a : Int) : ∀ m : Nat, sm (iv a m) (fun g => φ (pcf n c g)) + φ (c (nxt (uf c) n a)) = sm (iv a m) (fun g => φ (c g)) + φ (c (nxt (uf c) n (a + m)))
  | 0 => by
    rw [iv_zero, sm_nil, sm_nil, show a + ((0 : Nat) : Int) = a by omega]
  | m + 1 => by
    have ih := pcf_sum h n1 e φ a m
    rw [iv_succ, sm_app, sm_app, sm_cons, sm_nil, sm_cons, sm_nil, show a + ((m + 1 : Nat) : Int) = a + (m : Int) + 1 by omega]
    have key : φ (pcf n c (a + m)) + φ (c (nxt (uf c) n (a + m))) = φ (c (a + m)) + φ (c (nxt (uf c) n (a + m + 1))) := by
      unfold pcf
      cases u : uf c (a + (m : Int)) with
      | true =>
        rw [nx_self e n1 u]
        simp only [if_true]; omega
      | false =>
        rw [nx_up e n1 u, uf_f.mp u]
        simp only [Bool.false_eq_true, if_false]
    omega
theorem CF.peel (h : CF n c) (n1 : 1 ≤ n) (e : ES n (uf c)) : CF n (pcf n c) ∧ tot n (pcf n c) = tot n c - n := by
  have np := nxt_per (uf_per h) n 0
  rw [Int.zero_add] at np
  refine ⟨⟨fun q => ?_, fun q => ?_, ?_⟩, ?_⟩
  · unfold pcf
    split
    · have := h.src n1 e (q + 1); omega
    · exact Int.le_refl q
  · unfold pcf
    rw [uf_per h, show q + (n : Int) + 1 = q + 1 + n by omega, nxt_per (uf_per h), h.per]
    split <;> rfl
  · refine List.Perm.trans (perm_of_sm fun r => ?_) h.pm
    have s := pcf_sum h n1 e (fun x => ind (x % (n : Int) = r)) 0 n
    rw [Int.zero_add, np, h.per] at s
    have z : ind ((c (nxt (uf c) n 0) + n) % (n : Int) = r) = ind (c (nxt (uf c) n 0) % (n : Int) = r) := by rw [Int.add_emod_right]
    have s : sm (iv 0 n) (fun g => ind (pcf n c g % (n : Int) = r)) + ind (c (nxt (uf c) n 0) % (n : Int) = r) = sm (iv 0 n) (fun g => ind (c g % (n : Int) = r)) + ind ((c (nxt (uf c) n 0) + n) % (n : Int) = r) := s
    omega
  · have s := pcf_sum h n1 e (fun x => x) 0 n
    rw [Int.zero_add, np, h.per] at s
    have s : sm (iv 0 n) (fun g => pcf n c g) + c (nxt (uf c) n 0) = sm (iv 0 n) (fun g => c g) + (c (nxt (uf c) n 0) + n) := s
    have d1 : tot n (pcf n c) = sm (iv 0 n) (fun g => g) - sm (iv 0 n) (fun g => pcf n c g) := sm_sub
    have d2 : tot n c = sm (iv 0 n) (fun g => g) - sm (iv 0 n) (fun g => c g) := sm_sub
    omega
theorem brt_peel (h : CF n c) (n1 : 1 ≤ n) (e : ES n (uf c)) : ∀ (d : Nat) (g : Int), uf c (g - (d : Int)) = true → brt n (pcf n c) (uf c) (g + 1) = c (nxt (uf c) n (g + 1))
  | d, g, hd => by
    rw [brt_succ e n1]
    cases u : uf c g with
    | true =>
      show pcf n c g = _
      unfold pcf
      rw [u]; rfl
    | false =>
      show min (pcf n c g) (brt n (pcf n c) (uf c) g) = _
      cases d with
      | zero =>
        rw [show g - ((0 : Nat) : Int) = g by omega, u] at hd
        cases hd
      | succ d =>
        have ih := brt_peel h n1 e d (g - 1) (by rw [show g - 1 - (d : Int) = g - ((d + 1 : Nat) : Int) by omega]; exact hd)
        rw [show g - 1 + 1 = g by omega] at ih
        have s := h.src n1 e g
        rw [ih, ← nx_up e n1 u]
        unfold pcf
        rw [u]
        show min g (c (nxt (uf c) n g)) = _
        omega
theorem step_peel (h : CF n c) (n1 : 1 ≤ n) (e : ES n (uf c)) : stepf n (pcf n c) (uf c) = c := by
  funext g
  obtain ⟨d, _, hd⟩ := e.near n1 (g - 1)
  have b := brt_peel h n1 e d (g - 1) hd
  rw [show g - 1 + 1 = g by omega] at b
  have s := h.src n1 e g
  unfold stepf
  rw [b]
  cases u : uf c g with
  | true =>
    rw [if_pos (.inl rfl), nx_self e n1 u]
  | false =>
    have p : pcf n c g = g := by unfold pcf; rw [u]; rfl
    rw [p, if_neg, uf_f.mp u]
    intro z
    rcases z with z | z
    · cases z
    · omega
def grw (n : Nat) : (Int → Int) → Nat → List (Int → Bool)
  | _, 0 => []
  | c, b + 1 => grw n (pcf n c) b ++ [uf c]
theorem CF.used_ex (h : CF n c) (t : tot n c ≠ 0) : ES n (uf c) := by
  refine ⟨uf_per h, ?_⟩
  refine Classical.byContradiction fun z => t ?_
  unfold tot
  rw [sm_congr (g := fun _ => 0) fun x _ => ?_, sm_zero]
  have : c x = x := Classical.byContradiction fun y => z ⟨x, uf_t.mpr y⟩
  omega
theorem CF.flat (h : CF n c) (n1 : 1 ≤ n) (t : tot n c = 0) : c = fun q => q := by
  funext q
  have a := h.high n1 q
  have b := h.le q
  show c q = q
  omega
theorem grw_ok (n1 : 1 ≤ n) : ∀ (b : Nat) {c : Int → Int}, CF n c → tot n c = n * (b : Int) → (∀ E ∈ grw n c b, ES n E) ∧ pgc n (fun q => q) (grw n c b) = c
  | 0, c, h, t => by
    refine ⟨fun E hE => (by cases hE), ?_⟩
    rw [h.flat n1 (by rw [t]; simp)]; rfl
  | b + 1, c, h, t => by
    have t' : (n : Int) * ((b + 1 : Nat) : Int) = n * (b : Int) + n := by rw [Int.natCast_add, Int.mul_add]; simp
    have nb : 0 ≤ (n : Int) * (b : Int) := Int.mul_nonneg (by omega) (by omega)
    have e := h.used_ex (by omega)
    obtain ⟨p1, p2⟩ := h.peel n1 e
    obtain ⟨g1, g2⟩ := grw_ok n1 b p1 (by omega)
    refine ⟨fun E hE => ?_, ?_⟩
    · rcases List.mem_append.mp hE with x | x
      · exact g1 E x
      · rw [List.mem_singleton.mp x]; exact e
    · show (grw n (pcf n c) b ++ [uf c]).foldl (fun c E => stepf n c E) (fun q => q) = c
      rw [List.foldl_append]
      show stepf n (pgc n (fun q => q) (grw n (pcf n c) b)) (uf c) = c
      rw [g2, step_peel h n1 e]
end
structure IsConv (b1 b2 v : Int → Nat → Int) : Prop where
  ub : ∀ a k j, j ≤ k → b1 a j + b2 (a + (j : Int)) (k - j) ≤ v a k
  ex : ∀ a k, ∃ j, j ≤ k ∧ v a k = b1 a j + b2 (a + (j : Int)) (k - j)
theorem cc1_ub {E : Int → Bool} {b : Int → Nat → Int} {a : Int} : ∀ k : Nat, (∀ j, j ≤ k → b a j ≤ cc1 E b a k) ∧ ∀ j, j < k → E (a + (j : Int)) = true → b a j + 1 ≤ cc1 E b a k
  | 0 => ⟨fun j h => by rw [show j = 0 by omega]; exact Int.le_refl _, fun j h => by omega⟩
  | k + 1 => by
    obtain ⟨h1, h2⟩ := cc1_ub (E := E) (b := b) (a := a) k
    unfold cc1
    refine ⟨fun j hj => ?_, fun j hj e => ?_⟩
    · by_cases c : j = k + 1
      · subst c
        split <;> omega
      · have := h1 j (by omega)
        split <;> omega
    · by_cases c : j = k
      · subst c
        rw [if_pos e]; omega
      · have := h2 j (by omega) e
        split <;> omega
theorem cc1_ex {E : Int → Bool} {b : Int → Nat → Int} {a : Int} : ∀ k : Nat, (∃ j, j ≤ k ∧ cc1 E b a k = b a j) ∨ ∃ j, j < k ∧ E (a + (j : Int)) = true ∧ cc1 E b a k = b a j + 1
  | 0 => .inl ⟨0, by omega, rfl⟩
  | k + 1 => by
    have ih := cc1_ex (E := E) (b := b) (a := a) k
    unfold cc1
    have lift : ∀ x, x = cc1 E b a k → (∃ j, j ≤ k + 1 ∧ x = b a j) ∨ ∃ j, j < k + 1 ∧ E (a + (j : Int)) = true ∧ x = b a j + 1 := fun x hx => by
      subst hx
      rcases ih with ⟨j, h1, h2⟩ | ⟨j, h1, h2, h3⟩
      · exact .inl ⟨j, by omega, h2⟩
      · exact .inr ⟨j, by omega, h2, h3⟩
    cases e : E (a + (k : Int)) with
    | true =>
      simp only [if_true]
      rcases Int.le_total (max (cc1 E b a k) (b a k + 1)) (b a (k + 1)) with x | x
      · exact .inl ⟨k + 1, by omega, by omega⟩
      · rcases Int.le_total (cc1 E b a k) (b a k + 1) with y | y
        · exact .inr ⟨k, by omega, e, by omega⟩
        · exact lift _ (by omega)
    | false =>
      simp only [Bool.false_eq_true, if_false]
      rcases Int.le_total (cc1 E b a k) (b a (k + 1)) with x | x
      · exact .inl ⟨k + 1, by omega, by omega⟩
      · exact lift _ (by omega)
theorem IsConv.step {b1 b2 v : Int → Nat → Int} (h : IsConv b1 b2 v) (E : Int → Bool) : IsConv b1 (cc1 E b2) (cc1 E v) := by
  refine ⟨fun a k j hj => ?_, fun a k => ?_⟩
  · rcases cc1_ex (E := E) (b := b2) (a := a + (j : Int)) (k - j) with ⟨i, h1, h2⟩ | ⟨i, h1, h2, h3⟩
    · have u := h.ub a (j + i) j (by omega)
      rw [show j + i - j = i by omega] at u
      have w := (cc1_ub (E := E) (b := v) (a := a) k).1 (j + i) (by omega)
      omega
    · have u := h.ub a (j + i) j (by omega)
      rw [show j + i - j = i by omega] at u
      have w := (cc1_ub (E := E) (b := v) (a := a) k).2 (j + i) (by omega) (by rw [show a + ((j + i : Nat) : Int) = a + (j : Int) + (i : Int) by omega]; exact h2)
      omega
  · rcases cc1_ex (E := E) (b := v) (a := a) k with ⟨i, h1, h2⟩ | ⟨i, h1, h2, h3⟩
    · obtain ⟨j, j1, j2⟩ := h.ex a i
      have w := (cc1_ub (E := E) (b := b2) (a := a + (j : Int)) (k - j)).1 (i - j) (by omega)
      have u : b1 a j + cc1 E b2 (a + (j : Int)) (k - j) ≤ cc1 E v a k := by
        rcases cc1_ex (E := E) (b := b2) (a := a + (j : Int)) (k - j) with ⟨i', g1, g2⟩ | ⟨i', g1, g2, g3⟩
        · have u := h.ub a (j + i') j (by omega)
          rw [show j + i' - j = i' by omega] at u
          have w := (cc1_ub (E := E) (b := v) (a := a) k).1 (j + i') (by omega)
          omega
        · have u := h.ub a (j + i') j (by omega)
          rw [show j + i' - j = i' by omega] at u
          have w := (cc1_ub (E := E) (b := v) (a := a) k).2 (j + i') (by omega) (by rw [show a + ((j + i' : Nat) : Int) = a + (j : Int) + (i' : Int) by omega]; exact g2)
          omega
      exact ⟨j, by omega, by omega⟩
    · obtain ⟨j, j1, j2⟩ := h.ex a i
      have w := (cc1_ub (E := E) (b := b2) (a := a + (j : Int)) (k - j)).2 (i - j) (by omega) (by rw [show a + (j : Int) + ((i - j : Nat) : Int) = a + (i : Int) by omega]; exact h2)
      have u : b1 a j + cc1 E b2 (a + (j : Int)) (k - j) ≤ cc1 E v a k := by
        rcases cc1_ex (E := E) (b := b2) (a := a + (j : Int)) (k - j) with ⟨i', g1, g2⟩ | ⟨i', g1, g2, g3⟩
        · have u := h.ub a (j + i') j (by omega)
          rw [show j + i' - j = i' by omega] at u
          have w := (cc1_ub (E := E) (b := v) (a := a) k).1 (j + i') (by omega)
          omega
        · have u := h.ub a (j + i') j (by omega)
          rw [show j + i' - j = i' by omega] at u
          have w := (cc1_ub (E := E) (b := v) (a := a) k).2 (j + i') (by omega) (by rw [show a + ((j + i' : Nat) : Int) = a + (j : Int) + (i' : Int) by omega]; exact g2)
          omega
      exact ⟨j, by omega, by omega⟩
theorem IsConv.fold {b1 : Int → Nat → Int} : ∀ {Q : List (Int → Bool)} {b2 v : Int → Nat → Int}, IsConv b1 b2 v → IsConv b1 (ccb b2 Q) (ccb v Q)
  | [], _, _, h => h
  | E :: Q, b2, v, h => IsConv.fold (Q := Q) (h.step E)
theorem dc_mono {c : Int → Int} {a : Int} {j : Nat} : ∀ d : Nat, dc c a j ≤ dc c a (j + d)
  | 0 => Int.le_refl _
  | d + 1 => by
    have := dc_mono (c := c) (a := a) (j := j) d
    rw [show j + (d + 1) = j + d + 1 by omega]
    show _ ≤ dc c a (j + d) + (if c (a + (j + d : Nat)) < a then 1 else 0)
    split <;> omega
def zb : Int → Nat → Int := fun _ _ => 0
theorem dc_zero : dc (fun q => q) = zb := funext fun a => funext fun k => dc_id k
theorem conv_zero {c : Int → Int} : IsConv (dc c) zb (dc c) := by
  refine ⟨fun a k j hj => ?_, fun a k => ⟨k, Nat.le_refl k, by show _ = _ + 0; omega⟩⟩
  have := dc_mono (c := c) (a := a) (j := j) (k - j)
  rw [show j + (k - j) = k by omega] at this
  show _ + 0 ≤ _
  omega
theorem conv_pages {n : Nat} (n1 : 1 ≤ n) {c1 : Int → Int} (h : CF n c1) {Q : List (Int → Bool)} (hQ : ∀ E ∈ Q, ES n E) : IsConv (dc c1) (dc (pgc n (fun q => q) Q)) (dc (pgc n c1 Q)) := by
  have a := (pgc_ok n1 h hQ).2.2
  have b := (pgc_ok n1 (CF.id n) hQ).2.2
  rw [dc_zero] at b
  have := (conv_zero (c := c1)).fold (Q := Q)
  rw [a, b] at this
  exact this
theorem IsConv.uniq {b1 b2 v w : Int → Nat → Int} (h : IsConv b1 b2 v) (g : IsConv b1 b2 w) : v = w := by
  funext a k
  obtain ⟨j, j1, j2⟩ := h.ex a k
  obtain ⟨i, i1, i2⟩ := g.ex a k
  have := h.ub a k i i1
  have := g.ub a k j j1
  omega
end MV
namespace MV
def okS (n : Nat) (S : List Int) : Prop := ∃ x ∈ S, 0 ≤ x ∧ x < (n : Int)
end MV
namespace MV
theorem HC.uf {n : Nat} {c : Int → Int} {hs : List Int} (k : HC n c hs) (h : CF n c) (n1 : 1 ≤ n) (x : Int) : uf c x = !decide (hAt hs x = 0) := by
  have a := k.land h n1 x
  have b := k.back h n1 x
  unfold MV.uf
  rw [decide_not]
  congr 1
  refine decide_eq_decide.mpr ⟨fun z => ?_, fun z => ?_⟩
  · rw [z] at b
    unfold MV.land at b
    omega
  · unfold MV.land at a
    rw [z, Int.add_zero] at a
    exact a
structure Cs (n : Nat) (c : Int → Int) (b : Nat) (hs : List Int) : Prop where
  n1 : 1 ≤ n
  n6 : n ≤ 6
  cf : CF n c
  hc : HC n c hs
  tt : tot n c = n * (b : Int)
  b16 : b ≤ 16
theorem Cs.tot96 {n b : Nat} {c : Int → Int} {hs : List Int} (k : Cs n c b hs) : tot n c ≤ 96 := by
  rw [k.tt]
  have := k.n6
  have := k.b16
  have : (n : Int) * (b : Int) ≤ 6 * 16 := Int.mul_le_mul (by omega) (by omega) (by omega) (by omega)
  omega
theorem Cs.gd {n b : Nat} {c : Int → Int} {hs : List Int} (k : Cs n c b hs) : Gd hs := k.hc.gd k.cf k.n1 k.n6 k.tot96
theorem Cs.sum {n b : Nat} {c : Int → Int} {hs : List Int} (k : Cs n c b hs) : hs.sum = n * (b : Int) := by rw [← k.hc.sum k.cf k.n1 k.gd, k.tt]
theorem Cs.balls {n b : Nat} {c : Int → Int} {hs : List Int} (k : Cs n c b hs) : hs.sum / (hs.length : Int) = b := by
  have := k.n1
  rw [k.sum, k.hc.len, Int.mul_ediv_cancel_left _ (by omega)]
theorem Cs.step {n b : Nat} {c : Int → Int} {hs : List Int} (k : Cs n c b hs) {Q : List (Int → Bool)} (hQ : ∀ E ∈ Q, ES n E) (l : b + Q.length ≤ 16) : Cs n (pgc n c Q) (b + Q.length) (hof n (pgc n c Q) n) := by
  obtain ⟨h1, h2, _⟩ := pgc_ok k.n1 k.cf hQ
  refine ⟨k.n1, k.n6, h1, hof_hc h1 k.n1, ?_, l⟩
  rw [h2, k.tt, Int.natCast_add, Int.mul_add]
theorem Cs.uniq {n b b' : Nat} {c : Int → Int} {hs hs' : List Int} (k : Cs n c b hs) (k' : Cs n c b' hs') : hs = hs' := k.hc.uniq k'.hc k.cf k.n1
end MV
namespace MV
section
variable {N : Nat} {B : List Int}
structure Ct (N : Nat) (B : List Int) : Prop where
  len : B.length = N
  lo : ∀ x, x < N → -1 ≤ B.getD x 0
  hi : ∀ x, x < N → B.getD x 0 ≤ (x : Int)
  inj : ∀ x y, x < N → y < N → 0 ≤ B.getD x 0 → B.getD x 0 = B.getD y 0 → x = y
def bfn (B : List Int) (x : Int) : Int := B.getD x.toNat 0
def extB (N : Nat) : List Int → List Int → List Int
  | [], _ => []
  | v :: L, U => if 0 ≤ v then v :: extB N L U else (U.headD 0 - (N : Int)) :: extB N L U.tail
theorem extB_len : ∀ (L U : List Int), (extB N L U).length = L.length
  | [], _ => rfl
  | v :: L, U => by
    unfold extB
    split <;> simp [extB_len]
theorem extB_perm : ∀ (L U : List Int), (L.filter fun v => decide (v < 0)).length = U.length → (∀ v ∈ L, v < (N : Int)) → (∀ u ∈ U, 0 ≤ u ∧ u < (N : Int)) → ((extB N L U).map fun q => q % (N : Int)).Perm ((L.filter fun v => decide (0 ≤ v)) ++ U)
  | [], U, h, _, _ => by
    have : U = [] := List.length_eq_zero_iff.mp h.symm
    subst this
    exact .refl _
  | v :: L, U, h, hL, hU => by
    unfold extB
    have hv := hL v List.mem_cons_self
    by_cases z : 0 ≤ v
    · rw [if_pos z, List.filter_cons_of_pos (by exact decide_eq_true z), List.map_cons, Int.emod_eq_of_lt z hv]
      rw [List.filter_cons_of_neg (by rw [decide_eq_false (by omega)]; decide)] at h
      exact .cons _ (extB_perm L U h (fun w hw => hL w (List.mem_cons_of_mem _ hw)) hU)
    · rw [if_neg z, List.filter_cons_of_neg (by rw [decide_eq_false z]; decide)]
      rw [List.filter_cons_of_pos (by exact decide_eq_true (by omega)), List.length_cons] at h
      cases U with
      | nil => simp at h
      | cons u U =>
        have hu := hU u List.mem_cons_self
        rw [List.map_cons]
        show (((u - (N : Int)) % (N : Int)) :: _).Perm _
        rw [Int.sub_emod_right, Int.emod_eq_of_lt hu.1 hu.2]
        refine List.Perm.trans (.cons _ (extB_perm L U (by simpa using h) (fun w hw => hL w (List.mem_cons_of_mem _ hw)) (fun w hw => hU w (List.mem_cons_of_mem _ hw)))) ?_
        exact List.perm_middle.symm
theorem extB_get : ∀ (L U : List Int), (L.filter fun v => decide (v < 0)).length = U.length → (∀ u ∈ U, 0 ≤ u ∧ u < (N : Int)) → ∀ x, x < L.length → (0 ≤ L.getD x 0 → (extB N L U).getD x 0 = L.getD x 0) ∧ (L.getD x 0 < 0 → (extB N L U).getD x 0 < 0)
  | [], _, _, _, x, hx => by simp at hx
  | v :: L, U, h, hU, x, hx => by
    unfold extB
    by_cases z : 0 ≤ v
    · rw [if_pos z]
      rw [List.filter_cons_of_neg (by rw [decide_eq_false (by omega)]; decide)] at h
      cases x with
      | zero => exact ⟨fun _ => rfl, fun q => absurd q (by show ¬ v < 0; omega)⟩
      | succ x => exact extB_get L U h hU x (by simpa using hx)
    · rw [if_neg z]
      rw [List.filter_cons_of_pos (by exact decide_eq_true (by omega)), List.length_cons] at h
      cases U with
      | nil => simp at h
      | cons u U =>
        have hu := hU u List.mem_cons_self
        cases x with
        | zero => exact ⟨fun q => absurd q (by show ¬ 0 ≤ v; omega), fun _ => by show u - (N : Int) < 0; omega⟩
        | succ x => exact extB_get L U (by simpa using h) (fun w hw => hU w (List.mem_cons_of_mem _ hw)) x (by simpa using hx)
def freeB (N : Nat) (B : List Int) : List Int := (iv 0 N).filter fun u => decide (u ∉ B)
theorem Ct.pm (h : Ct N B) : ((B.filter fun v => decide (0 ≤ v)) ++ freeB N B).Perm (iv 0 N) := by
  have mem : ∀ v ∈ B, ∃ x, x < N ∧ B.getD x 0 = v := fun v hv => by
    obtain ⟨x, hx, e⟩ := List.getElem_of_mem hv
    exact ⟨x, by have := h.len; omega, by rw [List.getD_eq_getElem?_getD, List.getElem?_eq_getElem hx]; exact e⟩
  refine (List.perm_ext_iff_of_nodup ?_ nodup_iv).mpr fun u => ?_
  · rw [List.nodup_append]
    refine ⟨?_, nodup_iv.filter _, fun a ha b hb => ?_⟩
    · rw [List.nodup_iff_pairwise_ne] 
      rw [List.pairwise_filter]
      refine List.pairwise_iff_getElem.mpr fun i j hi hj ij => ?_
      intro p1 p2 e
      have l := h.len
      have gi : B.getD i 0 = B[i] := by rw [List.getD_eq_getElem?_getD, List.getElem?_eq_getElem hi]; rfl
      have gj : B.getD j 0 = B[j] := by rw [List.getD_eq_getElem?_getD, List.getElem?_eq_getElem hj]; rfl
      have := h.inj i j (by omega) (by omega) (by rw [gi]; exact of_decide_eq_true p1) (by rw [gi, gj]; exact e)
      omega
    · intro e
      subst e
      exact of_decide_eq_true (List.mem_filter.mp hb).2 (List.mem_filter.mp ha).1
  · rw [List.mem_append]
    constructor
    · rintro (q | q)
      · obtain ⟨a, b⟩ := List.mem_filter.mp q
        obtain ⟨x, hx, e⟩ := mem u a
        have := h.hi x hx
        have := of_decide_eq_true b
        exact mem_iv.mpr (by omega)
      · exact (List.mem_filter.mp q).1
    · intro q
      by_cases z : u ∈ B
      · have := mem_iv.mp q
        exact .inl (List.mem_filter.mpr ⟨z, decide_eq_true this.1⟩)
      · exact .inr (List.mem_filter.mpr ⟨q, decide_eq_true z⟩)
theorem Ct.cnt (h : Ct N B) : (B.filter fun v => decide (v < 0)).length = (freeB N B).length := by
  have a := h.pm.length_eq
  rw [List.length_append, iv_length] at a
  have b : (B.filter fun v => decide (0 ≤ v)).length + (B.filter fun v => decide (v < 0)).length = B.length := by
    clear h a
    induction B with
    | nil => rfl
    | cons v B ih =>
      by_cases z : 0 ≤ v
      · rw [List.filter_cons_of_pos (by exact decide_eq_true z), List.filter_cons_of_neg (by rw [decide_eq_false (by omega)]; decide), List.length_cons, List.length_cons]; omega
      · rw [List.filter_cons_of_neg (by rw [decide_eq_false z]; decide), List.filter_cons_of_pos (by exact decide_eq_true (by omega)), List.length_cons, List.length_cons]; omega
  have := h.len
  omega
def cstB (N : Nat) (B : List Int) (q : Int) : Int := (extB N B (freeB N B)).getD (q % (N : Int)).toNat 0 + (q - q % (N : Int))
theorem free_in : ∀ u ∈ freeB N B, 0 ≤ u ∧ u < (N : Int) := fun u hu => by
  have := mem_iv.mp (List.mem_filter.mp hu).1
  omega
theorem Ct.ltN (h : Ct N B) : ∀ v ∈ B, v < (N : Int) := fun v hv => by
  obtain ⟨x, hx, e⟩ := List.getElem_of_mem hv
  have l := h.len
  have := h.hi x (by omega)
  rw [List.getD_eq_getElem?_getD, List.getElem?_eq_getElem hx] at this
  have : B[x] ≤ (x : Int) := this
  omega
theorem Ct.val (h : Ct N B) {x : Nat} (hx : x < N) : (0 ≤ B.getD x 0 → (extB N B (freeB N B)).getD x 0 = B.getD x 0) ∧ (B.getD x 0 < 0 → (extB N B (freeB N B)).getD x 0 < 0) :=
  extB_get B _ h.cnt free_in x (by rw [h.len]; exact hx)
theorem Ct.vle (h : Ct N B) {x : Nat} (hx : x < N) : (extB N B (freeB N B)).getD x 0 ≤ (x : Int) := by
  obtain ⟨a, b⟩ := h.val hx
  have := h.hi x hx
  by_cases z : 0 ≤ B.getD x 0
  · rw [a z]; exact this
  · have := b (by omega); omega
theorem Ct.cf (h : Ct N B) (n1 : 1 ≤ N) : CF N (cstB N B) := by
  refine ⟨fun q => ?_, fun q => ?_, ?_⟩
  · have h0 : 0 ≤ q % (N : Int) := Int.emod_nonneg _ (by omega)
    have h1 : q % (N : Int) < N := Int.emod_lt_of_pos _ (by omega)
    have := h.vle (x := (q % (N : Int)).toNat) (by omega)
    unfold cstB
    omega
  · unfold cstB
    rw [Int.add_emod_right]; omega
  · have e : ((iv 0 N).map fun q => cstB N B q % (N : Int)) = (extB N B (freeB N B)).map fun q => q % (N : Int) := by
      have l : (extB N B (freeB N B)).length = N := by rw [extB_len, h.len]
      refine List.ext_getElem (by rw [List.length_map, List.length_map, iv_len, l]) fun i h1 h2 => ?_
      rw [List.length_map, iv_len] at h1
      rw [List.getElem_map, List.getElem_map, iv_at]
      unfold cstB
      have m : ((0 : Int) + (i : Int)) % (N : Int) = (i : Int) := by rw [Int.zero_add]; exact Int.emod_eq_of_lt (by omega) (by omega)
      rw [m, List.getD_eq_getElem?_getD, Int.toNat_natCast, List.getElem?_eq_getElem (by omega)]
      show ((extB N B (freeB N B))[i] + (0 + (i : Int) - (i : Int))) % (N : Int) = _
      rw [show (extB N B (freeB N B))[i] + (0 + (i : Int) - (i : Int)) = (extB N B (freeB N B))[i] by omega]
    rw [e]
    exact (extB_perm B _ h.cnt h.ltN free_in).trans h.pm
theorem extB_sum : ∀ (L U : List Int), (L.filter fun v => decide (v < 0)).length = U.length → (extB N L U).sum = ((L.filter fun v => decide (0 ≤ v)) ++ U).sum - (N : Int) * (U.length : Int)
  | [], U, h => by
    have : U = [] := List.length_eq_zero_iff.mp h.symm
    subst this
    simp [extB]
  | v :: L, U, h => by
    unfold extB
    by_cases z : 0 ≤ v
    · rw [if_pos z, List.filter_cons_of_pos (by exact decide_eq_true z), List.sum_cons, List.cons_append, List.sum_cons]
      rw [List.filter_cons_of_neg (by rw [decide_eq_false (by omega)]; decide)] at h
      have := extB_sum L U h
      omega
    · rw [if_neg z, List.filter_cons_of_neg (by rw [decide_eq_false z]; decide), List.sum_cons]
      rw [List.filter_cons_of_pos (by exact decide_eq_true (by omega)), List.length_cons] at h
      cases U with
      | nil => simp at h
      | cons u U =>
        have := extB_sum L U (by simpa using h)
        rw [List.sum_append] at this ⊢
        rw [List.sum_cons, List.length_cons]
        show u - (N : Int) + (extB N L U).sum = _
        have e : (N : Int) * ((U.length + 1 : Nat) : Int) = N * (U.length : Int) + N := by rw [Int.natCast_add, Int.mul_add]; simp
        rw [e]
        omega
end
end MV
namespace MV
def bits (n code : Nat) : List Int := (iv 0 n).filter fun p => decide ((code / 2 ^ p.toNat) % 2 = 1)
theorem in6 {n : Nat} (n1 : 1 ≤ n) (n6 : n ≤ 6) : n ∈ [1, 2, 3, 4, 5, 6] := by
  have : n = 1 ∨ n = 2 ∨ n = 3 ∨ n = 4 ∨ n = 5 ∨ n = 6 := by omega
  rcases this with rfl | rfl | rfl | rfl | rfl | rfl <;> decide
theorem bits_any : ∀ n ∈ [1, 2, 3, 4, 5, 6], ∀ c ∈ List.range (2 ^ n - 1), (bits n (c + 1)).any (fun x => decide (0 ≤ x) && decide (x < (n : Int))) = true := by decide +kernel
theorem bits_ok {n c : Nat} (n1 : 1 ≤ n) (n6 : n ≤ 6) (h : c < 2 ^ n - 1) : okS n (bits n (c + 1)) := by
  obtain ⟨x, hx, b⟩ := List.any_eq_true.mp (bits_any n (in6 n1 n6) c (List.mem_range.mpr h))
  rw [Bool.and_eq_true, decide_eq_true_iff, decide_eq_true_iff] at b
  exact ⟨x, hx, b⟩
end MV
namespace MV
open PySem PySem.Spec PyProof.Rows L2 He
section
variable {l l' w r ν α β γ σ : Type} {Γ Δ : List Sl} {C : Sur l w r} {P : ν → Sr → Prop} {t : Oc l w r ν} {e : β → Vl} {k : Sv → En → Sr} {own : List Nat} {tgt : SemG} {cond : SemB} {elt : Sem1}
theorem mk_shr {x : Vl} : mk .shr x = ⟨.shr, x⟩ := by
  unfold mk
  split <;> rfl
end
end MV
namespace MV
open PySem PySem.Spec PyProof.Rows L2 He
def t_check_stretch (begin1 : Int) (end1 : Int) : TF Unit Unit := Oc.run (ν := Unit) (fun a => .ret () a) (
  if (end1 < begin1) then .exc "BadStretch" [("end", eI end1), ("begin", eI begin1)] () else
  .next ())
def t_landing (heights1 : (List Int)) (place1 : Int) : TF Unit Int := Oc.run (ν := Empty) (fun e : Empty => nomatch e) (
  (modO place1 (heights1.length : Int)).bind fun v1 =>
  (ixO heights1 v1).bind fun v2 =>
  .ret (place1 + v2) ())
def t_count_between (heights1 : (List Int)) (begin1 : Int) (end1 : Int) : TF Unit Int := Oc.run (ν := Empty) (fun e : Empty => nomatch e) (
  (callO () (t_check_stretch begin1 end1)).bind fun v1 =>
  (lmO heights1 (fun height1 => height1)).bind fun l1 =>
  (maxO l1).bind fun v2 =>
  (rngO (max begin1 (end1 - v2)) end1).bind fun r1 =>
  (forO (fun (place1 : Int) (s1 : Int) =>
  (callO () (t_landing heights1 place1)).bind fun v3 =>
  if (end1 ≤ v3) then
  letO (s1 + (1 : Int)) fun found1 =>
  .next found1 else
  .next s1) r1 (0 : Int)).bind fun s2 =>
  .ret s2 ())
abbrev C_Cast : Type := (List Int)
def t_Cast_heights (self1 : C_Cast) : TF Unit (List Int) := Oc.run (ν := Empty) (fun e : Empty => nomatch e) (
  .ret self1 ())
def t_Cast_count (self1 : C_Cast) (begin1 : Int) (end1 : Int) : TF Unit Int := Oc.run (ν := Empty) (fun e : Empty => nomatch e) (
  (propO (t_Cast_heights self1)).bind fun v1 =>
  (callO () (t_count_between v1 begin1 end1)).bind fun v2 =>
  .ret v2 ())
def t_Cast___init__ (heights1 : (List Int)) : TF Unit C_Cast := Oc.run (ν := C_Cast) (fun a => .ret a ()) (
  if (¬ (((1 : Int) ≤ (heights1.length : Int)) ∧ ((heights1.length : Int) ≤ (6 : Int)))) then .exc "BadSize" [("size", eI (heights1.length : Int))] () else
  (rngO 0 (heights1.length : Int)).bind fun r1 =>
  (forO (fun (place1 : Int) (s1 : Unit) =>
  (liftO ((ixO heights1 place1).bind fun v1 =>
  if ((0 : Int) ≤ v1) then .next (decide (v1 ≤ (96 : Int))) else .next false)).bind fun j1 =>
  if (¬ (j1 = true)) then .exc "BadHeight" [("place", eI place1)] () else
  .next ()) r1 ()).bind fun s2 =>
  (rngO 0 (heights1.length : Int)).bind fun r2 =>
  (forO (fun (second1 : Int) (s3 : Unit) =>
  (rngO 0 second1).bind fun r3 =>
  (forO (fun (first1 : Int) (s4 : Unit) =>
  (ixO heights1 second1).bind fun v2 =>
  (ixO heights1 first1).bind fun v3 =>
  (modO (((second1 + v2) - first1) - v3) (heights1.length : Int)).bind fun v4 =>
  if (v4 = (0 : Int)) then .exc "Collision" [("second", eI second1), ("first", eI first1)] () else
  .next ()) r3 ()).bind fun s5 =>
  .next ()) r2 ()).bind fun s6 =>
  (divO heights1.sum (heights1.length : Int)).bind fun v5 =>
  if ((16 : Int) < v5) then .exc "TooManyBalls" [("amount", eI v5)] () else
  .next heights1)
def t_check_one_more (heights1 : (List Int)) : TF Unit Unit := Oc.run (ν := Unit) (fun a => .ret () a) (
  if (((16 : Int) * (heights1.length : Int)) ≤ heights1.sum) then .exc "TooManyBalls" [("amount", eI ((16 : Int) + (1 : Int)))] () else
  .next ())
end MV
namespace MV
open PySem PySem.Spec PyProof.Rows L2 He
section
variable {l w r α β : Type}
theorem compO_f {te : α → Oc Empty Unit Unit (Option β)} {g : α → Option β} : ∀ (xs : List α) (acc : List β), (∀ x ∈ xs, te x = .next (g x)) → acc.length + xs.length ≤ 16777216 → (compO te xs acc : Oc l w r (List β)) = .next (acc ++ xs.filterMap g)
  | [], acc, _, _ => by show Oc.next acc = _; simp
  | x :: xs, acc, h, hl => by
    have hl : acc.length + (xs.length + 1) ≤ 16777216 := hl
    have e : (compO te (x :: xs) acc : Oc l w r (List β)) = match te x with
      | .next none => compO te xs acc
      | .next (some y) => if acc.length < sizeLine then compO te xs (acc ++ [y]) else .bad
      | _ => .bad := rfl
    rw [e, h x List.mem_cons_self]
    cases hg : g x with
    | none =>
      show compO te xs acc = _
      rw [compO_f xs acc (fun y hy => h y (List.mem_cons_of_mem _ hy)) (by omega), List.filterMap_cons_none hg]
    | some y =>
      show (if acc.length < sizeLine then compO te xs (acc ++ [y]) else .bad) = _
      rw [size_eq, if_pos (by omega), compO_f xs _ (fun y hy => h y (List.mem_cons_of_mem _ hy)) (by rw [List.length_append, List.length_singleton]; omega), List.filterMap_cons_some hg, List.append_assoc]; rfl
theorem compO_map {te : α → Oc Empty Unit Unit (Option β)} {g : α → β} {xs : List α} (h : ∀ x ∈ xs, te x = .next (some (g x))) (hl : xs.length ≤ 16777216) : (compO te xs [] : Oc l w r (List β)) = .next (xs.map g) := by
  rw [compO_f xs [] (g := fun x => some (g x)) h (by simpa using hl), List.nil_append]
  congr 1
  rw [← List.filterMap_eq_map]; rfl
end
theorem stretch_ok {a t : Int} (h : a ≤ t) : t_check_stretch a t = .ret () () := by
  unfold t_check_stretch
  rw [if_neg (by omega)]; rfl
theorem landing_ok {hs : List Int} (h : 1 ≤ hs.length) (p : Int) : t_landing hs p = .ret (land hs p) () := by
  unfold t_landing
  have m := modlt h p
  rw [modO_ok (by omega), Oc.bind_next, ixO_d 0 (by omega) (by omega)]; rfl
end MV
namespace MV
open PySem PySem.Spec PyProof.Rows L2 He
section
variable {n : Nat} {c : Int → Int} {hs cl : List Int}
theorem CL.eq (h : CL n c cl) : cl = (iv 0 n).map c := by
  apply List.ext_getElem
  · rw [h.len, List.length_map, iv_len]
  · intro i h1 h2
    have a := h.at_ i (by rw [h.len] at h1; exact h1)
    rw [List.getD_eq_getElem?_getD, List.getElem?_eq_getElem h1] at a
    have a : cl[i] = c i := a
    rw [a, List.getElem_map, iv_at, Int.zero_add]
end
theorem init_ok {hs : List Int} (g : Gd hs) (b : hs.sum / (hs.length : Int) ≤ 16) : t_Cast___init__ hs = .ret hs () := by
  have l1 := g.l1
  have l2 := g.l2
  unfold t_Cast___init__
  rw [if_neg (by omega), rngO_n (by omega), Oc.bind_next, forO_iv0 (fun _ => ()) rfl ?h1, Oc.bind_next, Oc.bind_next, forO_iv0 (fun _ => ()) rfl ?h2, Oc.bind_next, divO_ok (by omega) (by omega), Oc.bind_next, if_neg (by omega)]; rfl
  case h1 =>
    intro j hj
    left
    have h0 := g.lo _ (getD_mem hj)
    have h9 := g.hi _ (getD_mem hj)
    try dsimp only
    rw [ixO_n 0 hj, Oc.bind_next, if_pos h0, liftO_next, Oc.bind_next, decide_eq_true h9, if_neg (by decide)]
  case h2 =>
    intro j hj
    left
    try dsimp only
    rw [rngO_n (by omega), Oc.bind_next, forO_iv0 (fun _ => ()) rfl ?h3]; rfl
    intro i hi
    left
    have nc := g.nocol hi hj
    try dsimp only
    rw [ixO_n 0 hj, Oc.bind_next, ixO_n 0 (by omega), Oc.bind_next, modO_ok (by omega), Oc.bind_next, if_neg nc]
theorem castH_ok {hs : List Int} : t_Cast_heights hs = .ret hs () := rfl
section
variable {n b b1 b2 : Nat} {c c1 c2 : Int → Int} {hs h1 h2 : List Int}
theorem Cs.init (C : Cs n c b hs) : t_Cast___init__ hs = .ret hs () := init_ok C.gd (by rw [C.balls]; have := C.b16; omega)
theorem count_ok (g : Gd hs) {a t : Int} (at_ : a ≤ t) (a1 : -1000000000 ≤ a) (t2 : t ≤ 1000000000) : t_count_between hs a t = .ret ((cnt hs a t).length : Int) () := by
  have l1 := g.l1
  have l2 := g.l2
  have ne : hs ≠ [] := fun z => by rw [z] at l1; exact absurd l1 (by decide)
  have mx := maxL_mem ne
  have m0 := g.lo _ mx.1
  have m9 := g.hi _ mx.1
  unfold t_count_between
  rw [stretch_ok at_, callO_ret, Oc.bind_next, lmO_ok (by omega), Oc.bind_next, List.map_id', maxO_ok ne, Oc.bind_next, rngO_ok (by omega), Oc.bind_next, forO_iv (fun k => ((((iv (max a (t - maxL hs)) k).filter fun p => decide (t ≤ land hs p)).length : Nat) : Int)) (by rfl) fun j hj => ?_, Oc.bind_next, cnt_clip g mx.2 (by omega) at_ m0]; rfl
  left
  try dsimp only
  rw [landing_ok l1, callO_ret, Oc.bind_next, iv_succ, List.filter_append, List.length_append]
  by_cases q : t ≤ land hs (max a (t - maxL hs) + (j : Int))
  · rw [if_pos q, letO_eq, List.filter_cons_of_pos (by exact decide_eq_true q)]; rfl
  · rw [if_neg q, List.filter_cons_of_neg (by rw [decide_eq_false q]; decide)]; rfl
theorem Cs.count (C : Cs n c b hs) {a t : Int} (at_ : a ≤ t) (a1 : -1000000000 ≤ a) (t2 : t ≤ 1000000000) : t_Cast_count hs a t = .ret (dc c a (t - a).toNat) () := by
  have e := C.hc.cnt C.cf C.n1 C.gd a (t - a).toNat
  rw [show a + ((t - a).toNat : Int) = t by omega] at e
  unfold t_Cast_count
  rw [castH_ok, propO_ret, Oc.bind_next, count_ok C.gd at_ a1 t2, callO_ret, Oc.bind_next, e]; rfl
end
end MV
namespace MV
open PySem PySem.Spec PyProof.Rows L2 He
abbrev okP (n : Nat) (P : List (List Int)) : Prop := ∀ S ∈ P, okS n S
theorem dO (d : Drw) {lim : Int} (h1 : 0 < lim) (h2 : lim < 1073741824) : ∃ x : Int × Drw, t_l_draw d lim = .ret x.1 x.2 ∧ 0 ≤ x.1 ∧ x.1 < lim := by
  obtain ⟨r, d', e, q⟩ := draw_ok d h1 h2
  exact ⟨(r, d'), e, q⟩
section
variable {n : Nat} {P : List (List Int)} {a t : Int} {w r l : Type}
theorem dc_one {c : Int → Int} {a : Int} {k : Nat} : dc c a (k + 1) = dc c a k + (if c (a + (k : Int)) < a then 1 else 0) := rfl
end
end MV
namespace MV
def ent0 (n : Nat) (S : List Int) (k : Nat) : List Int := (List.range k).foldl (fun hs i => hs.set (S.getD i 0).toNat (S.getD (i + 1) 0 - S.getD i 0)) (List.replicate n 0)
def ent (n : Nat) (S : List Int) : List Int := (ent0 n S (S.length - 1)).set (S.getD (S.length - 1) 0).toNat (S.getD 0 0 + (n : Int) - S.getD (S.length - 1) 0)
def hgt (n : Nat) (S : List Int) (p : Int) : Nat → Int → Int
  | 0, h => h
  | f + 1, h => if h < (n : Int) ∧ ¬ (p + h) % (n : Int) ∈ S then hgt n S p f (h + 1) else h
def oc (n : Nat) (S T : List Int) : List Int := T.foldl (fun hs p => hs.set p.toNat (hgt n S p 7 1)) (List.replicate n 0)
def subs (n : Nat) : List (List Int) := (List.range (2 ^ n - 1)).map fun c => bits n (c + 1)
def hold (n : Nat) (S : List Int) (a t : Int) : Int := if (iv a (t - a).toNat).any (fun p => decide (p % (n : Int) ∈ S)) then 1 else 0
structure Ent (n : Nat) (S : List Int) : Prop where
  oc : oc n S S = ent n S
  len : (ent n S).length = n
  gd : Gd (ent n S)
  sum : (ent n S).sum = (n : Int)
  used : ((iv 0 n).filter fun p => !decide ((ent n S).getD p.toNat 0 = 0)) = S
  cyc : ∀ a l : Nat, a < n → l < n + 2 → ((cnt (ent n S) (a : Int) ((a : Int) + (l : Int))).length : Int) = hold n S (a : Int) ((a : Int) + (l : Int))
theorem iv_shift {a c : Int} {m : Nat} : iv (a + c) m = (iv a m).map (· + c) := by
  unfold iv
  rw [List.map_map]
  refine List.map_congr_left fun k _ => ?_
  show a + c + (k : Int) = a + (k : Int) + c
  omega
def bad (n : Int) (xs : List Int) (i : Nat) : Prop := ¬ (0 ≤ xs.getD i 0 ∧ xs.getD i 0 < n) ∨ (0 < i ∧ xs.getD i 0 ≤ xs.getD (i - 1) 0)
theorem least {P : Nat → Prop} : ∀ m : Nat, (∃ i, i < m ∧ P i ∧ ∀ j, j < i → ¬ P j) ∨ ∀ i, i < m → ¬ P i
  | 0 => .inr fun i h => by omega
  | m + 1 => by
    rcases least (P := P) m with ⟨i, h1, h2⟩ | h
    · exact .inl ⟨i, by omega, h2⟩
    · by_cases c : P m
      · exact .inl ⟨m, by omega, c, fun j hj => h j hj⟩
      · refine .inr fun i hi => ?_
        rcases Nat.lt_or_ge i m with q | q
        · exact h i q
        · rw [show i = m by omega]; exact c
end MV
namespace MV
open PySem PySem.Spec PyProof.Rows L2 He
section
variable {n b1 b2 : Nat} {c c1 c2 : Int → Int} {hs h1 h2 : List Int}
def cl (A : List Int) (x : Int) : Nat := (A.filter fun a => decide (a < x)).length
def air (c : Int → Int) (g : Int) (H : Nat) : List Int := (iv g H).filter fun q => decide (c q < g)
structure SE (c1 c2 : Int → Int) (g : Int) (o : Option Int) : Prop where
  no : o = none → ∀ k, dc c1 g k ≤ dc c2 g k
  yes : ∀ e, o = some e → g < e ∧ dc c2 g (e - g).toNat < dc c1 g (e - g).toNat ∧ ∀ k : Nat, g + (k : Int) < e → dc c1 g k ≤ dc c2 g k
theorem len2 (C1 : Cs n c1 b1 h1) (C2 : Cs n c2 b2 h2) : h1.length = h2.length := by rw [C1.hc.len, C2.hc.len]
theorem Cs.conv (C1 : Cs n c1 b1 h1) (C2 : Cs n c2 b2 h2) : IsConv (dc c1) (dc c2) (dc (pgc n c1 (grw n c2 b2))) := by
  have g := grw_ok C2.n1 b2 C2.cf C2.tt
  have := conv_pages C1.n1 C1.cf g.1
  rw [g.2] at this
  exact this
end
abbrev inP (n : Nat) (P : List (List Int)) : Prop := ∀ S ∈ P, S ∈ subs n
theorem subs_okS {n : Nat} {S : List Int} (n1 : 1 ≤ n) (n6 : n ≤ 6) (h : S ∈ subs n) : okS n S := by
  obtain ⟨c, hc, rfl⟩ := List.mem_map.mp h
  exact bits_ok n1 n6 (List.mem_range.mp hc)
theorem inP.ok {n : Nat} {P : List (List Int)} (n1 : 1 ≤ n) (n6 : n ≤ 6) (h : inP n P) : okP n P := fun S hS => subs_okS n1 n6 (h S hS)
end MV
namespace MV
open PySem PySem.Spec PyProof.Rows L2 He
section
variable {N : Nat} {B B1 B2 : List Int} {c : Int → Int}
theorem Ct.tot (h : Ct N B) (n1 : 1 ≤ N) : MV.tot N (cstB N B) = (N : Int) * ((freeB N B).length : Int) := by
  have l : (extB N B (freeB N B)).length = N := by rw [extB_len, h.len]
  have e : (iv 0 N).map (cstB N B) = extB N B (freeB N B) := by
    refine List.ext_getElem (by rw [List.length_map, iv_len, l]) fun i h1 h2 => ?_
    rw [List.length_map, iv_len] at h1
    rw [List.getElem_map, iv_at]
    unfold cstB
    have m : ((0 : Int) + (i : Int)) % (N : Int) = (i : Int) := by rw [Int.zero_add]; exact Int.emod_eq_of_lt (by omega) (by omega)
    rw [m, List.getD_eq_getElem?_getD, Int.toNat_natCast, List.getElem?_eq_getElem (by omega)]
    show (extB N B (freeB N B))[i] + (0 + (i : Int) - (i : Int)) = _
    omega
  have s1 : sm (iv 0 N) (cstB N B) = (extB N B (freeB N B)).sum := by
    show ((iv 0 N).map (cstB N B)).sum = _
    rw [e]
  have s2 : sm (iv 0 N) (fun q => q) = ((B.filter fun v => decide (0 ≤ v)) ++ freeB N B).sum := by
    rw [← sm_id]
    exact (sm_perm h.pm).symm
  have s3 := extB_sum (N := N) B (freeB N B) h.cnt
  unfold MV.tot
  rw [sm_sub (f := fun q => q), s1, s2, s3]
  omega
theorem Ct.cs (h : Ct N B) (n1 : 1 ≤ N) (n6 : N ≤ 6) : Cs N (cstB N B) (freeB N B).length (hof N (cstB N B) N) := by
  refine ⟨n1, n6, h.cf n1, hof_hc (h.cf n1) n1, h.tot n1, ?_⟩
  have := List.length_filter_le (fun u => decide (u ∉ B)) (iv 0 N)
  rw [iv_len] at this
  show (freeB N B).length ≤ 16
  unfold freeB
  omega
theorem bfn_n {x : Nat} : bfn B (x : Int) = B.getD x 0 := by unfold bfn; rw [Int.toNat_natCast]
theorem Ct.uniq (h1 : Ct N B1) (h2 : Ct N B2) (e : ∀ (a : Nat) (k : Nat), a + k ≤ N → dc (bfn B1) (a : Int) k = dc (bfn B2) (a : Int) k) : B1 = B2 := by
  refine List.ext_getElem (by rw [h1.len, h2.len]) fun x x1 x2 => ?_
  have hx : x < N := by have := h1.len; omega
  have g : ∀ a : Nat, a ≤ x → (B1.getD x 0 < (a : Int) ↔ B2.getD x 0 < (a : Int)) := fun a ha => by
    have u := e a (x - a) (by omega)
    have v := e a (x - a + 1) (by omega)
    have u1 : dc (bfn B1) (a : Int) (x - a + 1) = dc (bfn B1) (a : Int) (x - a) + (if bfn B1 ((a : Int) + ((x - a : Nat) : Int)) < (a : Int) then 1 else 0) := rfl
    have u2 : dc (bfn B2) (a : Int) (x - a + 1) = dc (bfn B2) (a : Int) (x - a) + (if bfn B2 ((a : Int) + ((x - a : Nat) : Int)) < (a : Int) then 1 else 0) := rfl
    rw [show (a : Int) + ((x - a : Nat) : Int) = (x : Int) by omega, bfn_n] at u1 u2
    by_cases z : B1.getD x 0 < (a : Int)
    · rw [if_pos z] at u1
      by_cases y : B2.getD x 0 < (a : Int)
      · exact ⟨fun _ => y, fun _ => z⟩
      · rw [if_neg y] at u2; omega
    · rw [if_neg z] at u1
      by_cases y : B2.getD x 0 < (a : Int)
      · rw [if_pos y] at u2; omega
      · exact ⟨fun q => absurd q z, fun q => absurd q y⟩
  have a1 := h1.lo x hx
  have a2 := h2.lo x hx
  have c1 := h1.hi x hx
  have c2 := h2.hi x hx
  have e1 : B1.getD x 0 = B1[x] := by rw [List.getD_eq_getElem?_getD, List.getElem?_eq_getElem x1]; rfl
  have e2 : B2.getD x 0 = B2[x] := by rw [List.getD_eq_getElem?_getD, List.getElem?_eq_getElem x2]; rfl
  rw [← e1, ← e2]
  rcases Int.lt_trichotomy (B1.getD x 0) (B2.getD x 0) with z | z | z
  · have := (g (B2.getD x 0).toNat (by omega)).mp (by omega)
    omega
  · exact z
  · have := (g (B1.getD x 0).toNat (by omega)).mpr (by omega)
    omega
def allB : Nat → List (List Int)
  | 0 => [[]]
  | N + 1 => (allB N).flatMap fun B => ((iv (-1) (N + 2)).filter fun v => decide (v = -1 ∨ v ∉ B)).map fun v => B ++ [v]
theorem Ct.all : ∀ (N : Nat) {B : List Int}, Ct N B → B ∈ allB N
  | 0, B, h => by
    have : B = [] := List.length_eq_zero_iff.mp h.len
    subst this
    exact List.mem_cons_self
  | N + 1, B, h => by
    have l := h.len
    have e : B = B.take N ++ [B.getD N 0] := by
      have : B = B.take N ++ B.drop N := (List.take_append_drop N B).symm
      conv => lhs; rw [this]
      rw [List.drop_eq_getElem_cons (by omega), List.drop_eq_nil_of_le (by omega), List.getD_eq_getElem?_getD, List.getElem?_eq_getElem (by omega)]
      rfl
    have tk : ∀ x, x < N → (B.take N).getD x 0 = B.getD x 0 := fun x hx => by
      rw [List.getD_eq_getElem?_getD, List.getD_eq_getElem?_getD, List.getElem?_take, if_pos hx]
    have h' : Ct N (B.take N) := by
      refine ⟨by rw [List.length_take]; omega, fun x hx => ?_, fun x hx => ?_, fun x y hx hy h0 e => ?_⟩
      · rw [tk x hx]; exact h.lo x (by omega)
      · rw [tk x hx]; exact h.hi x (by omega)
      · rw [tk x hx] at h0 e
        rw [tk y hy] at e
        exact h.inj x y (by omega) (by omega) h0 e
    have a := h.lo N (by omega)
    have b := h.hi N (by omega)
    refine List.mem_flatMap.mpr ⟨B.take N, Ct.all N h', List.mem_map.mpr ⟨B.getD N 0, List.mem_filter.mpr ⟨mem_iv.mpr (by omega), decide_eq_true ?_⟩, e.symm⟩⟩
    by_cases z : B.getD N 0 = -1
    · exact .inl z
    · refine .inr fun m => ?_
      obtain ⟨x, hx, ex⟩ := List.getElem_of_mem m
      rw [List.length_take] at hx
      have g := tk x (by omega)
      rw [List.getD_eq_getElem?_getD, List.getElem?_eq_getElem (by rw [List.length_take]; omega)] at g
      have g : (B.take N)[x] = B.getD x 0 := g
      rw [ex] at g
      have := h.inj N x (by omega) (by omega) (by omega) g
      omega
end
end MV
namespace MV
open PySem PySem.Spec PyProof.Rows L2 He
section
variable {l l' w r ν α β γ δ ε ζ : Type} {Γ Δ : List Sl} {C : Sur l w r} {P : ν → Sr → Prop} {t : Oc l w r ν} {g : SemS} {m : Md}
def enmT (xs : List α) : List (Int × α) := (List.range xs.length).zipWith (fun (k : Nat) x => ((k : Int), x)) xs
theorem enmT_len {xs : List α} : (enmT xs).length = xs.length := by unfold enmT; rw [List.length_zipWith, List.length_range, Nat.min_self]
theorem enmT_at {xs : List α} {k : Nat} (h : k < xs.length) : (enmT xs)[k]? = some ((k : Int), xs[k]) := by
  unfold enmT
  simp [List.getElem?_zipWith, h]
theorem enmT_get {xs : List α} {k : Nat} (h : k < (enmT xs).length) : (enmT xs)[k] = ((k : Int), xs[k]'(by rw [enmT_len] at h; exact h)) := by
  obtain ⟨_, e⟩ := List.getElem?_eq_some_iff.mp (enmT_at (xs := xs) (k := k) (by rw [enmT_len] at h; exact h))
  exact e
def findC (cs ds : List Char) : Int := Txt.find (strOf cs) (strOf ds)
theorem strOf_app {xs ys : List Char} : (strOf (xs ++ ys)).cps = (strOf xs).cps ++ (strOf ys).cps := by
  unfold strOf
  rw [List.map_append]
  simp
def strS (kk : Str → En → Sr) : Sv → En → Sr := fun s ρ => match s.d with
  | .str a => kk a ρ
  | _ => .bad
theorem c_str1 {fo fe : Sem1} {kq : Str → Sv → En → Rs Sv} {k : Sv → En → Sr} (h : RS Γ (fun ρ => bndS (fo ρ) (strS fun a ρ1 => bndS (fe ρ1) fun s ρ2 => bndS (kq a s ρ2) k)) t C P) : RS Γ (fun ρ => bndS (fStr1 fo kq fe ρ) k) t C P := h.congr fun ρ _ => by
  unfold fStr1
  rw [bndS_bnd]
  congr 1; funext s ρ1
  obtain ⟨m, d⟩ := s
  cases d with
  | str a =>
    show bndS (bnd (fe ρ1) (kq a)) k = bndS (fe ρ1) (fun s ρ2 => bndS (kq a s ρ2) k)
    rw [bndS_bnd]
  | _ => rfl
theorem c_strV {cs : List Char} {kk : Str → En → Sr} (h : RS Γ (kk (strOf cs)) t C P) : RS Γ (strS kk ⟨m, eS cs⟩) t C P := h
theorem k_find {cs ds : List Char} : ∀ ρ, kFind (strOf cs) ⟨m, eS ds⟩ ρ = .ok (isv (findC cs ds)) ρ := fun _ => rfl
theorem strL_map {cs : List Char} : strL (strOf cs) = cs.map fun ch => sv (eS [ch]) := by
  unfold strL strOf
  show (cs.map Char.toNat).map _ = _
  rw [List.map_map]; rfl
theorem k_itS {cs : List Char} : ∀ ρ, kItS ⟨m, eS cs⟩ ρ = .ok (true, (cs.map fun ch => [ch]).map fun x => sv (eS x)) ρ := fun ρ => by
  show Rs.ok (true, strL (strOf cs)) ρ = _
  rw [strL_map, List.map_map]; rfl
def ixS (cs : List Char) (i : Int) : Oc l w r (List Char) := if cs.length ≤ sizeLine then (match atI cs i with | some ch => .next [ch] | none => .bad) else .bad
theorem c_ixS {cs : List Char} {i : Int} {m' : Md} {k : Sv → En → Sr} {u : List Char → Oc l w r ν} (h : ∀ x, RS Γ (k (sv (eS x))) (u x) C P) : RS Γ (fun ρ => bndS (kIx ⟨m, eS cs⟩ ⟨m', .int i⟩ ρ) k) ((ixS cs i).bind u) C P := by
  unfold ixS
  have ln : (strOf cs).length = cs.length := by show (strOf cs).cps.size = cs.length; unfold strOf; simp
  have tl : (strOf cs).cps.toList = cs.map Char.toNat := by unfold strOf; simp
  by_cases q : cs.length ≤ sizeLine
  · rw [if_pos q]
    cases c : atI cs i with
    | none => exact c_bad
    | some ch =>
      refine c_ok (a := sv (eS [ch])) (fun ρ => ?_) (h _)
      show grd (decide ((strOf cs).length ≤ sizeLine)) (match atI (strOf cs).cps.toList i with | some c => Rs.ok (Sv.mk .shr (.str ⟨#[c]⟩)) ρ | none => .bad) = _
      rw [ln, tl, atI_map, c, decide_eq_true q]; rfl
  · rw [if_neg q]; exact c_bad
def catS (cs ds : List Char) : Oc l w r (List Char) := if cs.length + ds.length ≤ sizeLine then .next (cs ++ ds) else .bad
theorem c_catS {cs ds : List Char} {m' : Md} {k : Sv → En → Sr} {u : List Char → Oc l w r ν} (h : ∀ x, RS Γ (k (sv (eS x))) (u x) C P) : RS Γ (fun ρ => bndS (kAdd ⟨m, eS cs⟩ ⟨m', eS ds⟩ ρ) k) ((catS cs ds).bind u) C P := by
  unfold catS
  have ln : ∀ cs : List Char, (strOf cs).length = cs.length := fun cs => by show (strOf cs).cps.size = cs.length; unfold strOf; simp
  by_cases q : cs.length + ds.length ≤ sizeLine
  · rw [if_pos q]
    refine c_ok (a := sv (eS (cs ++ ds))) (fun ρ => ?_) (h _)
    show grd (decide ((strOf cs).length + (strOf ds).length ≤ sizeLine)) (Rs.ok (Sv.mk .shr (.str (strOf cs ++ strOf ds))) ρ) = _
    have e : strOf cs ++ strOf ds = strOf (cs ++ ds) := by
      show Str.mk ((strOf cs).cps ++ (strOf ds).cps) = _
      rw [← strOf_app]
    rw [ln, ln, decide_eq_true q, e]; rfl
  · rw [if_neg q]; exact c_bad
def lenS (cs : List Char) : Oc l w r Int := if cs.length ≤ sizeLine then .next (cs.length : Int) else .bad
theorem c_lenS {cs : List Char} {k : Sv → En → Sr} {u : Int → Oc l w r ν} (h : ∀ x, RS Γ (k (isv x)) (u x) C P) : RS Γ (fun ρ => bndS (kS1 gLen ⟨m, eS cs⟩ ρ) k) ((lenS cs).bind u) C P := by
  unfold lenS
  have ln : (strOf cs).length = cs.length := by show (strOf cs).cps.size = cs.length; unfold strOf; simp
  by_cases q : cs.length ≤ sizeLine
  · rw [if_pos q]
    refine c_ok (a := isv (cs.length : Int)) (fun ρ => ?_) (h _)
    have e : gLen (eS cs) = some (.int (cs.length : Int)) := by
      show (if (strOf cs).length ≤ sizeLine then some (Vl.int (strOf cs).length) else none) = _
      rw [ln, if_pos q]
    show (match gLen (eS cs) with | some d => if isSc d then Rs.ok (Sv.mk .shr d) ρ else .bad | none => .bad) = _
    rw [e]; rfl
  · rw [if_neg q]; exact c_bad
def inC (ds cs : List Char) : Bool := inS (strOf ds) (strOf cs)
theorem k_ninS {cs ds : List Char} {m' : Md} : ∀ ρ, kS (gIn true) ⟨m, eS ds⟩ ⟨m', eS cs⟩ ρ = .ok (isb (decide (inC ds cs ≠ true))) ρ := fun ρ => by
  show Rs.ok (Sv.mk .shr (.bl (!(inC ds cs)))) ρ = _
  cases inC ds cs <;> rfl
theorem strOf_len {cs : List Char} : (strOf cs).length = cs.length := by show (strOf cs).cps.size = cs.length; unfold strOf; simp
theorem strOf_list {cs : List Char} : (strOf cs).cps.toList = cs.map Char.toNat := by unfold strOf; simp
def slS (cs : List Char) (lo hi : Option Int) : Oc l w r (List Char) := if cs.length ≤ sizeLine then .next (cutD cs lo hi) else .bad
theorem c_slS {cs : List Char} {lo hi : Option Int} {k : Sv → En → Sr} {u : List Char → Oc l w r ν} (h : ∀ x, RS Γ (k (sv (eS x))) (u x) C P) : RS Γ (fun ρ => bndS (kSl ⟨m, eS cs⟩ lo hi ρ) k) ((slS cs lo hi).bind u) C P := by
  unfold slS
  by_cases q : cs.length ≤ sizeLine
  · rw [if_pos q]
    refine c_ok (a := sv (eS (cutD cs lo hi))) (fun ρ => ?_) (h _)
    show grd (decide ((strOf cs).length ≤ sizeLine)) (Rs.ok (Sv.mk .shr (.str (cutS (strOf cs) lo hi))) ρ) = _
    have e : cutS (strOf cs) lo hi = strOf (cutD cs lo hi) := by
      unfold cutS cutD
      rw [strOf_len, strOf_list]
      unfold strOf
      simp
    rw [strOf_len, decide_eq_true q, e]; rfl
  · rw [if_neg q]; exact c_bad
def mulS (cs : List Char) (k : Int) : Oc l w r (List Char) := if 0 ≤ k ∧ k ≤ 1000 ∧ cs.length ≤ 1000 then .next (List.replicate k.toNat cs).flatten else .bad
theorem fold_rep {a : Array Nat} : ∀ (n : Nat) (acc : Array Nat), (List.replicate n a).foldl (· ++ ·) acc = acc ++ ((List.replicate n a.toList).flatten).toArray
  | 0, acc => by simp
  | n + 1, acc => by
    rw [List.replicate_succ, List.foldl_cons, fold_rep n, List.replicate_succ, List.flatten_cons]
    refine Array.ext' ?_
    simp
theorem flat_map {n : Nat} {cs : List Char} : ((List.replicate n cs).flatten).map Char.toNat = (List.replicate n (cs.map Char.toNat)).flatten := by
  rw [List.map_flatten, List.map_replicate]
theorem mul_str {cs : List Char} {k : Int} (h0 : 0 ≤ k) : Txt.mul (strOf cs) k = strOf (List.replicate k.toNat cs).flatten := by
  unfold Txt.mul
  by_cases h1 : k < 1
  · rw [if_pos h1, show k = 0 by omega]; rfl
  · rw [if_neg h1]
    by_cases h2 : (k == 1 || (strOf cs).length == 0) = true
    · rw [if_pos h2]
      rcases Bool.or_eq_true_iff.mp h2 with q | q
      · have := eq_of_beq q
        subst this
        show strOf cs = strOf (List.replicate 1 cs).flatten
        simp
      · have q := eq_of_beq q
        rw [strOf_len] at q
        have : cs = [] := List.eq_nil_of_length_eq_zero q
        subst this
        congr 1
        simp
    · rw [if_neg h2, fold_rep, strOf_list]
      unfold strOf
      rw [flat_map]
      simp
theorem c_mulS {cs : List Char} {i : Int} {m' : Md} {k : Sv → En → Sr} {u : List Char → Oc l w r ν} (h : ∀ x, RS Γ (k (sv (eS x))) (u x) C P) : RS Γ (fun ρ => bndS (kMulS ⟨m, eS cs⟩ ⟨m', .int i⟩ ρ) k) ((mulS cs i).bind u) C P := by
  unfold mulS
  by_cases q : 0 ≤ i ∧ i ≤ 1000 ∧ cs.length ≤ 1000
  · rw [if_pos q]
    refine c_ok (a := sv (eS (List.replicate i.toNat cs).flatten)) (fun ρ => ?_) (h _)
    show grd (decide (0 ≤ i ∧ i ≤ 1000 ∧ (strOf cs).length ≤ 1000)) (Rs.ok (Sv.mk .shr (.str (Txt.mul (strOf cs) i))) ρ) = _
    rw [strOf_len, decide_eq_true q, mul_str q.1]; rfl
  · rw [if_neg q]; exact c_bad
end
end MV
namespace MV
open PySem PySem.Spec PyProof.Rows L2 He
section
variable {l l' w r ν α β γ δ ε ζ : Type} {Γ Δ : List Sl} {C : Sur l w r} {P : ν → Sr → Prop} {t : Oc l w r ν} {g : SemS} {m m' : Md} {k : Sv → En → Sr}
theorem k_lenOT {c fld : Str} {fs : List (Str × Vl)} {x : Vl} {e : α → Vl} {xs : List α} (hx : x = .ins c fs) (hf : fs.lookup fld = some (eT e xs)) : ∀ ρ, kLenOT c fld ⟨m, x⟩ ρ = .ok ⟨.shr, .int (xs.length : Int)⟩ ρ := fun ρ => by
  subst hx
  show bnd (grd (decide (c ∈ [c])) (match fs.lookup fld with
    | some d => .ok (mk m.kid d) ρ
    | none => .bad)) kLnT = _
  rw [decide_eq_true (List.mem_singleton.mpr rfl), hf]
  show Rs.ok (Sv.mk .shr (.int ((xs.map e).length : Int))) ρ = _
  rw [List.length_map]
theorem v_andVF {fa fb : Sem1} (h : Ev Γ fa (isb false)) : Ev Γ (fAndV fa fb) (isb false) := fun ρ hρ => by
  unfold fAndV; rw [h ρ hρ]; rfl
end
end MV
namespace MV
open PySem PySem.Spec PyProof.Rows L2 He
section
variable {l l' w r ν α β γ δ ε ζ : Type} {Γ Δ : List Sl} {C : Sur l w r} {P : ν → Sr → Prop} {t : Oc l w r ν} {g : SemS} {m m' : Md} {k : Sv → En → Sr}
def grdSs (a : Ar) (f : SemS) : SemS := fun ρ => grdS (strA ρ a) (f ρ)
theorem c_op2S {c m : Str} {pm : List PM} {rm : Bool} {fn : Fn} {fo fb : SemR} {k : Sv → En → Sr} (h : RS Γ (fun ρ => bndS (fo ρ) fun a ρ1 => grdS (ntA a) (bndS (fb ρ1) fun b => grdC c m a (grdSs b fun ρ2 => bndS (kCall pm rm fn [a, b] ρ2) k))) t C P) : RS Γ (fun ρ => bndS (fOp2S c m pm rm fn fo fb ρ) k) t C P :=
  h.congr fun ρ _ => by
    show bndS (bnd (fo ρ) fun a ρ1 => grd (ntA a) (bnd (fb ρ1) fun b ρ2 => grd (clsOk c m ρ2 a && strA ρ2 b) (kCall pm rm fn [a, b] ρ2))) k = _
    rw [bndS_bnd]
    congr 1; funext a ρ1
    rw [bndS_grd, bndS_bnd]
    congr 2; funext b ρ2
    rw [bndS_grd]
    show _ = grdS (clsOk c m ρ2 a) (grdS (strA ρ2 b) _)
    cases clsOk c m ρ2 a <;> cases strA ρ2 b <;> rfl
theorem c_str2 {a : Ar} {s : Sv} {x : Str} {f : SemS} (ha : arG Γ a = some s) (hd : s.d = .str x) (h : RS Γ f t C P) : RS Γ (grdSs a f) t C P :=
  h.congr fun ρ hρ => by
    have : strA ρ a = true := by
      unfold strA
      rw [arG.env ha hρ]
      obtain ⟨md, d⟩ := s
      have hd : d = .str x := hd
      subst hd; rfl
    show grdS (strA ρ a) (f ρ) = f ρ
    rw [this]; rfl
end
end MV
namespace MV
open PySem PySem.Spec PyProof.Rows L2 He
def PkS (a b : Sl) : Prop := ∀ o, SlR a o → SlR b (o.bind wkS)
def Pke : List Sl → List Sl → Prop
  | [], [] => True
  | a :: Γ, b :: Δ => PkS a b ∧ Pke Γ Δ
  | _, _ => False
theorem Pke.env : ∀ {Γ Δ : List Sl} {ρ : En}, Pke Γ Δ → EnvR Γ ρ → EnvR Δ (pkE ρ)
  | [], [], _, _, h => by rw [show _ = [] from h]; rfl
  | a :: Γ, b :: Δ, _, ⟨w, t⟩, ⟨o, r, rfl, h, k⟩ => ⟨o.bind wkS, pkE r, rfl, w o h, Pke.env t k⟩
  | [], _ :: _, _, w, _ => w.elim
  | _ :: _, [], _, w, _ => w.elim
end MV
namespace MV
open PySem PySem.Spec PyProof.Rows L2 He
def DmS (a b : Sl) : Prop := ∀ o, SlR a o → SlR b (o.bind demS)
def Dme : List Sl → List Sl → Prop
  | [], [] => True
  | a :: Γ, b :: Δ => DmS a b ∧ Dme Γ Δ
  | _, _ => False
theorem Dme.env : ∀ {Γ Δ : List Sl} {ρ : En}, Dme Γ Δ → EnvR Γ ρ → EnvR Δ (demE ρ)
  | [], [], _, _, h => by rw [show _ = [] from h]; rfl
  | a :: Γ, b :: Δ, _, ⟨w, t⟩, ⟨o, r, rfl, h, k⟩ => ⟨o.bind demS, demE r, rfl, w o h, Dme.env t k⟩
  | [], _ :: _, _, w, _ => w.elim
  | _ :: _, [], _, w, _ => w.elim
end MV
namespace MV
open PySem PySem.Spec PyProof.Rows L2 He
section
variable {m : Md}
theorem enmS_map {cs : List Char} : enmS (strOf cs) = (cs.map fun ch => [ch]).map eS := by
  unfold enmS strOf
  show (cs.map Char.toNat).map _ = _
  rw [List.map_map, List.map_map]; rfl
theorem k_itES {cs : List Char} : ∀ ρ, kItES ⟨m, eS cs⟩ ρ = .ok (true, (enmT (cs.map fun ch => [ch])).map fun x => sv (e2 eI eS x)) ρ := fun ρ => by
  show Rs.ok (true, enmL (enmS (strOf cs))) ρ = _
  rw [enmS_map]
  generalize cs.map (fun ch => [ch]) = xs
  congr 2
  refine List.ext_getElem (by rw [enmL_len, List.length_map, List.length_map, enmT_len]) fun k h1 h2 => ?_
  obtain ⟨d, hd, es⟩ := enmL_get (List.getElem?_eq_getElem h1)
  rw [es, List.getElem_map, enmT_get]
  rw [enmL_len, List.length_map] at h1
  rw [List.getElem?_map, List.getElem?_eq_getElem h1] at hd
  injection hd with hd
  rw [← hd]; rfl
end
end MV
namespace MV
open PySem PySem.Spec PyProof.Rows L2 He
def ndC (cs : List Char) : Nat := nds (strOf cs)
section
variable {l w r ν : Type} {Γ : List Sl} {C : Sur l w r} {P : ν → Sr → Prop} {m : Md}
def lenSetO (cs : List Char) : Oc l w r Int := if cs.length ≤ 4000 then .next (ndC cs : Int) else .bad
theorem c_lenSet {cs : List Char} {k : Sv → En → Sr} {u : Int → Oc l w r ν} (h : ∀ x, RS Γ (k (isv x)) (u x) C P) : RS Γ (fun ρ => bndS (kLenS ⟨m, eS cs⟩ ρ) k) ((lenSetO cs).bind u) C P := by
  unfold lenSetO
  have e2 : (strOf cs).cps.size = cs.length := by unfold strOf; simp
  by_cases q : cs.length ≤ 4000
  · rw [if_pos q]
    refine c_ok (a := isv (ndC cs : Int)) (fun ρ => ?_) (h _)
    show grd (decide ((strOf cs).cps.size ≤ 4000)) (Rs.ok (⟨.shr, .int (nds (strOf cs) : Nat)⟩ : Sv) ρ) = _
    rw [e2, decide_eq_true q]; rfl
  · rw [if_neg q]; exact c_bad
end
end MV
namespace MV
open PySem PySem.Spec PyProof.Rows L2 He
def t_l_coat_text (state1 : Drw) (places1 : Int) (turn1 : Int) : TF Drw (List Char) := Oc.run (ν := Empty) (fun e : Empty => nomatch e) (
  letO ['a'] fun text1 =>
  (rngO (1 : Int) (places1 + (1 : Int))).bind fun r1 =>
  (forO (fun (gap1 : Int) (s1 : (Drw × (List Char) × Int)) =>
  (callI (fun o => o) (t_l_draw s1.1 (s1.2.2 + (1 : Int)))).bind fun v1 =>
  (ixO [(0 : Int), (1 : Int), (2 : Int), (0 : Int), (2 : Int), (1 : Int)] gap1).bind fun v2 =>
  letO ((v1.1 + v2) + turn1) fun spot1 =>
  (modO spot1 (s1.2.2 + (1 : Int))).bind fun v3 =>
  (ixS ['a', 'b', 'c', 'd', 'e', 'f'] v3).bind fun v4 =>
  (catS s1.2.1 v4).bind fun v5 =>
  if (v3 = s1.2.2) then
  letO (s1.2.2 + (1 : Int)) fun used1 =>
  .next (v1.2, v5, used1) else
  .next (v1.2, v5, s1.2.2)) r1 (state1, text1, (1 : Int))).bind fun s2 =>
  .ret s2.2.1 s2.1)
abbrev C_Coat : Type := (List Char) × (List Int)
def e_Coat (x : C_Coat) : Vl := .ins "Coat" [("_text", eS x.1), ("_before", (eT eI) x.2)]
def t_check_text (text1 : (List Char)) : TF Unit Unit := Oc.run (ν := Unit) (fun a => .ret () a) (
  (liftO ((lenS text1).bind fun v1 =>
  if ((1 : Int) ≤ v1) then (lenS ['a', 'b', 'c', 'd', 'e', 'f']).bind fun v2 =>
  .next (decide (v1 ≤ v2)) else .next false)).bind fun j1 =>
  if (¬ (j1 = true)) then (lenS text1).bind fun v3 =>
  .exc "BadSize" [("size", eI v3)] () else
  (forO (fun (p1 : (Int × (List Char))) (s1 : Int) =>
  (ixS ['a', 'b', 'c', 'd', 'e', 'f'] s1).bind fun v4 =>
  if (p1.2 = v4) then
  letO (s1 + (1 : Int)) fun used1 =>
  .next used1 else
  (slS ['a', 'b', 'c', 'd', 'e', 'f'] none (some s1)).bind fun v5 =>
  if (inC p1.2 v5 ≠ true) then .exc "BadCoat" [("index", eI p1.1)] () else
  .next s1) (enmT (text1.map fun ch => [ch])) (0 : Int)).bind fun s2 =>
  .next ())
def t_before_of_text (text1 : (List Char)) : TF Unit (List Int) := Oc.run (ν := Empty) (fun e : Empty => nomatch e) (
  letO ([] : List Int) fun before1 =>
  (lenS text1).bind fun v1 =>
  (rngO (1 : Int) v1).bind fun r1 =>
  (forO (fun (gap1 : Int) (s1 : (List Int)) =>
  letO (-(1 : Int)) fun nearest1 =>
  (rngO 0 gap1).bind fun r2 =>
  (forO (fun (earlier1 : Int) (s2 : Int) =>
  (ixS text1 earlier1).bind fun v2 =>
  (ixS text1 gap1).bind fun v3 =>
  if (v2 = v3) then
  .next earlier1 else
  .next s2) r2 nearest1).bind fun s3 =>
  (pushO s1 s3).bind fun before2 =>
  .next before2) r1 before1).bind fun s4 =>
  .ret s4 ())
def t_Coat___init__ (text1 : (List Char)) : TF Unit C_Coat := Oc.run (ν := C_Coat) (fun a => .ret a ()) (
  (callO () (t_check_text text1)).bind fun v1 =>
  (callO () (t_before_of_text text1)).bind fun v2 =>
  .next (text1, v2))
def t_Coat_places (self1 : C_Coat) : TF Unit Int := Oc.run (ν := Empty) (fun e : Empty => nomatch e) (
  .ret (self1.2.length : Int) ())
def t_text_of_before (before1 : (List Int)) : TF Unit (List Char) := Oc.run (ν := Empty) (fun e : Empty => nomatch e) (
  (ixS ['a', 'b', 'c', 'd', 'e', 'f'] (0 : Int)).bind fun v1 =>
  (forO (fun (nearest1 : Int) (s1 : ((List Char) × Int)) =>
  if (nearest1 < (0 : Int)) then
  (ixS ['a', 'b', 'c', 'd', 'e', 'f'] s1.2).bind fun v2 =>
  (catS s1.1 v2).bind fun v3 =>
  letO (s1.2 + (1 : Int)) fun used1 =>
  .next (v3, used1) else
  (ixS s1.1 nearest1).bind fun v4 =>
  (catS s1.1 v4).bind fun v5 =>
  .next (v5, s1.2)) before1 (v1, (1 : Int))).bind fun s2 =>
  .ret s2.1 ())
def t_Coat_text (self1 : C_Coat) : TF Unit (List Char) := Oc.run (ν := Empty) (fun e : Empty => nomatch e) (
  .ret self1.1 ())
def t_count_in (before1 : (List Int)) (begin1 : Int) (end1 : Int) : TF Unit Int := Oc.run (ν := Empty) (fun e : Empty => nomatch e) (
  (rngO (begin1 + (1 : Int)) (end1 + (1 : Int))).bind fun r1 =>
  (forO (fun (gap1 : Int) (s1 : Int) =>
  (ixO before1 (gap1 - (1 : Int))).bind fun v1 =>
  if (v1 < begin1) then
  letO (s1 + (1 : Int)) fun new1 =>
  .next new1 else
  .next s1) r1 (0 : Int)).bind fun s2 =>
  .ret s2 ())
def t_Coat_count (self1 : C_Coat) (begin1 : Int) (end1 : Int) : TF Unit Int := Oc.run (ν := Empty) (fun e : Empty => nomatch e) (
  (callO () (t_check_stretch begin1 end1)).bind fun v1 =>
  if ((begin1 < (0 : Int)) ∨ ((self1.2.length : Int) < end1)) then .exc "OutOfWindow" [("end", eI end1), ("begin", eI begin1)] () else
  (callO () (t_count_in self1.2 begin1 end1)).bind fun v2 =>
  .ret v2 ())
end MV
namespace MV
open PySem PySem.Spec PyProof.Rows L2 He
def gotB {α w : Type} (t : TF w α) (p : α → Bool) : Bool := match t with
  | .ret x _ => p x
  | _ => false
theorem got_ret {α w : Type} {t : TF w α} {p : α → Bool} (h : gotB t p = true) : ∃ x o, t = .ret x o ∧ p x = true := by
  cases t with
  | ret x o => exact ⟨x, o, rfl, h⟩
  | exc c fs o => cases h
  | bad => cases h
def txB (B : List Int) : List Char := match t_text_of_before B with
  | .ret cs _ => cs
  | _ => []
def chk1 (B : List Int) : Bool := gotB (t_text_of_before B) fun _ => true
def chk2 (B : List Int) : Bool := gotB (t_Coat___init__ (txB B)) fun p => decide (p = (txB B, B))
theorem chk1_all : ∀ N ∈ [0, 1, 2, 3, 4, 5], ∀ B ∈ allB N, chk1 B = true := by decide +kernel
theorem chk2_all : ∀ N ∈ [0, 1, 2, 3, 4, 5], ∀ B ∈ allB N, chk2 B = true := by decide +kernel
end MV
namespace MV
open PySem PySem.Spec PyProof.Rows L2 He
section
variable {n b : Nat} {c : Int → Int} {hs : List Int}
theorem map_nodup {α β : Type} {f : α → β} : ∀ {l : List α}, l.Nodup → (∀ x ∈ l, ∀ y ∈ l, f x = f y → x = y) → (l.map f).Nodup
  | [], _, _ => List.nodup_nil
  | a :: l, h, i => by
    obtain ⟨h1, h2⟩ := List.nodup_cons.mp h
    rw [List.map_cons, List.nodup_cons]
    refine ⟨fun z => ?_, map_nodup h2 fun x hx y hy => i x (List.mem_cons_of_mem _ hx) y (List.mem_cons_of_mem _ hy)⟩
    obtain ⟨x, hx, e⟩ := List.mem_map.mp z
    exact h1 (i x (List.mem_cons_of_mem _ hx) a List.mem_cons_self e ▸ hx)
end
end MV
namespace MV
open PySem PySem.Spec PyProof.Rows L2 He
section
variable {n b : Nat} {c : Int → Int} {hs S : List Int}
def lst (c : Int → Int) (g : Int) : Nat → Int
  | 0 => g
  | j + 1 => min (lst c g j) (c (g - 1 - (j : Int)))
end
end MV
namespace MV
open PySem PySem.Spec PyProof.Rows L2 He
section
variable {n b : Nat} {c : Int → Int} {hs S : List Int}
theorem Cs.more (C : Cs n c b hs) (l : b < 16) : t_check_one_more hs = .ret () () := by
  unfold t_check_one_more
  rw [C.hc.len, C.sum, if_neg]; rfl
  intro z
  have := C.n1
  have : (n : Int) * (b : Int) < 16 * (n : Int) := by rw [Int.mul_comm 16]; exact Int.mul_lt_mul_of_pos_left (by omega) (by omega)
  omega
end
end MV
namespace MV
open PySem PySem.Spec PyProof.Rows L2 He
def Tl (d : Vl) : Prop := (∃ i, d = eI i) ∨ ∃ cs, d = eS cs
theorem Tl.int {i : Int} : Tl (eI i) := .inl ⟨i, rfl⟩
theorem Tl.str {cs : List Char} : Tl (eS cs) := .inr ⟨cs, rfl⟩
theorem tl_all {xs : List Vl} (h : ∀ x ∈ xs, Tl x) : PyData.canLayAll0 (toDs xs) = true ∧ PyData.depthAll (toDs xs) = 0 ∧ PyData.eqvAll (toDs xs) (toDs xs) = true := by
  induction xs with
  | nil => exact ⟨rfl, by simp [toDs, PyData.depthAll], by simp [toDs, PyData.eqvAll]⟩
  | cons x xs ih =>
    obtain ⟨h1, h2, h3⟩ := ih fun y hy => h y (List.mem_cons_of_mem _ hy)
    have hx : (toD x).canLay0 = true ∧ (toD x).depth = 0 ∧ PyData.eqv (toD x) (toD x) = true := by
      rcases h x List.mem_cons_self with ⟨i, rfl⟩ | ⟨cs, rfl⟩
      · exact ⟨eqt_I.lay i, Nat.le_zero.mp (eqt_I.dep i), by rw [eqt_I.eqv]; simp⟩
      · exact ⟨eqt_S.lay cs, Nat.le_zero.mp (eqt_S.dep cs), by rw [eqt_S.eqv]; simp⟩
    refine ⟨?_, ?_, ?_⟩
    · show (PyData.canLay0 (toD x) && PyData.canLayAll0 (toDs xs)) = true
      rw [hx.1, h1]; rfl
    · show PyData.depthAll (toD x :: toDs xs) = 0
      simp only [PyData.depthAll, hx.2.1, h2]; rfl
    · show PyData.eqvAll (toD x :: toDs xs) (toD x :: toDs xs) = true
      simp only [PyData.eqvAll, hx.2.2, h3]; rfl
theorem eqO_tl {l w r : Type} {xs : List Vl} (h : ∀ x ∈ xs, Tl x) : (eqO (eL eV xs) (eL eV xs) : Oc l w r Bool) = .next true := by
  obtain ⟨h1, h2, h3⟩ := tl_all h
  have e : toD (eL eV xs) = .list (toDs xs) := by
    show PyData.list (toDs (xs.map id)) = _
    rw [List.map_id]
  have hs : SeqAt.shaped (toD (eL eV xs)) = true := by
    rw [e]
    show (PyData.canLayAll0 (toDs xs) && decide (PyData.depth (.list (toDs xs)) ≤ 64)) = true
    rw [h1, decide_eq_true (by simp only [PyData.depth]; omega)]; rfl
  unfold eqO cEq veq
  rw [hs, e]
  show (if (true && true) = true then Oc.next (PyData.eqvAll (toDs xs) (toDs xs)) else .bad) = _
  rw [h3]; rfl
theorem neO_tl {l w r : Type} {xs : List Vl} (h : ∀ x ∈ xs, Tl x) : (neO (eL eV xs) (eL eV xs) : Oc l w r Bool) = .next false := by
  have := eqO_tl (l := l) (w := w) (r := r) h
  unfold eqO at this
  unfold neO
  split at this
  · rename_i q
    injection this with this
    rw [this, if_pos q]; rfl
  · cases this
end MV
namespace MV
open PySem PySem.Spec PyProof.Rows L2 He
section
variable {n : Nat} {P Q : Nat → Nat → Prop} {o o' : Option (Int × Int)}
structure Lx (n : Nat) (P : Nat → Nat → Prop) (o : Option (Int × Int)) : Prop where
  no : o = none → ∀ g k, g < n → ¬ P g k
  yes : ∀ p, o = some p → ∃ g k : Nat, g < n ∧ p = ((g : Int), (g : Int) + (k : Int)) ∧ P g k ∧ (∀ g' k', g' < n → k' < k → ¬ P g' k') ∧ ∀ g', g' < g → ¬ P g' k
theorem Lx.uniq (h : Lx n P o) (h' : Lx n P o') : o = o' := by
  cases o with
  | none =>
    cases o' with
    | none => rfl
    | some p =>
      obtain ⟨g, k, l, _, q, _⟩ := h'.yes p rfl
      exact absurd q (h.no rfl g k l)
  | some p =>
    obtain ⟨g, k, l, e, q, m1, m2⟩ := h.yes p rfl
    cases o' with
    | none => exact absurd q (h'.no rfl g k l)
    | some p' =>
      obtain ⟨g', k', l', e', q', m1', m2'⟩ := h'.yes p' rfl
      have kk : k = k' := by
        rcases Nat.lt_trichotomy k k' with z | z | z
        · exact absurd q (m1' g k l z)
        · exact z
        · exact absurd q' (m1 g' k' l' z)
      subst kk
      have gg : g = g' := by
        rcases Nat.lt_trichotomy g g' with z | z | z
        · exact absurd q (m2' g z)
        · exact z
        · exact absurd q' (m2 g' z)
      subst gg
      rw [e, e']
theorem Lx.congr (h : Lx n P o) (e : ∀ g k, g < n → (P g k ↔ Q g k)) : Lx n Q o := by
  refine ⟨fun z g k l q => h.no z g k l ((e g k l).mpr q), fun p z => ?_⟩
  obtain ⟨g, k, l, ep, q, m1, m2⟩ := h.yes p z
  exact ⟨g, k, l, ep, (e g k l).mp q, fun g' k' l' lk y => m1 g' k' l' lk ((e g' k' l').mpr y), fun g' lg y => m2 g' lg ((e g' k (by omega)).mpr y)⟩
def lxo : Option (Int × Int) → Option (Int × Int) → Option (Int × Int)
  | none, o => o
  | some p, none => some p
  | some p, some q => if p.2 - p.1 = q.2 - q.1 then some (if p.1 < q.1 then p else q) else some (if p.2 - p.1 < q.2 - q.1 then p else q)
theorem Lx.or (h : Lx n P o) (h' : Lx n Q o') : Lx n (fun g k => P g k ∨ Q g k) (lxo o o') := by
  cases o with
  | none =>
    show Lx n _ o'
    exact h'.congr fun g k l => ⟨.inr, fun z => z.resolve_left (h.no rfl g k l)⟩
  | some p =>
    obtain ⟨g, k, l, e, q, m1, m2⟩ := h.yes p rfl
    cases o' with
    | none => exact h.congr fun g k l => ⟨.inl, fun z => z.resolve_right (h'.no rfl g k l)⟩
    | some p' =>
      obtain ⟨g', k', l', e', q', m1', m2'⟩ := h'.yes p' rfl
      subst e e'
      have left : (k < k' ∨ k = k' ∧ g < g') → Lx n (fun g k => P g k ∨ Q g k) (some ((g : Int), (g : Int) + (k : Int))) := fun z => ⟨fun y => (by cases y), fun r hr => by
        injection hr with hr
        refine ⟨g, k, l, hr.symm, .inl q, fun a b la lb y => ?_, fun a la y => ?_⟩
        · rcases y with y | y
          · exact m1 a b la lb y
          · exact m1' a b la (by omega) y
        · rcases y with y | y
          · exact m2 a la y
          · rcases z with z | ⟨z, z'⟩
            · exact m1' a k (by omega) z y
            · subst z; exact m2' a (by omega) y⟩
      have right : (k' < k ∨ k' = k ∧ g' ≤ g) → Lx n (fun g k => P g k ∨ Q g k) (some ((g' : Int), (g' : Int) + (k' : Int))) := fun z => ⟨fun y => (by cases y), fun r hr => by
        injection hr with hr
        refine ⟨g', k', l', hr.symm, .inr q', fun a b la lb y => ?_, fun a la y => ?_⟩
        · rcases y with y | y
          · exact m1 a b la (by omega) y
          · exact m1' a b la lb y
        · rcases y with y | y
          · rcases z with z | ⟨z, z'⟩
            · exact m1 a k' (by omega) z y
            · subst z; exact m2 a (by omega) y
          · exact m2' a la y⟩
      show Lx n _ (if (g : Int) + (k : Int) - (g : Int) = (g' : Int) + (k' : Int) - (g' : Int) then some (if (g : Int) < (g' : Int) then ((g : Int), (g : Int) + (k : Int)) else ((g' : Int), (g' : Int) + (k' : Int))) else some (if (g : Int) + (k : Int) - (g : Int) < (g' : Int) + (k' : Int) - (g' : Int) then ((g : Int), (g : Int) + (k : Int)) else ((g' : Int), (g' : Int) + (k' : Int))))
      by_cases kk : (g : Int) + (k : Int) - (g : Int) = (g' : Int) + (k' : Int) - (g' : Int)
      · rw [if_pos kk]
        by_cases gg : (g : Int) < (g' : Int)
        · rw [if_pos gg]; exact left (by omega)
        · rw [if_neg gg]; exact right (by omega)
      · rw [if_neg kk]
        by_cases gg : (g : Int) + (k : Int) - (g : Int) < (g' : Int) + (k' : Int) - (g' : Int)
        · rw [if_pos gg]; exact left (by omega)
        · rw [if_neg gg]; exact right (by omega)
end
end MV
namespace MV
open PySem PySem.Spec PyProof.Rows L2 He
structure Rk (n b : Nat) (f : Int → Nat → Int) : Prop where
  z : ∀ a, f a 0 = 0
  st : ∀ a k, f a k ≤ f a (k + 1) ∧ f a (k + 1) ≤ f a k + 1
  sh : ∀ a k, f (a + 1) k ≤ f a (k + 1) ∧ f a (k + 1) ≤ f (a + 1) k + 1
  mg : ∀ a k, f a (k + 2) - f a (k + 1) ≤ f (a + 1) (k + 1) - f (a + 1) k
  per : ∀ a k, f (a + n) k = f a k
  far : ∃ K : Nat, ∀ a k, K ≤ k → f a k = b
section
variable {n b : Nat} {c : Int → Int} {hs : List Int} {f : Int → Nat → Int}
def fstL (p : Nat → Bool) : Nat → Nat → Nat
  | 0, k => k
  | m + 1, k => if p k then k else fstL p m (k + 1)
theorem fstL_ok {p : Nat → Bool} : ∀ (m k : Nat), p (k + m) = true → p (fstL p m k) = true ∧ k ≤ fstL p m k ∧ fstL p m k ≤ k + m ∧ ∀ j, k ≤ j → j < fstL p m k → p j = false
  | 0, k, h => ⟨h, Nat.le_refl _, Nat.le_refl _, fun j h1 h2 => by have h2 : j < k := h2; omega⟩
  | m + 1, k, h => by
    unfold fstL
    by_cases z : p k = true
    · rw [if_pos z]
      exact ⟨z, Nat.le_refl _, by omega, fun j h1 h2 => by omega⟩
    · rw [if_neg z]
      obtain ⟨a1, a2, a3, a4⟩ := fstL_ok m (k + 1) (by rw [show k + 1 + m = k + (m + 1) by omega]; exact h)
      refine ⟨a1, by omega, by omega, fun j h1 h2 => ?_⟩
      by_cases q : j = k
      · subst q; exact Bool.eq_false_iff.mpr z
      · exact a4 j (by omega) h2
def cof (K : Nat) (f : Int → Nat → Int) (y : Int) : Int := y - ((fstL (fun k => decide (f (y - (k : Int)) (k + 1) = f (y - (k : Int)) k)) K 0 : Nat) : Int)
theorem Rk.cof_ok (h : Rk n b f) {K : Nat} (hK : ∀ a k, K ≤ k → f a k = b) (y : Int) : ∃ H : Nat, H ≤ K ∧ cof K f y = y - (H : Int) ∧ f (y - (H : Int)) (H + 1) = f (y - (H : Int)) H ∧ ∀ j : Nat, j < H → f (y - (j : Int)) (j + 1) = f (y - (j : Int)) j + 1 := by
  obtain ⟨a1, _, a3, a4⟩ := fstL_ok (p := fun k => decide (f (y - (k : Int)) (k + 1) = f (y - (k : Int)) k)) K 0 (by
    refine decide_eq_true ?_
    rw [hK _ _ (by omega), hK _ _ (by omega)])
  refine ⟨_, by omega, rfl, of_decide_eq_true a1, fun j hj => ?_⟩
  have := of_decide_eq_false (a4 j (Nat.zero_le _) hj)
  have := h.st (y - (j : Int)) j
  omega
theorem Rk.mono (h : Rk n b f) (y : Int) (i : Nat) : ∀ d : Nat, f (y - ((i + d : Nat) : Int)) (i + d + 1) - f (y - ((i + d : Nat) : Int)) (i + d) ≤ f (y - (i : Int)) (i + 1) - f (y - (i : Int)) i
  | 0 => Int.le_refl _
  | d + 1 => by
    have ih := Rk.mono h y i d
    have m := h.mg (y - ((i + d + 1 : Nat) : Int)) (i + d)
    rw [show y - ((i + d + 1 : Nat) : Int) + 1 = y - ((i + d : Nat) : Int) by omega] at m
    rw [show i + (d + 1) = i + d + 1 by omega]
    have : f (y - ((i + d + 1 : Nat) : Int)) (i + d + 1 + 1) = f (y - ((i + d + 1 : Nat) : Int)) (i + d + 2) := rfl
    omega
theorem Rk.dc_eq (h : Rk n b f) {K : Nat} (hK : ∀ a k, K ≤ k → f a k = b) : dc (cof K f) = f := funext fun a => funext fun k => by
  induction k with
  | zero => exact (h.z a).symm
  | succ k ih =>
    rw [dc_one, ih]
    obtain ⟨H, _, e, e1, e2⟩ := h.cof_ok hK (a + (k : Int))
    rw [e]
    by_cases q : k < H
    · have := e2 k q
      rw [show a + (k : Int) - (k : Int) = a by omega] at this
      rw [if_pos (by omega), this]
    · have m := h.mono (a + (k : Int)) H (k - H)
      rw [show H + (k - H) = k by omega, show a + (k : Int) - (k : Int) = a by omega] at m
      have := h.st a k
      rw [if_neg (by omega)]
      omega
theorem perm_of_sub {α : Type} [DecidableEq α] : ∀ {l m : List α}, l.Nodup → (∀ x ∈ l, x ∈ m) → m.length ≤ l.length → l.Perm m
  | [], m, _, _, h => by
    have : m = [] := List.length_eq_zero_iff.mp (by simpa using h)
    rw [this]
  | x :: l, m, nd, hs, h => by
    have hx := hs x List.mem_cons_self
    have p := List.perm_cons_erase hx
    have nd' := List.nodup_cons.mp nd
    have := perm_of_sub (l := l) (m := m.erase x) nd'.2 (fun y hy => (List.mem_erase_of_ne (fun e => by subst e; exact nd'.1 hy)).mpr (hs y (List.mem_cons_of_mem _ hy))) (by rw [List.length_erase_of_mem hx]; simp at h; omega)
    exact (this.cons x).trans p.symm
theorem Rk.cf (h : Rk n b f) {K : Nat} (hK : ∀ a k, K ≤ k → f a k = b) (n1 : 1 ≤ n) : CF n (cof K f) := by
  have de := h.dc_eq hK
  have le : ∀ q, cof K f q ≤ q := fun q => by
    obtain ⟨H, _, e, _⟩ := h.cof_ok hK q
    omega
  have per : ∀ q, cof K f (q + n) = cof K f q + n := fun q => by
    unfold cof
    have : (fun k : Nat => decide (f (q + (n : Int) - (k : Int)) (k + 1) = f (q + (n : Int) - (k : Int)) k)) = fun k : Nat => decide (f (q - (k : Int)) (k + 1) = f (q - (k : Int)) k) := funext fun k => by
      rw [show q + (n : Int) - (k : Int) = q - (k : Int) + (n : Int) by omega, h.per, h.per]
    rw [this]; omega
  generalize cof K f = c at de le per
  have inj : ∀ x y, c x = c y → x = y := by
    have half : ∀ x y, x < y → c x ≠ c y := fun x y lt e => by
      have ey := le x
      obtain ⟨K, hK⟩ : ∃ K : Nat, y = c x + 1 + (K : Int) := ⟨(y - c x - 1).toNat, by omega⟩
      have key : ∀ k : Nat, (x < c x + 1 + (k : Int) → dc c (c x) (k + 1) ≤ dc c (c x + 1) k) := fun k => by
        induction k with
        | zero =>
          intro hx
          have hx : x = c x := by omega
          have : dc c (c x) (0 + 1) = dc c (c x) 0 + 0 := by
            rw [dc_one, show c x + ((0 : Nat) : Int) = x by omega, if_neg (by omega)]
          rw [this]; show (0 : Int) + 0 ≤ 0; omega
        | succ k ih =>
          intro hx
          have s1 := dc_one (c := c) (a := c x) (k := k + 1)
          have s2 := dc_one (c := c) (a := c x + 1) (k := k)
          rw [show c x + ((k + 1 : Nat) : Int) = c x + 1 + (k : Int) by omega] at s1
          by_cases z : x = c x + 1 + (k : Int)
          · have r := h.sh (c x) k
            rw [← de] at r
            rw [← z] at s1 s2
            rw [if_neg (by omega)] at s1
            rw [if_pos (by omega)] at s2
            omega
          · have := ih (by omega)
            rw [s1, s2]
            by_cases w : c (c x + 1 + (k : Int)) < c x
            · rw [if_pos w, if_pos (by omega)]; omega
            · rw [if_neg w]; split <;> omega
      have a1 := key K (by omega)
      have s1 := dc_one (c := c) (a := c x) (k := K + 1)
      have s2 := dc_one (c := c) (a := c x + 1) (k := K)
      rw [show c x + ((K + 1 : Nat) : Int) = y by omega, if_neg (by omega)] at s1
      rw [show c x + 1 + (K : Int) = y by omega, if_pos (by omega)] at s2
      have r := h.sh (c x) (K + 1)
      rw [← de] at r
      omega
    intro x y e
    rcases Int.lt_trichotomy x y with z | z | z
    · exact absurd e (half x y z)
    · exact z
    · exact absurd e.symm (half y x z)
  refine ⟨le, per, ?_⟩
  refine perm_of_sub (map_nodup nodup_iv fun x hx y hy e => ?_) (fun z hz => ?_) (by rw [List.length_map]; exact Nat.le_refl _)
  · have hx := mem_iv.mp hx
    have hy := mem_iv.mp hy
    have d1 := Int.emod_add_mul_ediv (c x) (n : Int)
    have d2 := Int.emod_add_mul_ediv (c y) (n : Int)
    have p := per_mul per y (c x / (n : Int) - c y / (n : Int))
    rw [Int.mul_sub] at p
    have := inj x (y + ((n : Int) * (c x / (n : Int)) - (n : Int) * (c y / (n : Int)))) (by rw [p]; omega)
    have q : (x - y) % (n : Int) = 0 := by
      rw [show x - y = (n : Int) * (c x / (n : Int) - c y / (n : Int)) by rw [Int.mul_sub]; omega]
      exact Int.mul_emod_right _ _
    obtain ⟨z, hz⟩ := Int.dvd_of_emod_eq_zero q
    rcases Int.lt_trichotomy z 0 with w | w | w
    · have := Int.mul_le_mul_of_nonneg_left (show z ≤ -1 by omega) (show (0 : Int) ≤ n by omega)
      omega
    · subst w; omega
    · have := Int.mul_le_mul_of_nonneg_left (show 1 ≤ z by omega) (show (0 : Int) ≤ n by omega)
      omega
  · obtain ⟨q, _, rfl⟩ := List.mem_map.mp hz
    exact mod_mem n1 _
theorem sm_per {g : Int → Int} (h : ∀ q, g (q + n) = g q) : ∀ k : Nat, sm (iv (k : Int) n) g = sm (iv 0 n) g
  | 0 => rfl
  | k + 1 => by
    have ih := sm_per h k
    rw [← ih]
    have e1 : iv (k : Int) (1 + n) = iv (k : Int) 1 ++ iv ((k : Int) + ((1 : Nat) : Int)) n := iv_add n
    have e2 : iv (k : Int) (n + 1) = iv (k : Int) n ++ [(k : Int) + (n : Int)] := iv_succ
    rw [show 1 + n = n + 1 by omega, e2] at e1
    have s := congrArg (fun l => sm l g) e1
    simp only [sm_app] at s
    have s1 : sm [(k : Int) + (n : Int)] g = g ((k : Int) + (n : Int)) := by unfold sm; simp
    have s2 : sm (iv (k : Int) 1) g = g (k : Int) := by
      unfold sm iv
      show ([g ((k : Int) + ((0 : Nat) : Int))]).sum = _
      rw [show (k : Int) + ((0 : Nat) : Int) = (k : Int) by omega]
      simp
    rw [s1, s2, h] at s
    rw [show ((k + 1 : Nat) : Int) = (k : Int) + ((1 : Nat) : Int) by omega]
    omega
theorem dc_sm {a : Int} : ∀ k : Nat, dc c a k = sm (List.range k) fun i => ind (c (a + ((i : Nat) : Int)) < a)
  | 0 => rfl
  | k + 1 => by
    rw [dc_one, dc_sm k, List.range_succ, sm_app]
    congr 1
    unfold sm ind
    simp
theorem ind_sm {d : Int} (d0 : 0 ≤ d) : ∀ K : Nat, d ≤ (K : Int) → sm (List.range K) (fun i : Nat => ind ((i : Int) < d)) = d := by
  have gen : ∀ K : Nat, sm (List.range K) (fun i : Nat => ind ((i : Int) < d)) = min (K : Int) d := fun K => by
    induction K with
    | zero => show (0 : Int) = _; omega
    | succ K ih =>
      rw [List.range_succ, sm_app, ih]
      have : sm [K] (fun i : Nat => ind ((i : Int) < d)) = ind ((K : Int) < d) := by unfold sm; simp
      rw [this]
      unfold ind
      split <;> omega
  intro K hK
  rw [gen K]; omega
theorem tot_of (hc : CF n c) {K : Nat} (hK : ∀ q, q - c q ≤ (K : Int)) (hb : ∀ a, dc c a K = b) : tot n c = n * (b : Int) := by
  have e1 : sm (iv 0 n) (fun a => dc c a K) = n * (b : Int) := by
    rw [sm_congr (g := fun _ => (b : Int)) fun a _ => hb a]
    unfold sm
    rw [List.map_const', List.sum_replicate_int, iv_len]
  rw [← e1]
  unfold tot
  have e2 : sm (iv 0 n) (fun a => dc c a K) = sm (iv 0 n) fun a => sm (List.range K) fun i => ind (c (a + ((i : Nat) : Int)) < a) := sm_congr fun a _ => dc_sm K
  rw [e2, sm_comm]
  have e3 : ∀ i : Nat, sm (iv 0 n) (fun a => ind (c (a + (i : Int)) < a)) = sm (iv 0 n) fun q => ind ((i : Int) < q - c q) := fun i => by
    have p : ∀ q, ind ((i : Int) < (q + n) - c (q + n)) = ind ((i : Int) < q - c q) := fun q => by
      rw [hc.per]
      unfold ind
      congr 1
      simp only [eq_iff_iff]; omega
    have := sm_per (g := fun q => ind ((i : Int) < q - c q)) p i
    rw [← this]
    rw [show (iv ((i : Nat) : Int) n) = (iv 0 n).map (fun a => a + (i : Int)) by
      rw [← iv_shift, Int.zero_add], sm_map]
    refine sm_congr fun a _ => ?_
    unfold ind
    congr 1
    simp only [eq_iff_iff]; omega
  rw [sm_congr (g := fun i : Nat => sm (iv 0 n) fun q => ind ((i : Int) < q - c q)) (fun i _ => e3 i), sm_comm]
  exact sm_congr fun q _ => (ind_sm (by have := hc.le q; omega) K (hK q)).symm
theorem Rk.cs (h : Rk n b f) (n1 : 1 ≤ n) (n6 : n ≤ 6) (b16 : b ≤ 16) : ∃ c, dc c = f ∧ Cs n c b (hof n c n) := by
  obtain ⟨K, hK⟩ := h.far
  have k := h.cf hK n1
  refine ⟨cof K f, h.dc_eq hK, n1, n6, k, hof_hc k n1, tot_of k (K := K) (fun q => ?_) (fun a => ?_), b16⟩
  · obtain ⟨H, hH, e, _⟩ := h.cof_ok hK q
    omega
  · rw [h.dc_eq hK, hK a _ (Nat.le_refl _)]
end
structure IsQ (w l q : Int → Nat → Int) : Prop where
  lb : ∀ a k i, q a k ≤ w a (k + i) - l (a + (k : Int)) i
  ex : ∀ a k, ∃ i, q a k = w a (k + i) - l (a + (k : Int)) i
section
variable {n bw bl : Nat} {w l q q' x v : Int → Nat → Int}
theorem IsQ.uniq (h : IsQ w l q) (h' : IsQ w l q') : q = q' := funext fun a => funext fun k => by
  obtain ⟨i, e⟩ := h.ex a k
  obtain ⟨j, e'⟩ := h'.ex a k
  have := h.lb a k j
  have := h'.lb a k i
  omega
end
end MV
namespace MV
open PySem PySem.Spec PyProof.Rows L2 He
section
variable {n bw bl : Nat} {cw cl : Int → Int} {hw hl : List Int}
structure IsM (w l q : Int → Nat → Int) : Prop where
  lb : ∀ a k i, q a k ≤ w (a - ((i : Nat) : Int)) (k + i) - l (a - ((i : Nat) : Int)) i
  ex : ∀ a k, ∃ i : Nat, q a k = w (a - (i : Int)) (k + i) - l (a - (i : Int)) i
theorem IsM.uniq {w l q q' : Int → Nat → Int} (h : IsM w l q) (h' : IsM w l q') : q = q' := funext fun a => funext fun k => by
  obtain ⟨i, e⟩ := h.ex a k
  obtain ⟨j, e'⟩ := h'.ex a k
  have := h.lb a k j
  have := h'.lb a k i
  omega
end
end MV
namespace MV
open PySem PySem.Spec PyProof.Rows L2 He
section
variable {n : Nat}
structure RwI (S : List Int) (j : Nat) (row : List Int) : Prop where
  asc : row.Pairwise (· < ·)
  rng : ∀ x ∈ row, 0 ≤ x ∧ x < (j : Int)
  sup : ∀ x, 0 ≤ x → x < (j : Int) → x ∈ S → x ∈ row
theorem RwI.push {S row : List Int} {j : Nat} (h : RwI S j row) : RwI S (j + 1) (row ++ [(j : Int)]) := by
  refine ⟨List.pairwise_append.mpr ⟨h.asc, List.pairwise_singleton _ _, fun a ha b hb => ?_⟩, fun x hx => ?_, fun x x0 x1 hx => ?_⟩
  · rw [List.mem_singleton.mp hb]; exact (h.rng a ha).2
  · rcases List.mem_append.mp hx with q | q
    · have := h.rng x q; omega
    · rw [List.mem_singleton.mp q]; omega
  · by_cases z : x = (j : Int)
    · subst z; exact List.mem_append_right _ (List.mem_singleton.mpr rfl)
    · exact List.mem_append_left _ (h.sup x x0 (by omega) hx)
end
end MV
namespace MV
open PySem PySem.Spec PyProof.Rows L2 He
section
variable {z r q p A B D E v : Int → Nat → Int}
theorem IsQM.swap (h1 : IsQ z r A) (h2 : IsM A p B) (h3 : IsM z p D) (h4 : IsQ D r E) : B = E := by
  refine h2.uniq ?_
  have lb : ∀ (a : Int) (k i : Nat), E a k ≤ A (a - (i : Int)) (k + i) - p (a - (i : Int)) i := fun a k i => by
    obtain ⟨j, e⟩ := h1.ex (a - (i : Int)) (k + i)
    have b1 := h4.lb a k j
    have b2 := h3.lb a (k + j) i
    rw [show a - (i : Int) + ((k + i : Nat) : Int) = a + (k : Int) by omega, show k + i + j = k + j + i by omega] at e
    omega
  refine ⟨lb, fun a k => ?_⟩
  obtain ⟨j, e1⟩ := h4.ex a k
  obtain ⟨i, e2⟩ := h3.ex a (k + j)
  refine ⟨i, ?_⟩
  have b1 := lb a k i
  have b2 := h1.lb (a - (i : Int)) (k + i) j
  rw [show a - (i : Int) + ((k + i : Nat) : Int) = a + (k : Int) by omega, show k + i + j = k + j + i by omega] at b2
  omega
end
end MV
namespace MV
open PySem PySem.Spec PyProof.Rows L2 He
section
variable {N : Nat} {B B1 B2 : List Int}
theorem inN (h : N ≤ 5) : N ∈ [0, 1, 2, 3, 4, 5] := by
  have : N = 0 ∨ N = 1 ∨ N = 2 ∨ N = 3 ∨ N = 4 ∨ N = 5 := by omega
  rcases this with rfl | rfl | rfl | rfl | rfl | rfl <;> decide
theorem Ct.text (h : Ct N B) (n5 : N ≤ 5) : t_text_of_before B = .ret (txB B) () := by
  have c := chk1_all N (inN n5) B (Ct.all N h)
  unfold chk1 at c
  obtain ⟨x, o, e, _⟩ := got_ret c
  unfold txB
  rw [e]
theorem Ct.init (h : Ct N B) (n5 : N ≤ 5) : t_Coat___init__ (txB B) = .ret (txB B, B) () := by
  have c := chk2_all N (inN n5) B (Ct.all N h)
  unfold chk2 at c
  obtain ⟨x, o, e, q⟩ := got_ret c
  rw [e, of_decide_eq_true q]
end
end MV
namespace MV
open PySem PySem.Spec PyProof.Rows L2 He
section
variable {N : Nat} {B B1 B2 : List Int}
def co (B : List Int) : C_Coat := (txB B, B)
theorem Ct.nil (h : Ct 0 B) : B = [] := List.length_eq_zero_iff.mp h.len
theorem count_in5 (h : Ct N B) {a k : Nat} (n5 : N ≤ 5) (hk : a + k ≤ N) : t_count_in B (a : Int) ((a : Int) + (k : Int)) = .ret (dc (bfn B) (a : Int) k) () := by
  unfold t_count_in
  rw [rngO_ok (by omega), Oc.bind_next, show ((a : Int) + (k : Int) + 1 - ((a : Int) + 1)).toNat = k by omega, forO_iv (fun j => dc (bfn B) (a : Int) j) (by rfl) fun j hj => ?_, Oc.bind_next]
  · rfl
  left
  have l := h.len
  rw [show (a : Int) + 1 + (j : Int) - 1 = ((a + j : Nat) : Int) by omega, ixO_n 0 (by omega), Oc.bind_next]
  show _ = Oc.next (dc (bfn B) (a : Int) j + (if bfn B ((a : Int) + (j : Int)) < (a : Int) then 1 else 0))
  rw [show (a : Int) + (j : Int) = ((a + j : Nat) : Int) by omega, bfn_n]
  by_cases z : B.getD (a + j) 0 < (a : Int)
  · rw [if_pos z, if_pos z, letO_eq]
  · rw [if_neg z, if_neg z, Int.add_zero]
theorem count5 (h : Ct N B) {a k : Nat} (n5 : N ≤ 5) (hk : a + k ≤ N) : t_Coat_count (co B) (a : Int) ((a : Int) + (k : Int)) = .ret (dc (bfn B) (a : Int) k) () := by
  have l := h.len
  unfold t_Coat_count
  rw [stretch_ok (by omega), callO_ret, Oc.bind_next, if_neg (by show ¬ ((a : Int) < 0 ∨ ((B.length : Nat) : Int) < _); omega)]
  show ((callO () (t_count_in B (a : Int) ((a : Int) + (k : Int)))).bind _ : Oc _ _ _ _).run _ = _
  rw [count_in5 h n5 hk, callO_ret, Oc.bind_next]; rfl
def ctB (N : Nat) (B : List Int) : Bool := decide (B.length = N) && ((List.range N).all fun x => decide (-1 ≤ B.getD x 0) && decide (B.getD x 0 ≤ (x : Int)) && (List.range N).all fun y => decide (0 ≤ B.getD x 0 → B.getD x 0 = B.getD y 0 → x = y))
theorem ctB_ct (h : ctB N B = true) : Ct N B := by
  unfold ctB at h
  rw [Bool.and_eq_true] at h
  have g : ∀ x, x < N → (-1 ≤ B.getD x 0 ∧ B.getD x 0 ≤ (x : Int)) ∧ ∀ y, y < N → 0 ≤ B.getD x 0 → B.getD x 0 = B.getD y 0 → x = y := fun x hx => by
    have := List.all_eq_true.mp h.2 x (List.mem_range.mpr hx)
    rw [Bool.and_eq_true, Bool.and_eq_true] at this
    exact ⟨⟨of_decide_eq_true this.1.1, of_decide_eq_true this.1.2⟩, fun y hy => of_decide_eq_true (List.all_eq_true.mp this.2 y (List.mem_range.mpr hy))⟩
  exact ⟨of_decide_eq_true h.1, fun x hx => (g x hx).1.1, fun x hx => (g x hx).1.2, fun x y hx hy h0 e => (g x hx).2 y hy h0 e⟩
end
end MV
namespace MV
open PySem PySem.Spec PyProof.Rows L2 He
section
variable {n m : Nat}
structure Rw (n m j : Nat) (row : List Int) : Prop where
  len : row.length = j
  lo : ∀ h ∈ row, 0 ≤ h
  nd : (tgn n row).Nodup
  sm : row.sum ≤ ((n * m : Nat) : Int)
theorem Rw.s0 {j : Nat} {row : List Int} (h : Rw n m j row) : 0 ≤ row.sum := (mem_le_sum h.lo).1
end
end MV
namespace MV
open PySem PySem.Spec PyProof.Rows L2 He
theorem toNat_inj {c d : Char} (h : c.toNat = d.toNat) : c = d := Char.ext (UInt32.toNat_inj.mp h)
theorem inC1 {c : Char} {w : List Char} : inC [c] w = true ↔ c ∈ w := by
  have e : inC [c] w = decide (c.toNat ∈ (strOf w).cps.toList) := PySem.StrLaws.found_one (strOf w) c.toNat
  have t : (strOf w).cps.toList = w.map Char.toNat := by unfold strOf; simp
  rw [e, decide_eq_true_iff, t, List.mem_map]
  constructor
  · rintro ⟨d, hd, q⟩
    rw [← toNat_inj q]; exact hd
  · exact fun h => ⟨c, h, rfl⟩
theorem findC_no {c : Char} {w : List Char} (h : c ∉ w) : findC w [c] = -1 := by
  have e : inC [c] w = false := Bool.eq_false_iff.mpr fun z => h (inC1.mp z)
  have e : (!(Builtin.Str.occurrences (strOf w) (strOf [c]) 0 (strOf w).length 1).isEmpty) = false := e
  unfold findC Txt.find
  cases q : Builtin.Str.occurrences (strOf w) (strOf [c]) 0 (strOf w).length 1 with
  | nil => rfl
  | cons x xs => rw [q] at e; cases e
theorem lenS_ok {l w r : Type} {cs : List Char} (h : cs.length ≤ 10000000) : (lenS cs : Oc l w r Int) = .next (cs.length : Int) := by
  unfold lenS
  rw [if_pos (by rw [size_eq]; omega)]
theorem ixS_n {l w r : Type} {cs : List Char} {k : Nat} (h : k < cs.length) (h' : cs.length ≤ 10000000) : (ixS cs (k : Int) : Oc l w r (List Char)) = .next [cs[k]] := by
  unfold ixS
  rw [if_pos (by rw [size_eq]; omega), atI_nn (by omega) (by omega), Int.toNat_natCast, List.getElem?_eq_getElem h]
theorem catS_ok {l w r : Type} {cs ds : List Char} (h : cs.length + ds.length ≤ 10000000) : (catS cs ds : Oc l w r (List Char)) = .next (cs ++ ds) := by
  unfold catS
  rw [if_pos (by rw [size_eq]; omega)]
theorem slS_ok {l w r : Type} {cs : List Char} {lo hi : Option Int} (h : cs.length ≤ 10000000) : (slS cs lo hi : Oc l w r (List Char)) = .next (cutD cs lo hi) := by
  unfold slS
  rw [if_pos (by rw [size_eq]; omega)]
structure OkC (n : Nat) (codes : List Int) : Prop where
  len : codes.length = 26
  lo : ∀ i, 0 ≤ codes.getD i 0
  hi : ∀ i, codes.getD i 0 < ((2 ^ n : Nat) : Int)
end MV
namespace MV
open PySem PySem.Spec PyProof.Rows L2 He
def colB (B : List Int) : Nat := 1 + (B.filter fun v => decide (v < 0)).length
abbrev lt6 : List Char := ['a', 'b', 'c', 'd', 'e', 'f']
theorem all_ct : ∀ N ∈ [0, 1, 2, 3, 4, 5], ∀ B ∈ allB N, ctB N B = true := by decide +kernel
def chk7 (N : Nat) (B : List Int) : Bool := decide (colB B ≤ N + 1) && ((List.range (colB B + 1)).all fun p => (allB (N + 1)).any fun B' => decide (txB B' = txB B ++ [lt6.getD p 'a']) && decide (colB B' = if p = colB B then colB B + 1 else colB B))
theorem chk7_all : ∀ N ∈ [0, 1, 2, 3, 4], ∀ B ∈ allB N, chk7 N B = true := by decide +kernel
section
variable {N : Nat} {B B1 B2 : List Int}
theorem allB_ct (n5 : N ≤ 5) (h : B ∈ allB N) : Ct N B := ctB_ct (all_ct N (inN n5) B h)
theorem step7 (n4 : N ≤ 4) (h : B ∈ allB N) : colB B ≤ N + 1 ∧ ∀ p, p ≤ colB B → ∃ B' ∈ allB (N + 1), txB B' = txB B ++ [lt6.getD p 'a'] ∧ colB B' = if p = colB B then colB B + 1 else colB B := by
  have m : N ∈ [0, 1, 2, 3, 4] := by
    have : N = 0 ∨ N = 1 ∨ N = 2 ∨ N = 3 ∨ N = 4 := by omega
    rcases this with rfl | rfl | rfl | rfl | rfl <;> decide
  have c := chk7_all N m B h
  unfold chk7 at c
  rw [Bool.and_eq_true] at c
  refine ⟨of_decide_eq_true c.1, fun p hp => ?_⟩
  obtain ⟨B', h', q⟩ := List.any_eq_true.mp (List.all_eq_true.mp c.2 p (List.mem_range.mpr (by omega)))
  rw [Bool.and_eq_true] at q
  exact ⟨B', h', of_decide_eq_true q.1, of_decide_eq_true q.2⟩
theorem ixS_l {p : Nat} (h : p < 6) {l w r : Type} : (ixS lt6 (p : Int) : Oc l w r (List Char)) = .next [lt6.getD p 'a'] := by
  have : p = 0 ∨ p = 1 ∨ p = 2 ∨ p = 3 ∨ p = 4 ∨ p = 5 := by omega
  rcases this with rfl | rfl | rfl | rfl | rfl | rfl <;> rfl
theorem txB_len (h : Ct N B) (n5 : N ≤ 5) : (txB B).length ≤ 1000 := by
  have c := all_len N (inN n5) B (Ct.all N h)
  exact c
where all_len : ∀ N ∈ [0, 1, 2, 3, 4, 5], ∀ B ∈ allB N, (txB B).length ≤ 1000 := by decide +kernel
theorem coat_text5 (d : Drw) (n5 : N ≤ 5) (turn : Int) (t0 : 0 ≤ turn) : ∃ B d', t_l_coat_text d N turn = .ret (txB B) d' ∧ Ct N B := by
  obtain ⟨⟨d', tx, used⟩, es, B, hB, etx, eu⟩ := forO_inv_iv (l := Empty) (w := Drw) (r := List Char) (a := 1) (n := N) (body := fun (gap1 : Int) (s1 : (Drw × (List Char) × Int)) =>
  (callI (fun o => o) (t_l_draw s1.1 (s1.2.2 + (1 : Int)))).bind fun v1 =>
  (ixO [(0 : Int), (1 : Int), (2 : Int), (0 : Int), (2 : Int), (1 : Int)] gap1).bind fun v2 =>
  letO ((v1.1 + v2) + turn) fun spot1 =>
  (modO spot1 (s1.2.2 + (1 : Int))).bind fun v3 =>
  (ixS lt6 v3).bind fun v4 =>
  (catS s1.2.1 v4).bind fun v5 =>
  if (v3 = s1.2.2) then
  letO (s1.2.2 + (1 : Int)) fun used1 =>
  .next (v1.2, v5, used1) else
  .next (v1.2, v5, s1.2.2)) (s := (d, ['a'], 1)) (fun j s => ∃ B ∈ allB j, s.2.1 = txB B ∧ s.2.2 = (colB B : Int)) ⟨[], List.mem_cons_self, rfl, rfl⟩ fun j hj s hs => by
    obtain ⟨d1, tx, used⟩ := s
    obtain ⟨B, hB, e1, e2⟩ := hs
    dsimp only at e1 e2
    subst e1 e2
    obtain ⟨cb, st⟩ := step7 (by omega) hB
    have ct := allB_ct (by omega) hB
    have tl := txB_len ct (by omega)
    obtain ⟨⟨x, d2⟩, ed, x0, x1⟩ := dO d1 (lim := (colB B : Int) + 1) (by omega) (by omega)
    dsimp only at ed x0 x1
    obtain ⟨v, ev⟩ : ∃ v : Int, ∀ {l w r : Type}, (ixO [(0 : Int), (1 : Int), (2 : Int), (0 : Int), (2 : Int), (1 : Int)] (1 + (j : Int)) : Oc l w r Int) = .next v := ⟨_, fun {_ _ _} => ixO_d 0 (by omega) (by simp; omega)⟩
    have m0 := Int.emod_nonneg (x + v + turn) (show (colB B : Int) + 1 ≠ 0 by omega)
    have m1 := Int.emod_lt_of_pos (x + v + turn) (show (0 : Int) < (colB B : Int) + 1 by omega)
    obtain ⟨p, hp⟩ : ∃ p : Nat, (x + v + turn) % ((colB B : Int) + 1) = (p : Int) := ⟨((x + v + turn) % ((colB B : Int) + 1)).toNat, by omega⟩
    obtain ⟨B', h', q1, q2⟩ := st p (by omega)
    refine ⟨(d2, txB B', (colB B' : Int)), .inl ?_, B', h', rfl, rfl⟩
    dsimp only
    rw [ed, callI_ret, Oc.bind_next]
    dsimp only
    rw [ev, Oc.bind_next, letO_eq, modO_ok (by omega), Oc.bind_next, hp, ixS_l (by omega), Oc.bind_next, catS_ok (by rw [List.length_singleton]; omega), Oc.bind_next, ← q1, q2]
    by_cases z : p = colB B
    · rw [if_pos (by omega), letO_eq, if_pos z]; rfl
    · rw [if_neg (by omega), if_neg z]
  dsimp only at etx eu
  refine ⟨B, d', ?_, allB_ct n5 hB⟩
  unfold t_l_coat_text
  rw [letO_eq, rngO_ok (by omega), Oc.bind_next, show ((N : Int) + 1 - 1).toNat = N by omega, es, Oc.bind_next]
  dsimp only
  rw [etx]; rfl
end
end MV
namespace MV
open PySem PySem.Spec PyProof.Rows L2 He
section
variable {l w r ν : Type} {Γ : List Sl} {C : Sur l w r} {P : ν → Sr → Prop} {t : Oc l w r ν} {f g : Sem1} {k : Sv → En → Sr} {i : Nat} {c c' : Str} {m : Md} {fs : List (Str × Vl)} {d : Vl}
theorem c_chT {b : En → Bool} (hb : ∀ ρ, EnvR Γ ρ → b ρ = true) (h : RS Γ (fun ρ => bndS (f ρ) k) t C P) : RS Γ (fun ρ => bndS (fCh b f g ρ) k) t C P := h.congr fun ρ hρ => by
  unfold fCh; rw [if_pos (hb ρ hρ)]
theorem c_chF {b : En → Bool} (hb : ∀ ρ, EnvR Γ ρ → b ρ = false) (h : RS Γ (fun ρ => bndS (g ρ) k) t C P) : RS Γ (fun ρ => bndS (fCh b f g ρ) k) t C P := h.congr fun ρ hρ => by
  unfold fCh; rw [hb ρ hρ, if_neg Bool.false_ne_true]
theorem ch_cls (h0 : Γ[i]? = some (.vl ⟨m, .ins c fs⟩)) : ∀ ρ, EnvR Γ ρ → isCls i c ρ = true := fun ρ hρ => by
  unfold isCls; rw [hρ.var h0]; simp
theorem ch_clsS {z : Str} (h0 : Γ[i]? = some (.vl ⟨m, .str z⟩)) : ∀ ρ, EnvR Γ ρ → isCls i c ρ = false := fun ρ hρ => by
  unfold isCls; rw [hρ.var h0]
end
end MV
namespace MV
open PySem PySem.Spec PyProof.Rows
theorem k_itOS {m : Md} {c fld : Str} {fs : List (Str × Vl)} {x : Vl} {cs : List Char} (hx : x = .ins c fs) (hf : fs.lookup fld = some (eS cs)) : ∀ ρ, kItOS c fld ⟨m, x⟩ ρ = .ok (true, (cs.map fun ch => [ch]).map fun x => sv (eS x)) ρ := fun ρ => by
  subst hx
  show bnd (grd (decide (c ∈ [c])) (match fs.lookup fld with
    | some d => .ok (mk m.kid d) ρ
    | none => .bad)) _ = _
  rw [decide_eq_true (List.mem_singleton.mpr rfl), hf]
  show Rs.ok (true, strL (strOf cs)) ρ = _
  rw [strL_map, List.map_map]; rfl
theorem k_itLO {xs : List Vl} : ∀ ρ, kItL ⟨.own, eL eV xs⟩ ρ = .ok (true, xs.map fun x => Sv.mk .shr (eV x)) ρ := fun ρ => by
  show Rs.ok (true, (xs.map eV).map (mk .shr)) ρ = _
  rw [List.map_map]
  congr 2
  exact List.map_congr_left fun x _ => mk_shr
end MV
namespace MV
open PySem PySem.Spec PyProof.Rows L2 He
def t_l_spoilt_v5 (state1 : Drw) (text1 : (List Char)) : TF Drw (List Char) := Oc.run (ν := Empty) (fun e : Empty => nomatch e) (
  (lenS text1).bind fun v1 =>
  (callI (fun o => o) (t_l_draw state1 (v1 + (1 : Int)))).bind fun v2 =>
  (callI (fun o => o) (t_l_draw v2.2 (16 : Int))).bind fun v3 =>
  (ixS ['b', 'z', 'a', 'g', 'c', 'A', '-', '0', ' ', '\n', '`', '{', 'd', '~', 'e', 'f'] v3.1).bind fun v4 =>
  (callI (fun o => o) (t_l_draw v3.2 (3 : Int))).bind fun v5 =>
  if (v5.1 = (0 : Int)) then (slS text1 none (some v2.1)).bind fun v6 =>
  (catS v6 v4).bind fun v7 =>
  (slS text1 (some (v2.1 + (1 : Int))) none).bind fun v8 =>
  (catS v7 v8).bind fun v9 =>
  .ret v9 v5.2 else
  if (v5.1 = (1 : Int)) then (slS text1 none (some v2.1)).bind fun v10 =>
  (catS v10 v4).bind fun v11 =>
  (slS text1 (some v2.1) none).bind fun v12 =>
  (catS v11 v12).bind fun v13 =>
  .ret v13 v5.2 else
  (slS text1 none (some v2.1)).bind fun v14 =>
  (slS text1 (some (v2.1 + (1 : Int))) none).bind fun v15 =>
  (catS v14 v15).bind fun v16 =>
  .ret v16 v5.2)
def t_l_free (state1 : Drw) : TF Drw (List Char) := Oc.run (ν := Empty) (fun e : Empty => nomatch e) (
  letO ([] : List Char) fun text1 =>
  (callI (fun o => o) (t_l_draw state1 (9 : Int))).bind fun v1 =>
  (rngO 0 ((v1.1 + (4 : Int)) % (9 : Int))).bind fun r1 =>
  (forO (fun (gap1 : Int) (s1 : (Drw × (List Char) × Int)) =>
  (callI (fun o => o) (t_l_draw s1.1 (s1.2.2 + (2 : Int)))).bind fun v2 =>
  (ixS ['a', 'b', 'c', 'd', 'e', 'f', 'g', 'h', 'i', 'j'] v2.1).bind fun v3 =>
  (catS s1.2.1 v3).bind fun v4 =>
  if (v2.1 = s1.2.2) then
  letO (s1.2.2 + (1 : Int)) fun used1 =>
  .next (v2.2, v4, used1) else
  .next (v2.2, v4, s1.2.2)) r1 (v1.2, text1, (0 : Int))).bind fun s2 =>
  .ret s2.2.1 s2.1)
def t_l_long (state1 : Drw) : TF Drw (List Char) := Oc.run (ν := Empty) (fun e : Empty => nomatch e) (
  (callI (fun o => o) (t_l_draw state1 (8 : Int))).bind fun v1 =>
  (ixO [(7 : Int), (0 : Int), (6 : Int), (8 : Int), (9 : Int), (64 : Int), (399 : Int), (400 : Int)] v1.1).bind fun v2 =>
  (mulS ['a', 'b', 'c', 'd', 'e', 'f'] (67 : Int)).bind fun v3 =>
  (callI (fun o => o) (t_l_draw v1.2 (2 : Int))).bind fun v4 =>
  (if (v4.1 = (1 : Int)) then (catS ['z'] v3).bind fun v5 =>
  .next v5 else .next v3 : Oc _ _ _ (List Char)).bind fun q1 =>
  (slS q1 none (some v2)).bind fun v6 =>
  .ret v6 v4.2)
def t_l_due_v3 (text1 : (List Char)) : TF Unit (List Vl) := Oc.run (ν := Empty) (fun e : Empty => nomatch e) (
  (liftO ((lenS text1).bind fun v1 =>
  if ((1 : Int) ≤ v1) then .next (decide (v1 ≤ (6 : Int))) else .next false)).bind fun j1 =>
  if (¬ (j1 = true)) then (lenS text1).bind fun v2 =>
  .ret [(eS ['s', 'i', 'z', 'e']), (eI v2)] () else
  (lenS text1).bind fun v3 =>
  (rngO 0 v3).bind fun r1 =>
  (forO (fun (gap1 : Int) (s1 : Int) =>
  (ixS text1 gap1).bind fun v4 =>
  letO (findC ['a', 'b', 'c', 'd', 'e', 'f'] v4) fun spot1 =>
  if ((spot1 < (0 : Int)) ∨ (s1 < spot1)) then .ret [(eS ['c', 'o', 'a', 't']), (eI gap1)] () else
  if (spot1 = s1) then
  letO (s1 + (1 : Int)) fun used1 =>
  .next used1 else
  .next s1) r1 (0 : Int)).bind fun s2 =>
  .ret [(eS ['m', 'a', 'd', 'e'])] ())
def t_l_made_v3 (text1 : (List Char)) : TF Unit (List Vl) := Oc.run (ν := Empty) (fun e : Empty => nomatch e) (
  (tryO (fun o => ()) ((callO () (t_Coat___init__ text1)).bind fun v1 =>
  .next ()) (fun c1 fs1 o1 => if (["BadSize"] : List Str).contains c1 then (xfI fs1 "size").bind fun v2 =>
  (repO [['o', 'd', 'd']] (if (List.contains ([] : List Str) c1) then 1 else 0)).bind fun v3 =>
  (catO ([(eS ['s', 'i', 'z', 'e']), (eI v2)].map eV) (v3.map eS)).bind fun v4 =>
  .ret v4 () else if (["BadCoat"] : List Str).contains c1 then if (["BadCoat"] : List Str).contains c1 then (xfI fs1 "index").bind fun v5 =>
  (repO [['o', 'd', 'd']] (if (List.contains ([] : List Str) c1) then 1 else 0)).bind fun v6 =>
  (catO ([(eS ['c', 'o', 'a', 't']), (eI v5)].map eV) (v6.map eS)).bind fun v7 =>
  .ret v7 () else if (["BadSize"] : List Str).contains c1 then .exc c1 fs1 () else .bad else .bad) : Oc _ _ _ Unit).bind fun q1 =>
  .ret [(eS ['m', 'a', 'd', 'e'])] ())
def t_l_numbers_v8 (row1 : (List Vl)) : TF Unit Bool := Oc.run (ν := Empty) (fun e : Empty => nomatch e) (
  (forO (fun (value1 : Vl) (s1 : Unit) =>
  (liftO ((isiO isInt value1).bind fun b1 =>
  if (¬ (b1 = true)) then .next true else (isiO isBl value1).bind fun b2 =>
  .next b2)).bind fun t1 =>
  if (t1 = true) then .ret false () else
  .next ()) (cutD row1 (some (1 : Int)) none) ()).bind fun s2 =>
  .ret true ())
def t_l_base_v16 (text1 : (List Char)) : TF Unit Bool := Oc.run (ν := Empty) (fun e : Empty => nomatch e) (
  (tryO (fun o => ()) ((callO () (t_Coat___init__ text1)).bind fun v1 =>
  .next ()) (fun c1 fs1 o1 => if (["BadSize", "BadCoat"] : List Str).contains c1 then .ret (List.contains (["BadSize", "BadCoat"] : List Str) c1) () else if ([] : List Str).contains c1 then .exc c1 fs1 () else .bad) : Oc _ _ _ Unit).bind fun q1 =>
  .ret false ())
def t_Coat_colours (self1 : C_Coat) : TF Unit Int := Oc.run (ν := Empty) (fun e : Empty => nomatch e) (
  (callO () (t_count_in self1.2 (0 : Int) (self1.2.length : Int))).bind fun v1 =>
  .ret (v1 + (1 : Int)) ())
def t_l_face (coat1 : C_Coat) (text1 : (List Char)) : TF Unit Bool := Oc.run (ν := Empty) (fun e : Empty => nomatch e) (
  (liftO (if (¬ (true = true)) then .next true else (callO () (t_Coat_text coat1)).bind fun v1 =>
  .next (!true))).bind fun t1 =>
  if (t1 = true) then .ret false () else
  (propO (t_Coat_places coat1)).bind fun v2 =>
  (propO (t_Coat_colours coat1)).bind fun v3 =>
  letO [(eS ['f', 'a', 'c', 'e']), (eI v2), (eI v3), (eI (coat1.2.length : Int)), (eI (5 : Int))] fun told1 =>
  (lenS text1).bind fun v4 =>
  (lenSetO text1).bind fun v5 =>
  (lenS text1).bind fun v6 =>
  letO [(eS ['f', 'a', 'c', 'e']), (eI (v4 - (1 : Int))), (eI v5), (eI (v6 - (1 : Int))), (eI (5 : Int))] fun due_here1 =>
  (lmO (coat1.1.map fun ch => [ch]) (fun letter1 => letter1)).bind fun l1 =>
  (liftO ((callO () (t_l_numbers_v8 told1)).bind fun v7 =>
  if (¬ (v7 = true)) then .next true else (neO ((eL eV) told1) ((eL eV) due_here1)).bind fun b1 =>
  .next b1)).bind fun t2 =>
  if (t2 = true) then .ret false () else
  (liftO ((callO () (t_Coat_text coat1)).bind fun v8 =>
  if (v8 = text1) then (lmO (text1.map fun ch => [ch]) (fun letter2 => letter2)).bind fun l2 =>
  .next (decide (l1 = l2)) else .next false)).bind fun j1 =>
  .ret j1 ())
def t_Coat_same (self1 : C_Coat) (first1 : Int) (second1 : Int) : TF Unit Bool := Oc.run (ν := Empty) (fun e : Empty => nomatch e) (
  (forO (fun (gap1 : Int) (s1 : Unit) =>
  if (¬ (((0 : Int) ≤ gap1) ∧ (gap1 ≤ (self1.2.length : Int)))) then .exc "BadNumber" [("number", eI gap1)] () else
  .next ()) [first1, second1] ()).bind fun s2 =>
  (ixS self1.1 first1).bind fun v1 =>
  (ixS self1.1 second1).bind fun v2 =>
  .ret (decide (v1 = v2)) ())
def t_l_alike (coat1 : C_Coat) (first1 : Int) (second1 : Int) : TF Unit (List Vl) := Oc.run (ν := Empty) (fun e : Empty => nomatch e) (
  tryO (fun o => ()) ((callO () (t_Coat_same coat1 first1 second1)).bind fun v1 =>
  .ret [(eS ['s', 'a', 'm', 'e']), (eB v1)] ()) (fun c1 fs1 o1 => if (["BadNumber"] : List Str).contains c1 then (xfI fs1 "number").bind fun v2 =>
  .ret [(eS ['n', 'u', 'm', 'b', 'e', 'r']), (eI v2)] () else if (["BadSize", "BadCoat", "BadStretch", "OutOfWindow"] : List Str).contains c1 then .exc c1 fs1 () else .bad))
def t_l_alike_due (text1 : (List Char)) (first1 : Int) (second1 : Int) : TF Unit (List Vl) := Oc.run (ν := Empty) (fun e : Empty => nomatch e) (
  (forO (fun (gap1 : Int) (s1 : Unit) =>
  (liftO (if ((0 : Int) ≤ gap1) then (lenS text1).bind fun v1 =>
  .next (decide (gap1 < v1)) else .next false)).bind fun j1 =>
  if (¬ (j1 = true)) then .ret [(eS ['n', 'u', 'm', 'b', 'e', 'r']), (eI gap1)] () else
  .next ()) [first1, second1] ()).bind fun s2 =>
  (ixS text1 first1).bind fun v2 =>
  (ixS text1 second1).bind fun v3 =>
  .ret [(eS ['s', 'a', 'm', 'e']), (eB (decide (v2 = v3)))] ())
def t_l_gaps_v2 (coat1 : C_Coat) (text1 : (List Char)) : TF Unit Bool := Oc.run (ν := Empty) (fun e : Empty => nomatch e) (
  (lenS text1).bind fun v1 =>
  (rngO (-(1 : Int)) (v1 + (1 : Int))).bind fun r1 =>
  (forO (fun (first1 : Int) (s1 : Unit) =>
  (lenS text1).bind fun v2 =>
  (rngO (-(1 : Int)) (v2 + (1 : Int))).bind fun r2 =>
  (forO (fun (second1 : Int) (s2 : Unit) =>
  (callO () (t_l_alike coat1 first1 second1)).bind fun v3 =>
  (callO () (t_l_alike_due text1 first1 second1)).bind fun v4 =>
  (liftO ((neO ((eL eV) v3) ((eL eV) v4)).bind fun b1 =>
  if (b1 = true) then .next true else (ixO v3 (1 : Int)).bind fun v5 =>
  (isiO isBl v5).bind fun b2 =>
  (ixO v4 (1 : Int)).bind fun v6 =>
  (isiO isBl v6).bind fun b3 =>
  .next (decide (b2 ≠ b3)))).bind fun t1 =>
  if (t1 = true) then .ret false () else
  .next ()) r2 ()).bind fun s3 =>
  .next ()) r1 ()).bind fun s4 =>
  .ret true ())
def t_l_counted_v2 (coat1 : C_Coat) (begin_here1 : Int) (end1 : Int) : TF Unit (List Vl) := Oc.run (ν := Empty) (fun e : Empty => nomatch e) (
  tryO (fun o => ()) ((callO () (t_Coat_count coat1 begin_here1 end1)).bind fun v1 =>
  .ret [(eS ['c', 'o', 'u', 'n', 't']), (eI v1)] ()) (fun c1 fs1 o1 => if (["BadStretch"] : List Str).contains c1 then (xfI fs1 "begin").bind fun v2 =>
  (xfI fs1 "end").bind fun v3 =>
  (repO [['o', 'd', 'd']] (if (List.contains ([] : List Str) c1) then 1 else 0)).bind fun v4 =>
  (catO ([(eS ['s', 't', 'r', 'e', 't', 'c', 'h']), (eI v2), (eI v3)].map eV) (v4.map eS)).bind fun v5 =>
  .ret v5 () else if (["BadSize", "BadCoat", "OutOfWindow"] : List Str).contains c1 then if (["OutOfWindow"] : List Str).contains c1 then (xfI fs1 "begin").bind fun v6 =>
  (xfI fs1 "end").bind fun v7 =>
  (repO [['o', 'd', 'd']] (if (List.contains ([] : List Str) c1) then 1 else 0)).bind fun v8 =>
  (catO ([(eS ['w', 'i', 'n', 'd', 'o', 'w']), (eI v6), (eI v7)].map eV) (v8.map eS)).bind fun v9 =>
  .ret v9 () else if (["BadSize", "BadCoat", "BadStretch"] : List Str).contains c1 then .exc c1 fs1 () else .bad else .bad))
def t_l_count_due (text1 : (List Char)) (begin_here1 : Int) (end1 : Int) : TF Unit (List Vl) := Oc.run (ν := Empty) (fun e : Empty => nomatch e) (
  if (end1 < begin_here1) then .ret [(eS ['s', 't', 'r', 'e', 't', 'c', 'h']), (eI begin_here1), (eI end1)] () else
  (liftO (if (begin_here1 < (0 : Int)) then .next true else (lenS text1).bind fun v1 =>
  .next (decide (v1 ≤ end1)))).bind fun t1 =>
  if (t1 = true) then .ret [(eS ['w', 'i', 'n', 'd', 'o', 'w']), (eI begin_here1), (eI end1)] () else
  (slS text1 (some begin_here1) (some (end1 + (1 : Int)))).bind fun v2 =>
  (lenSetO v2).bind fun v3 =>
  .ret [(eS ['c', 'o', 'u', 'n', 't']), (eI (v3 - (1 : Int)))] ())
def t_l_stretches (coat1 : C_Coat) (text1 : (List Char)) (far1 : (List Int)) : TF Unit Bool := Oc.run (ν := Empty) (fun e : Empty => nomatch e) (
  (ixO far1 (1 : Int)).bind fun v1 =>
  (ixO far1 (0 : Int)).bind fun v2 =>
  letO [far1, [v1, v2]] fun stretches_here1 =>
  (lenS text1).bind fun v3 =>
  (rngO (-(2 : Int)) (v3 + (2 : Int))).bind fun r1 =>
  (forO (fun (begin_here1 : Int) (s1 : (List (List Int))) =>
  (lenS text1).bind fun v4 =>
  (rngO (-(2 : Int)) (v4 + (2 : Int))).bind fun r2 =>
  (forO (fun (end1 : Int) (s2 : (List (List Int))) =>
  (pushO s2 [begin_here1, end1]).bind fun stretches_here2 =>
  .next stretches_here2) r2 s1).bind fun s3 =>
  .next s3) r1 stretches_here1).bind fun s4 =>
  (forO (fun (stretch1 : (List Int)) (s5 : Unit) =>
  (ixO stretch1 (0 : Int)).bind fun v5 =>
  (ixO stretch1 (1 : Int)).bind fun v6 =>
  (callO () (t_l_counted_v2 coat1 v5 v6)).bind fun v7 =>
  (liftO ((ixO stretch1 (0 : Int)).bind fun v8 =>
  (ixO stretch1 (1 : Int)).bind fun v9 =>
  (callO () (t_l_count_due text1 v8 v9)).bind fun v10 =>
  (neO ((eL eV) v7) ((eL eV) v10)).bind fun b1 =>
  if (b1 = true) then .next true else (callO () (t_l_numbers_v8 v7)).bind fun v11 =>
  .next (!v11))).bind fun t1 =>
  if (t1 = true) then .ret false () else
  .next ()) s4 ()).bind fun s6 =>
  .ret true ())
def t_Coat___eq__ (self1 : C_Coat) (other1 : C_Coat) : TF Unit Bool := Oc.run (ν := Empty) (fun e : Empty => nomatch e) (
  .ret (decide ((true = true) ∧ (self1.1 = other1.1))) ())
def t_l_equal (first1 : C_Coat) (second1 : C_Coat) (due_here1 : Bool) : TF Unit Bool := Oc.run (ν := Empty) (fun e : Empty => nomatch e) (
  (callO () (t_Coat___eq__ first1 second1)).bind fun v1 =>
  .ret (decide ((true = true) ∧ (v1 = due_here1))) ())
def t_Coat___eq___v2 (self1 : C_Coat) (other1 : (List Char)) : TF Unit Bool := Oc.run (ν := Empty) (fun e : Empty => nomatch e) (
  .ret false ())
def t_l_equal_v2 (first1 : C_Coat) (second1 : (List Char)) (due_here1 : Bool) : TF Unit Bool := Oc.run (ν := Empty) (fun e : Empty => nomatch e) (
  (callO () (t_Coat___eq___v2 first1 second1)).bind fun v1 =>
  .ret (decide ((true = true) ∧ (v1 = due_here1))) ())
def t_l_asked_v7 (coat1 : C_Coat) (text1 : (List Char)) (words1 : (List (List Char))) (far1 : (List Int)) : TF Unit Bool := Oc.run (ν := Empty) (fun e : Empty => nomatch e) (
  (liftO ((callO () (t_l_face coat1 text1)).bind fun v1 =>
  if (¬ (v1 = true)) then .next true else (callO () (t_l_gaps_v2 coat1 text1)).bind fun v2 =>
  .next (!v2))).bind fun t1 =>
  if (t1 = true) then .ret false () else
  (callO () (t_l_stretches coat1 text1 far1)).bind fun v3 =>
  if (¬ (v3 = true)) then .ret false () else
  (forO (fun (word1 : (List Char)) (s1 : Unit) =>
  (callO () (t_Coat___init__ word1)).bind fun v4 =>
  (callO () (t_l_equal coat1 v4 (decide (word1 = text1)))).bind fun v5 =>
  if (¬ (v5 = true)) then .ret false () else
  .next ()) words1 ()).bind fun s2 =>
  (callO () (t_l_equal_v2 coat1 text1 false)).bind fun v6 =>
  .ret v6 ())
def t_law_v38 (script1 : (List Int)) : TF Unit Bool := Oc.run (ν := Empty) (fun e : Empty => nomatch e) (
  (callO () (t_l_begin script1)).bind fun v1 =>
  (callI (fun o => ()) (t_l_draw v1 (8 : Int))).bind fun v2 =>
  (callI (fun o => ()) (t_l_draw v2.2 (6 : Int))).bind fun v3 =>
  (ixO [(3 : Int), (5 : Int), (4 : Int), (2 : Int), (1 : Int), (0 : Int)] v3.1).bind fun v4 =>
  (callI (fun o => ()) (t_l_coat_text v3.2 v4 (0 : Int))).bind fun v5 =>
  (if ((v2.1 = (4 : Int)) ∨ (v2.1 = (5 : Int))) then (callI (fun o => ()) (t_l_spoilt_v5 v5.2 v5.1)).bind fun v6 =>
  .next (v6.2, v6.1) else .next (v5.2, v5.1) : Oc _ _ _ (Drw × (List Char))).bind fun q1 =>
  (if (v2.1 = (6 : Int)) then (callI (fun o => ()) (t_l_free q1.1)).bind fun v7 =>
  .next (v7.2, v7.1) else .next (q1.1, q1.2) : Oc _ _ _ (Drw × (List Char))).bind fun q2 =>
  (if (v2.1 = (7 : Int)) then (callI (fun o => ()) (t_l_long q2.1)).bind fun v8 =>
  .next (v8.2, v8.1) else .next (q2.1, q2.2) : Oc _ _ _ (Drw × (List Char))).bind fun q3 =>
  (callI (fun o => ()) (t_l_draw q3.1 (6 : Int))).bind fun v9 =>
  (ixO [(4 : Int), (3 : Int), (5 : Int), (0 : Int), (2 : Int), (1 : Int)] v9.1).bind fun v10 =>
  (callI (fun o => ()) (t_l_coat_text v9.2 v10 (1 : Int))).bind fun v11 =>
  (callI (fun o => ()) (t_l_draw v11.2 (2001 : Int))).bind fun v12 =>
  letO [(((v12.1 + (997 : Int)) % (2001 : Int)) - (1000 : Int))] fun far1 =>
  (callI (fun o => ()) (t_l_draw v12.2 (2001 : Int))).bind fun v13 =>
  (pushO far1 (((v13.1 + (1007 : Int)) % (2001 : Int)) - (1000 : Int))).bind fun far2 =>
  (callO () (t_l_due_v3 q3.2)).bind fun v14 =>
  (callO () (t_l_made_v3 q3.2)).bind fun v15 =>
  (liftO ((neO ((eL eV) v15) ((eL eV) v14)).bind fun b1 =>
  if (b1 = true) then .next true else (callO () (t_l_numbers_v8 v15)).bind fun v16 =>
  .next (!v16))).bind fun t1 =>
  if (t1 = true) then .ret false () else
  letO [v11.1, q3.2] fun words1 =>
  (neO ((eL eV) v14) ((eL eS) [['m', 'a', 'd', 'e']])).bind fun b2 =>
  (if (b2 = true) then letO [v11.1] fun words2 =>
  (callO () (t_l_base_v16 q3.2)).bind fun v17 =>
  if (¬ (v17 = true)) then .ret false () else
  .next words2 else .next words1 : Oc _ _ _ (List (List Char))).bind fun q4 =>
  (compO (fun word1 => (callO () (t_Coat___init__ word1)).bind fun v21 =>
  .next (some v21)) q4 []).bind fun l1 =>
  (forO (fun (turn1 : Int) (s1 : (List Int)) =>
  (rngO 0 (q4.length : Int)).bind fun r1 =>
  (forO (fun (number1 : Int) (s2 : (List Int)) =>
  (ixO l1 number1).bind fun v18 =>
  (ixO q4 number1).bind fun v19 =>
  (callO () (t_l_asked_v7 v18 v19 q4 s2)).bind fun v20 =>
  if (¬ (v20 = true)) then .ret false () else
  .next s2) r1 s1).bind fun s3 =>
  .next s3) (iv 0 (((2 : Int) - 0).toNat)) far2).bind fun s4 =>
  .ret true ())
end MV
namespace MV
open PySem PySem.Spec PyProof.Rows L2 He
def k48F (B : List Int) : Bool := gotB (t_l_face (co B) (txB B)) fun b => b
theorem k48F_all : ∀ N ∈ [0, 1, 2, 3, 4, 5], ∀ B ∈ allB N, k48F B = true := by decide +kernel
def k48G (B : List Int) : Bool := gotB (t_l_gaps_v2 (co B) (txB B)) fun b => b
theorem k48G_all : ∀ N ∈ [0, 1, 2, 3, 4, 5], ∀ B ∈ allB N, k48G B = true := by decide +kernel
def k48C (N : Nat) (B : List Int) : Bool := (List.range (N + 1)).all fun a => (List.range (N + 1 - a)).all fun k => gotB (t_l_count_due (txB B) (a : Int) ((a : Int) + (k : Int))) fun x => match x with
  | [.str s, .int i] => decide (s = strOf ['c', 'o', 'u', 'n', 't']) && decide (i = dc (bfn B) (a : Int) k)
  | _ => false
theorem k48C_all : ∀ N ∈ [0, 1, 2, 3, 4, 5], ∀ B ∈ allB N, k48C N B = true := by decide +kernel
theorem k48L_all : ∀ N ∈ [0, 1, 2, 3, 4, 5], ∀ B ∈ allB N, (txB B).length = N + 1 := by decide +kernel
end MV
namespace MV
open PySem PySem.Spec PyProof.Rows L2 He
abbrev btq (Q : List (Int → Bool)) (e : Nat) (x : Int) : Bool := Q.getD e (fun _ => false) x
section
variable {Q Q' : List (Int → Bool)} {a a' : Int}
structure FitI (Q : List (Int → Bool)) (a : Int) (i K : Nat) (c : List (Nat × Nat)) : Prop where
  asc : c.Pairwise fun x y => x.1 < y.1 ∧ x.2 < y.2
  ok : ∀ x ∈ c, x.1 < i ∧ x.2 < K ∧ btq Q x.1 (a + (x.2 : Int)) = true
theorem FitI.nil {i K : Nat} : FitI Q a i K [] := ⟨List.Pairwise.nil, fun _ h => by cases h⟩
theorem FitI.mono {i j K M : Nat} {c : List (Nat × Nat)} (f : FitI Q a i K c) (hi : i ≤ j) (hK : K ≤ M) : FitI Q a j M c := ⟨f.asc, fun x hx => by
  have := f.ok x hx
  exact ⟨by omega, by omega, this.2.2⟩⟩
def upC (e : Nat) (c : List (Nat × Nat)) : List (Nat × Nat) := c.map fun x => (if x.1 < e then x.1 else x.1 + 1, x.2)
def dnC (e : Nat) (c : List (Nat × Nat)) : List (Nat × Nat) := c.map fun x => (if x.1 < e then x.1 else x.1 - 1, x.2)
theorem bt_cut {e x : Nat} {y : Int} (he : e < Q.length) : btq (Q.take e ++ Q.drop (e + 1)) x y = btq Q (if x < e then x else x + 1) y := by
  show (Q.take e ++ Q.drop (e + 1)).getD x (fun _ => false) y = Q.getD (if x < e then x else x + 1) (fun _ => false) y
  rw [List.getD_eq_getElem?_getD, List.getD_eq_getElem?_getD, List.getElem?_append]
  have lt : (Q.take e).length = e := by rw [List.length_take]; omega
  rw [lt]
  by_cases z : x < e
  · rw [if_pos z, if_pos z, List.getElem?_take, if_pos z]
  · rw [if_neg z, if_neg z, List.getElem?_drop, show e + 1 + (x - e) = x + 1 by omega]
theorem FitI.up {e K : Nat} {c : List (Nat × Nat)} (he : e < Q.length) (f : FitI (Q.take e ++ Q.drop (e + 1)) a (Q.length - 1) K c) : FitI Q a Q.length K (upC e c) ∧ ∀ x ∈ upC e c, x.1 ≠ e := by
  refine ⟨⟨?_, fun x hx => ?_⟩, fun x hx => ?_⟩
  · unfold upC
    rw [List.pairwise_map]
    refine f.asc.imp fun {x y} q => ⟨?_, q.2⟩
    dsimp only
    by_cases z1 : x.1 < e
    · rw [if_pos z1]
      by_cases z2 : y.1 < e
      · rw [if_pos z2]; exact q.1
      · rw [if_neg z2]; omega
    · rw [if_neg z1, if_neg (by omega)]; omega
  · obtain ⟨y, hy, rfl⟩ := List.mem_map.mp hx
    have b := f.ok y hy
    have q := b.2.2
    rw [bt_cut he] at q
    refine ⟨?_, b.2.1, q⟩
    dsimp only
    by_cases z : y.1 < e
    · rw [if_pos z]; omega
    · rw [if_neg z]; omega
  · obtain ⟨y, hy, rfl⟩ := List.mem_map.mp hx
    dsimp only
    by_cases z : y.1 < e
    · rw [if_pos z]; omega
    · rw [if_neg z]; omega
theorem FitI.dn {e K : Nat} {c : List (Nat × Nat)} (he : e < Q.length) (f : FitI Q a Q.length K c) (no : ∀ x ∈ c, x.1 ≠ e) : FitI (Q.take e ++ Q.drop (e + 1)) a (Q.length - 1) K (dnC e c) := by
  refine ⟨?_, fun x hx => ?_⟩
  · unfold dnC
    rw [List.pairwise_map]
    refine f.asc.imp_of_mem fun {x y} hx hy q => ⟨?_, q.2⟩
    have := no x hx
    have := no y hy
    dsimp only
    by_cases z1 : x.1 < e
    · rw [if_pos z1]
      by_cases z2 : y.1 < e
      · rw [if_pos z2]; exact q.1
      · rw [if_neg z2]; omega
    · rw [if_neg z1, if_neg (by omega)]; omega
  · obtain ⟨y, hy, rfl⟩ := List.mem_map.mp hx
    have b := f.ok y hy
    have ne := no y hy
    refine ⟨?_, b.2.1, ?_⟩
    · dsimp only
      by_cases z : y.1 < e
      · rw [if_pos z]; omega
      · rw [if_neg z]; omega
    · rw [bt_cut he]
      dsimp only
      by_cases z : y.1 < e
      · rw [if_pos z, if_pos z]; exact b.2.2
      · rw [if_neg z, if_neg (by omega), show y.1 - 1 + 1 = y.1 by omega]; exact b.2.2
end
end MV
namespace MV
open PySem PySem.Spec PyProof.Rows L2 He
theorem cutl {α : Type} {cs : List α} {x y : Option Int} : (cutD cs x y).length ≤ cs.length := by
  unfold cutD
  rw [List.length_take, List.length_drop]; omega
end MV
namespace MV
open PySem PySem.Spec PyProof.Rows L2 He
theorem l6_find : ∀ p, p < 6 → findC lt6 [lt6.getD p 'a'] = (p : Int) := by decide +kernel
theorem l6_inj : ∀ p, p < 6 → ∀ q, q < 6 → (lt6.getD p 'a' = lt6.getD q 'a' ↔ p = q) := by decide +kernel
theorem l6_take : ∀ p, p < 6 → ∀ q, q < 6 → (lt6.getD p 'a' ∈ lt6.take q ↔ p < q) := by decide +kernel
theorem l6_mem {c : Char} (h : c ∈ lt6) : ∃ p, p < 6 ∧ c = lt6.getD p 'a' := by
  obtain ⟨p, hp, rfl⟩ := List.getElem_of_mem h
  exact ⟨p, hp, by rw [List.getD_eq_getElem?_getD, List.getElem?_eq_getElem hp]; rfl⟩
theorem cut6 {u : Nat} (h : u < 6) {l w r : Type} : (slS lt6 none (some (u : Int)) : Oc l w r (List Char)) = .next (lt6.take u) := by
  have : u = 0 ∨ u = 1 ∨ u = 2 ∨ u = 3 ∨ u = 4 ∨ u = 5 := by omega
  rcases this with rfl | rfl | rfl | rfl | rfl | rfl <;> rfl
def ul48 (T : List Char) : Nat → Nat
  | 0 => 0
  | j + 1 => if T.getD j 'a' = lt6.getD (ul48 T j) 'a' then ul48 T j + 1 else ul48 T j
theorem ul48_le {T : List Char} : ∀ j, ul48 T j ≤ j
  | 0 => Nat.le_refl _
  | j + 1 => by
    have := ul48_le (T := T) j
    show (if T.getD j 'a' = lt6.getD (ul48 T j) 'a' then ul48 T j + 1 else ul48 T j) ≤ _
    split <;> omega
section
variable {T : List Char}
def Bad48 (T : List Char) (j : Nat) : Prop := ∃ h : j < T.length, T[j] ∉ lt6.take (ul48 T j + 1)
theorem getD_at {j : Nat} (h : j < T.length) : T.getD j 'a' = T[j] := by rw [List.getD_eq_getElem?_getD, List.getElem?_eq_getElem h]; rfl
theorem good_at {j : Nat} (l6 : T.length ≤ 6) (h : j < T.length) (g : ¬ Bad48 T j) : ∃ p, p ≤ ul48 T j ∧ p < 6 ∧ T[j] = lt6.getD p 'a' := by
  have u := ul48_le (T := T) j
  have m : T[j] ∈ lt6.take (ul48 T j + 1) := Classical.byContradiction fun z => g ⟨h, z⟩
  obtain ⟨p, p6, e⟩ := l6_mem (List.mem_of_mem_take m)
  by_cases z : ul48 T j + 1 < 6
  · rw [e] at m
    have := (l6_take p p6 _ z).mp m
    exact ⟨p, by omega, p6, e⟩
  · exact ⟨p, by omega, p6, e⟩
theorem due_step {j : Nat} (l6 : T.length ≤ 6) (h : j < T.length) (g : ¬ Bad48 T j) {l : Type} : ((ixS T (j : Int)).bind fun v4 =>
  letO (findC lt6 v4) fun spot1 =>
  if ((spot1 < (0 : Int)) ∨ ((ul48 T j : Int) < spot1)) then .ret [(eS ['c', 'o', 'a', 't']), (eI (j : Int))] () else
  if (spot1 = (ul48 T j : Int)) then
  letO ((ul48 T j : Int) + (1 : Int)) fun used1 =>
  .next used1 else
  .next (ul48 T j : Int) : Oc l Unit (List Vl) Int) = .next (ul48 T (j + 1) : Int) := by
  obtain ⟨p, pu, p6, e⟩ := good_at l6 h g
  have u := ul48_le (T := T) j
  rw [ixS_n h (by omega), Oc.bind_next, letO_eq, e, l6_find p p6, if_neg (by omega)]
  have ej : ul48 T (j + 1) = if T.getD j 'a' = lt6.getD (ul48 T j) 'a' then ul48 T j + 1 else ul48 T j := rfl
  rw [ej, getD_at h, e]
  by_cases z : p = ul48 T j
  · rw [if_pos (by omega), letO_eq, if_pos (by rw [z])]; rfl
  · rw [if_neg (by omega), if_neg (fun q => z ((l6_inj p p6 _ (by omega)).mp q))]
theorem bad_find {j : Nat} (l6 : T.length ≤ 6) (h : j < T.length) (g : Bad48 T j) : findC lt6 [T[j]] < 0 ∨ (ul48 T j : Int) < findC lt6 [T[j]] := by
  obtain ⟨_, g⟩ := g
  have u := ul48_le (T := T) j
  by_cases m : T[j] ∈ lt6
  · obtain ⟨p, p6, e⟩ := l6_mem m
    rw [e, l6_find p p6]
    right
    by_cases z : ul48 T j + 1 < 6
    · rw [e] at g
      have := mt (l6_take p p6 _ z).mpr g
      omega
    · have e5 : lt6.take (ul48 T j + 1) = lt6 := List.take_of_length_le (by show 6 ≤ _; omega)
      rw [e5] at g
      exact absurd m g
  · left
    rw [findC_no m]; decide
theorem enm_at {xs : List (List Char)} {j : Nat} (h : j < (enmT xs).length) (h' : j < xs.length) : (enmT xs)[j] = ((j : Int), xs[j]) := (List.getElem?_eq_some_iff.mp (enmT_at h')).2
theorem chk_step {j : Nat} (l6 : T.length ≤ 6) (h : j < T.length) (g : ¬ Bad48 T j) {l : Type} : ((ixS lt6 (ul48 T j : Int)).bind fun v4 =>
  if ([T[j]] = v4) then
  letO ((ul48 T j : Int) + (1 : Int)) fun used1 =>
  .next used1 else
  (slS lt6 none (some (ul48 T j : Int))).bind fun v5 =>
  if (inC [T[j]] v5 ≠ true) then .exc "BadCoat" [("index", eI (j : Int))] () else
  .next (ul48 T j : Int) : Oc l Unit Unit Int) = .next (ul48 T (j + 1) : Int) := by
  obtain ⟨p, pu, p6, e⟩ := good_at l6 h g
  have u := ul48_le (T := T) j
  have ej : ul48 T (j + 1) = if T.getD j 'a' = lt6.getD (ul48 T j) 'a' then ul48 T j + 1 else ul48 T j := rfl
  rw [ixS_l (by omega), Oc.bind_next, ej, getD_at h, e]
  by_cases z : p = ul48 T j
  · rw [if_pos (by rw [z]), letO_eq, if_pos (by rw [z])]; rfl
  · have ne : lt6.getD p 'a' ≠ lt6.getD (ul48 T j) 'a' := fun q => z ((l6_inj p p6 _ (by omega)).mp q)
    rw [if_neg (fun q => ne (List.singleton_inj.mp q)), cut6 (by omega), Oc.bind_next, if_neg (fun q => q (inC1.mpr ((l6_take p p6 _ (by omega)).mpr (by omega)))), if_neg ne]
theorem chk_bad {j : Nat} (l6 : T.length ≤ 6) (h : j < T.length) (g : Bad48 T j) {l : Type} : ((ixS lt6 (ul48 T j : Int)).bind fun v4 =>
  if ([T[j]] = v4) then
  letO ((ul48 T j : Int) + (1 : Int)) fun used1 =>
  .next used1 else
  (slS lt6 none (some (ul48 T j : Int))).bind fun v5 =>
  if (inC [T[j]] v5 ≠ true) then .exc "BadCoat" [("index", eI (j : Int))] () else
  .next (ul48 T j : Int) : Oc l Unit Unit Int) = .exc "BadCoat" [("index", eI (j : Int))] () := by
  obtain ⟨_, g⟩ := g
  have u := ul48_le (T := T) j
  have tk : lt6.take (ul48 T j + 1) = lt6.take (ul48 T j) ++ [lt6.getD (ul48 T j) 'a'] := by
    have h6 : ul48 T j < lt6.length := by show _ < 6; omega
    rw [List.take_succ, List.getElem?_eq_getElem h6, List.getD_eq_getElem?_getD, List.getElem?_eq_getElem h6]; rfl
  rw [tk, List.mem_append, not_or] at g
  rw [ixS_l (by omega), Oc.bind_next, if_neg (fun q => g.2 (List.mem_singleton.mpr (List.singleton_inj.mp q))), cut6 (by omega), Oc.bind_next, if_pos (fun q => g.1 (inC1.mp q))]
theorem made_txt (l1 : 1 ≤ T.length) (l6 : T.length ≤ 6) (g : ∀ j, j < T.length → ¬ Bad48 T j) : ∀ j, j < T.length → ∃ B ∈ allB j, T.take (j + 1) = txB B ∧ ul48 T (j + 1) = colB B
  | 0, h => by
    obtain ⟨p, pu, p6, e⟩ := good_at l6 h (g 0 h)
    have p0 : p = 0 := Nat.le_zero.mp pu
    subst p0
    refine ⟨[], List.mem_cons_self, ?_, ?_⟩
    · rw [List.take_succ, List.getElem?_eq_getElem h, e]; rfl
    · show (if T.getD 0 'a' = lt6.getD 0 'a' then 0 + 1 else 0) = _
      rw [getD_at h, e, if_pos rfl]; rfl
  | j + 1, h => by
    obtain ⟨B, hB, e1, e2⟩ := made_txt l1 l6 g j (by omega)
    obtain ⟨p, pu, p6, e⟩ := good_at l6 h (g (j + 1) h)
    have u := ul48_le (T := T) (j + 1)
    obtain ⟨_, st⟩ := step7 (by omega) hB
    obtain ⟨B', h', q1, q2⟩ := st p (by omega)
    refine ⟨B', h', ?_, ?_⟩
    · rw [List.take_succ, List.getElem?_eq_getElem h, e1, e, q1]; rfl
    · show (if T.getD (j + 1) 'a' = lt6.getD (ul48 T (j + 1)) 'a' then ul48 T (j + 1) + 1 else ul48 T (j + 1)) = _
      rw [q2, getD_at h, e]
      by_cases z : p = ul48 T (j + 1)
      · rw [if_pos (by rw [z]), if_pos (by omega), e2]
      · rw [if_neg (fun q => z ((l6_inj p p6 _ (by omega)).mp q)), if_neg (by omega), e2]
theorem lift_sz (lT : T.length ≤ 10000000) {l w r : Type} : (liftO ((lenS T).bind fun v1 => if ((1 : Int) ≤ v1) then .next (decide (v1 ≤ (6 : Int))) else .next false) : Oc l w r Bool) = .next (decide (1 ≤ T.length ∧ T.length ≤ 6)) := by
  rw [lenS_ok lT, Oc.bind_next]
  by_cases a : 1 ≤ T.length
  · rw [if_pos (by omega), liftO_next]
    congr 1
    exact decide_eq_decide.mpr (by omega)
  · rw [if_neg (by omega), liftO_next, decide_eq_false (by omega)]
theorem lift_sz2 (lT : T.length ≤ 10000000) {l w r : Type} : (liftO ((lenS T).bind fun v1 => if ((1 : Int) ≤ v1) then (lenS lt6).bind fun v2 => .next (decide (v1 ≤ v2)) else .next false) : Oc l w r Bool) = .next (decide (1 ≤ T.length ∧ T.length ≤ 6)) := by
  rw [lenS_ok lT, Oc.bind_next]
  by_cases a : 1 ≤ T.length
  · rw [if_pos (by omega), lenS_ok (by decide), Oc.bind_next, liftO_next]
    congr 1
    exact decide_eq_decide.mpr (by show (T.length : Int) ≤ 6 ↔ _; omega)
  · rw [if_neg (by omega), liftO_next, decide_eq_false (by omega)]
theorem text48 (lT : T.length ≤ 1000) : (∃ s : Int, t_l_due_v3 T = .ret [eS ['s', 'i', 'z', 'e'], eI s] () ∧ t_Coat___init__ T = .exc "BadSize" [("size", eI s)] ()) ∨ (∃ s : Int, t_l_due_v3 T = .ret [eS ['c', 'o', 'a', 't'], eI s] () ∧ t_Coat___init__ T = .exc "BadCoat" [("index", eI s)] ()) ∨ (t_l_due_v3 T = .ret [eS ['m', 'a', 'd', 'e']] () ∧ ∃ N B, N ≤ 5 ∧ Ct N B ∧ T = txB B) := by
  by_cases sz : 1 ≤ T.length ∧ T.length ≤ 6
  · obtain ⟨l1, l6⟩ := sz
    right
    rcases least (P := Bad48 T) T.length with ⟨k, hk, hb, hno⟩ | none
    · left
      refine ⟨(k : Int), ?_, ?_⟩
      · unfold t_l_due_v3
        rw [lift_sz (by omega), Oc.bind_next, decide_eq_true ⟨l1, l6⟩, if_neg (by decide), lenS_ok (by omega), Oc.bind_next, rngO_n (by omega), Oc.bind_next, forO_ret (fun j => (ul48 T j : Int)) (k := k) (x := [eS ['c', 'o', 'a', 't'], eI (k : Int)]) (o := ()) (by rw [iv_len]; exact hk) (by rfl) ?hbef ?hat]
        · rfl
        case hbef =>
          intro j hj
          left
          rw [iv_at, Int.zero_add]
          exact due_step l6 (by omega) (hno j hj)
        case hat => rw [iv_at, Int.zero_add, ixS_n hk (by omega), Oc.bind_next, letO_eq, if_pos (bad_find l6 hk hb)]
      · have ck : t_check_text T = .exc "BadCoat" [("index", eI (k : Int))] () := by
          unfold t_check_text
          rw [lift_sz2 (by omega), Oc.bind_next, decide_eq_true ⟨l1, l6⟩, if_neg (by decide), forO_exc (fun j => (ul48 T j : Int)) (k := k) (c := "BadCoat") (fs := [("index", eI (k : Int))]) (o := ()) (by rw [enmT_len, List.length_map]; exact hk) (by rfl) ?hbef ?hat]
          · rfl
          case hbef =>
            intro j hj
            left
            rw [enm_at _ (by rw [List.length_map]; omega), List.getElem_map]
            exact chk_step l6 (by omega) (hno j hj)
          case hat =>
            rw [enm_at _ (by rw [List.length_map]; omega), List.getElem_map]
            exact chk_bad l6 hk hb
        unfold t_Coat___init__
        rw [ck]; rfl
    · right
      refine ⟨?_, ?_⟩
      · unfold t_l_due_v3
        rw [lift_sz (by omega), Oc.bind_next, decide_eq_true ⟨l1, l6⟩, if_neg (by decide), lenS_ok (by omega), Oc.bind_next, rngO_n (by omega), Oc.bind_next, forO_iv0 (fun j => (ul48 T j : Int)) (by rfl) fun j hj => ?_, Oc.bind_next]
        · rfl
        · left
          exact due_step l6 hj (none j hj)
      · obtain ⟨B, hB, e1, _⟩ := made_txt l1 l6 none (T.length - 1) (by omega)
        rw [show T.length - 1 + 1 = T.length by omega, List.take_length] at e1
        exact ⟨T.length - 1, B, by omega, allB_ct (by omega) hB, e1⟩
  · left
    refine ⟨(T.length : Int), ?_, ?_⟩
    · unfold t_l_due_v3
      rw [lift_sz (by omega), Oc.bind_next, decide_eq_false sz, if_pos (by decide), lenS_ok (by omega), Oc.bind_next]; rfl
    · have ck : t_check_text T = .exc "BadSize" [("size", eI (T.length : Int))] () := by
        unfold t_check_text
        rw [lift_sz2 (by omega), Oc.bind_next, decide_eq_false sz, if_pos (by decide), lenS_ok (by omega), Oc.bind_next]; rfl
      unfold t_Coat___init__
      rw [ck]; rfl
end
end MV
namespace MV
open PySem PySem.Spec PyProof.Rows L2 He
section
variable {N : Nat} {B B' : List Int}
theorem face48 (h : Ct N B) (n5 : N ≤ 5) : t_l_face (co B) (txB B) = .ret true () := by
  have c := k48F_all N (inN n5) B (Ct.all N h)
  unfold k48F at c
  obtain ⟨x, o, e, q⟩ := got_ret c
  rw [e, q]
theorem gaps48 (h : Ct N B) (n5 : N ≤ 5) : t_l_gaps_v2 (co B) (txB B) = .ret true () := by
  have c := k48G_all N (inN n5) B (Ct.all N h)
  unfold k48G at c
  obtain ⟨x, o, e, q⟩ := got_ret c
  rw [e, q]
theorem len48 (h : Ct N B) (n5 : N ≤ 5) : (txB B).length = N + 1 := k48L_all N (inN n5) B (Ct.all N h)
abbrev wCnt : List Char := ['c', 'o', 'u', 'n', 't']
theorem inside48 (h : Ct N B) (n5 : N ≤ 5) {a k : Nat} (hk : a + k ≤ N) : t_l_count_due (txB B) (a : Int) ((a : Int) + (k : Int)) = .ret [eS wCnt, eI (dc (bfn B) (a : Int) k)] () := by
  have c := k48C_all N (inN n5) B (Ct.all N h)
  unfold k48C at c
  have c := List.all_eq_true.mp (List.all_eq_true.mp c a (List.mem_range.mpr (by omega))) k (List.mem_range.mpr (by omega))
  obtain ⟨x, o, e, q⟩ := got_ret c
  rw [e]
  split at q
  · rw [Bool.and_eq_true] at q
    rw [of_decide_eq_true q.1, of_decide_eq_true q.2]
    rfl
  · cases q
theorem stretch48 (h : Ct N B) (n5 : N ≤ 5) {x y : Int} : ∃ r, t_l_counted_v2 (co B) x y = .ret r () ∧ t_l_count_due (txB B) x y = .ret r () ∧ (∀ z ∈ r, Tl z) ∧ t_l_numbers_v8 r = .ret true () := by
  have L := len48 h n5
  have tl2' : ∀ {cs : List Char} {i : Int}, ∀ z ∈ [eS cs, eI i], Tl z := fun {cs i} z hz => by
    rcases List.mem_cons.mp hz with q | q
    · exact .inr ⟨_, q⟩
    · exact .inl ⟨_, List.mem_singleton.mp q⟩
  have tl3' : ∀ {cs : List Char} {i j : Int}, ∀ z ∈ [eS cs, eI i, eI j], Tl z := fun {cs i j} z hz => by
    rcases List.mem_cons.mp hz with q | q
    · exact .inr ⟨_, q⟩
    · rcases List.mem_cons.mp q with q | q
      · exact .inl ⟨_, q⟩
      · exact .inl ⟨_, List.mem_singleton.mp q⟩
  by_cases z1 : y < x
  · refine ⟨[eS ['s', 't', 'r', 'e', 't', 'c', 'h'], eI x, eI y], ?_, ?_, tl3', rfl⟩
    · have c : t_Coat_count (co B) x y = .exc "BadStretch" [("end", eI y), ("begin", eI x)] () := by
        unfold t_Coat_count t_check_stretch
        rw [if_pos z1]; rfl
      unfold t_l_counted_v2
      rw [c]; rfl
    · unfold t_l_count_due
      rw [if_pos z1]; rfl
  have cs0 : t_check_stretch x y = .ret () () := by
    unfold t_check_stretch
    rw [if_neg z1]; rfl
  by_cases z2 : x < 0 ∨ (N : Int) < y
  · refine ⟨[eS ['w', 'i', 'n', 'd', 'o', 'w'], eI x, eI y], ?_, ?_, tl3', rfl⟩
    · have c : ∃ f1 f2, t_Coat_count (co B) x y = .exc "OutOfWindow" [(f1, eI (if f1 = "begin" then x else y)), (f2, eI (if f2 = "begin" then x else y))] () ∧ ((f1 = "end" ∧ f2 = "begin") ∨ (f1 = "begin" ∧ f2 = "end")) := by
        refine ⟨"end", "begin", ?_, .inl ⟨rfl, rfl⟩⟩
        unfold t_Coat_count
        rw [cs0, callO_ret, Oc.bind_next, if_pos (by show x < 0 ∨ ((co B).2.length : Int) < y; rw [show (co B).2.length = N from h.len]; exact z2)]
        rfl
      obtain ⟨f1, f2, e, hf⟩ := c
      unfold t_l_counted_v2
      rw [e]
      rcases hf with ⟨rfl, rfl⟩ | ⟨rfl, rfl⟩ <;> rfl
    · unfold t_l_count_due
      rw [if_neg z1]
      have t : ∀ {l : Type}, (liftO (if (x < (0 : Int)) then .next true else (lenS (txB B)).bind fun v1 => .next (decide (v1 ≤ y))) : Oc l Unit (List Vl) Bool) = .next true := by
        intro l
        by_cases q : x < 0
        · rw [if_pos q]; rfl
        · rw [if_neg q, lenS_ok (by omega), Oc.bind_next, decide_eq_true (by omega)]; rfl
      rw [t, Oc.bind_next, if_pos rfl]; rfl
  · obtain ⟨a, ha⟩ : ∃ a : Nat, x = (a : Int) := ⟨x.toNat, by omega⟩
    obtain ⟨k, hk⟩ : ∃ k : Nat, y = (a : Int) + (k : Int) := ⟨(y - x).toNat, by omega⟩
    subst ha hk
    have hN : a + k ≤ N := by omega
    refine ⟨_, ?_, inside48 h n5 hN, tl2', rfl⟩
    unfold t_l_counted_v2
    rw [count5 h n5 hN]; rfl
theorem stretches48 (h : Ct N B) (n5 : N ≤ 5) {u v : Int} : t_l_stretches (co B) (txB B) [u, v] = .ret true () := by
  have L := len48 h n5
  obtain ⟨s, es, hs, _⟩ := forO_inv_iv (l := Empty) (w := Unit) (r := Bool) (a := -2) (n := N + 5) (body := fun (begin_here1 : Int) (s1 : (List (List Int))) =>
  (lenS (txB B)).bind fun v4 =>
  (rngO (-(2 : Int)) (v4 + (2 : Int))).bind fun r2 =>
  (forO (fun (end1 : Int) (s2 : (List (List Int))) =>
  (pushO s2 [begin_here1, end1]).bind fun stretches_here2 =>
  .next stretches_here2) r2 s1).bind fun s3 =>
  .next s3) (s := [[u, v], [v, u]]) (fun j s => (∀ z ∈ s, ∃ x y : Int, z = [x, y]) ∧ s.length ≤ 2 + 10 * j) ⟨fun z hz => by
      simp at hz
      rcases hz with rfl | rfl
      · exact ⟨_, _, rfl⟩
      · exact ⟨_, _, rfl⟩, by simp⟩ (by
    rintro j hj s ⟨hs, ls⟩
    obtain ⟨s', es', hs', ls'⟩ := forO_inv_iv (l := List (List Int)) (w := Unit) (r := Bool) (a := -2) (n := N + 5) (body := fun (end1 : Int) (s2 : (List (List Int))) =>
      (pushO s2 [-2 + (j : Int), end1]).bind fun stretches_here2 =>
      .next stretches_here2) (s := s) (fun i t => (∀ z ∈ t, ∃ x y : Int, z = [x, y]) ∧ t.length ≤ s.length + i) ⟨hs, by omega⟩ (by
        rintro i hi t ⟨ht, lt⟩
        refine ⟨t ++ [[-2 + (j : Int), -2 + (i : Int)]], .inl ?_, fun z hz => ?_, by rw [List.length_append, List.length_singleton]; omega⟩
        · rw [pushO_ok (by omega), Oc.bind_next]
        · rcases List.mem_append.mp hz with q | q
          · exact ht z q
          · exact ⟨_, _, List.mem_singleton.mp q⟩)
    refine ⟨s', .inl ?_, hs', by omega⟩
    rw [lenS_ok (by omega), Oc.bind_next, rngO_ok (by omega), Oc.bind_next, L, show (((N + 1 : Nat) : Int) + 2 - (-2)).toNat = N + 5 by omega, es', Oc.bind_next])
  have i0 : ∀ {l w r : Type} {x y : Int}, (ixO [x, y] (0 : Int) : Oc l w r Int) = .next x := fun {_ _ _ _ _} => rfl
  have i1 : ∀ {l w r : Type} {x y : Int}, (ixO [x, y] (1 : Int) : Oc l w r Int) = .next y := fun {_ _ _ _ _} => rfl
  unfold t_l_stretches
  rw [i1, Oc.bind_next, i0, Oc.bind_next, letO_eq, lenS_ok (by omega), Oc.bind_next, rngO_ok (by omega), Oc.bind_next, L, show (((N + 1 : Nat) : Int) + 2 - (-2)).toNat = N + 5 by omega]
  refine (congrArg (fun z => Oc.run _ (Oc.bind z _)) es).trans ?_
  rw [Oc.bind_next, forO_l (fun _ => ()) (by rfl) fun j hj => ?hb, Oc.bind_next]
  · rfl
  case hb =>
    left
    obtain ⟨x, y, ez⟩ := hs s[j] (List.getElem_mem hj)
    obtain ⟨r, e1, e2, tl, nm⟩ := stretch48 h n5 (x := x) (y := y)
    rw [ez, i0, Oc.bind_next, i1, Oc.bind_next, e1, callO_ret, Oc.bind_next, i0, Oc.bind_next, i1, Oc.bind_next, e2, callO_ret, Oc.bind_next, neO_tl tl, Oc.bind_next, if_neg (by decide), nm, callO_ret, Oc.bind_next, Bool.not_true, liftO_next, Oc.bind_next, if_neg (by decide)]
theorem asked48 (h : Ct N B) (n5 : N ≤ 5) {Ws : List (List Char)} (hW : ∀ w ∈ Ws, ∃ M C, M ≤ 5 ∧ Ct M C ∧ w = txB C) {u v : Int} : t_l_asked_v7 (co B) (txB B) Ws [u, v] = .ret true () := by
  have j0 : ∀ {l : Type}, (liftO ((callO () (t_l_face (co B) (txB B))).bind fun v1 =>
  if (¬ (v1 = true)) then .next true else (callO () (t_l_gaps_v2 (co B) (txB B))).bind fun v2 =>
  .next (!v2)) : Oc l Unit Bool Bool) = .next false := by
    intro l
    rw [face48 h n5, callO_ret, Oc.bind_next, if_neg (by decide), gaps48 h n5, callO_ret, Oc.bind_next]; rfl
  unfold t_l_asked_v7
  rw [j0, Oc.bind_next, if_neg (by decide), stretches48 h n5, callO_ret, Oc.bind_next, if_neg (by decide), forO_l (fun _ => ()) (by rfl) fun j hj => ?hb, Oc.bind_next]
  · rfl
  case hb =>
    left
    obtain ⟨M, C, m5, hC, ew⟩ := hW Ws[j] (List.getElem_mem hj)
    rw [ew, hC.init m5, callO_ret, Oc.bind_next]
    have q : t_l_equal (co B) (txB C, C) (decide (txB C = txB B)) = .ret true () := by
      unfold t_l_equal t_Coat___eq__
      show TF.ret (decide (true = true ∧ decide (true = true ∧ txB B = txB C) = decide (txB C = txB B))) () = _
      rw [decide_eq_true]
      refine ⟨rfl, decide_eq_decide.mpr ⟨fun z => z.2.symm, fun z => ⟨rfl, z.symm⟩⟩⟩
    rw [q, callO_ret, Oc.bind_next, if_neg (by decide)]
end
theorem ch_at {L : List Char} {k : Nat} (hk : k < L.length) (h : L.length ≤ 10000000) : ∃ c, ∀ {l w r : Type}, (ixS L (k : Int) : Oc l w r (List Char)) = .next [c] := ⟨L[k], fun {l w r} => ixS_n hk h⟩
theorem spoilt48 (d : Drw) {T : List Char} (lT : T.length ≤ 10) : ∃ T' d', t_l_spoilt_v5 d T = .ret T' d' ∧ T'.length ≤ 1000 := by
  obtain ⟨⟨r1, d1⟩, e1, a1, c1⟩ := dO d (lim := (T.length : Int) + 1) (by omega) (by omega)
  dsimp only at e1 a1 c1
  obtain ⟨⟨r2, d2⟩, e2, a2, c2⟩ := dO d1 (lim := 16) (by omega) (by omega)
  dsimp only at e2 a2 c2
  obtain ⟨k, rfl⟩ : ∃ k : Nat, r2 = (k : Int) := ⟨r2.toNat, by omega⟩
  obtain ⟨c, hc⟩ : ∃ c, ∀ {l w r : Type}, (ixS ['b', 'z', 'a', 'g', 'c', 'A', '-', '0', ' ', '\n', '`', '{', 'd', '~', 'e', 'f'] (k : Int) : Oc l w r (List Char)) = .next [c] := ch_at (by show k < 16; omega) (by decide)
  obtain ⟨⟨r3, d3⟩, e3, a3, c3⟩ := dO d2 (lim := 3) (by omega) (by omega)
  dsimp only at e3 a3 c3
  have l1 := cutl (cs := T) (x := none) (y := some r1)
  have l2 := cutl (cs := T) (x := some (r1 + 1)) (y := none)
  have l3 := cutl (cs := T) (x := some r1) (y := none)
  unfold t_l_spoilt_v5
  rw [lenS_ok (by omega), Oc.bind_next, e1, callI_ret, Oc.bind_next]
  dsimp only
  rw [e2, callI_ret, Oc.bind_next]
  dsimp only
  rw [hc, Oc.bind_next, e3, callI_ret, Oc.bind_next]
  dsimp only
  by_cases z0 : r3 = 0
  · refine ⟨_, d3, by rw [if_pos z0, slS_ok (by omega), Oc.bind_next, catS_ok (by rw [List.length_singleton]; omega), Oc.bind_next, slS_ok (by omega), Oc.bind_next, catS_ok (by rw [List.length_append, List.length_singleton]; omega), Oc.bind_next]; rfl, ?_⟩
    rw [List.length_append, List.length_append, List.length_singleton]; omega
  by_cases z1 : r3 = 1
  · refine ⟨_, d3, by rw [if_neg z0, if_pos z1, slS_ok (by omega), Oc.bind_next, catS_ok (by rw [List.length_singleton]; omega), Oc.bind_next, slS_ok (by omega), Oc.bind_next, catS_ok (by rw [List.length_append, List.length_singleton]; omega), Oc.bind_next]; rfl, ?_⟩
    rw [List.length_append, List.length_append, List.length_singleton]; omega
  · refine ⟨_, d3, by rw [if_neg z0, if_neg z1, slS_ok (by omega), Oc.bind_next, slS_ok (by omega), Oc.bind_next, catS_ok (by omega), Oc.bind_next]; rfl, ?_⟩
    rw [List.length_append]; omega
theorem free48 (d : Drw) : ∃ T' d', t_l_free d = .ret T' d' ∧ T'.length ≤ 1000 := by
  obtain ⟨⟨r1, d1⟩, e1, a1, c1⟩ := dO d (lim := 9) (by omega) (by omega)
  dsimp only at e1 a1 c1
  have m0 := Int.emod_nonneg (r1 + 4) (show (9 : Int) ≠ 0 by omega)
  have m1 := Int.emod_lt_of_pos (r1 + 4) (show (0 : Int) < 9 by omega)
  obtain ⟨n, hn⟩ : ∃ n : Nat, (r1 + 4) % 9 = (n : Int) := ⟨((r1 + 4) % 9).toNat, by omega⟩
  obtain ⟨⟨d5, T, u⟩, es, lT, k, hk, kj⟩ := forO_inv_iv (l := Empty) (w := Drw) (r := List Char) (a := 0) (n := n) (body := fun (gap1 : Int) (s1 : (Drw × (List Char) × Int)) =>
  (callI (fun o => o) (t_l_draw s1.1 (s1.2.2 + (2 : Int)))).bind fun v2 =>
  (ixS ['a', 'b', 'c', 'd', 'e', 'f', 'g', 'h', 'i', 'j'] v2.1).bind fun v3 =>
  (catS s1.2.1 v3).bind fun v4 =>
  if (v2.1 = s1.2.2) then
  letO (s1.2.2 + (1 : Int)) fun used1 =>
  .next (v2.2, v4, used1) else
  .next (v2.2, v4, s1.2.2)) (s := (d1, [], 0)) (fun j s => s.2.1.length ≤ j ∧ ∃ k : Nat, s.2.2 = (k : Int) ∧ k ≤ j) ⟨by simp, 0, rfl, Nat.le_refl _⟩ (by
    rintro j hj ⟨d5, T, u⟩ ⟨lT, k, hk, kj⟩
    dsimp only at lT hk
    subst hk
    obtain ⟨⟨r6, d6⟩, e6, a6, c6⟩ := dO d5 (lim := (k : Int) + 2) (by omega) (by omega)
    dsimp only at e6 a6 c6
    obtain ⟨p, rfl⟩ : ∃ p : Nat, r6 = (p : Int) := ⟨r6.toNat, by omega⟩
    obtain ⟨c, hc⟩ : ∃ c, ∀ {l w r : Type}, (ixS ['a', 'b', 'c', 'd', 'e', 'f', 'g', 'h', 'i', 'j'] (p : Int) : Oc l w r (List Char)) = .next [c] := ch_at (by show p < 10; omega) (by decide)
    by_cases z : p = k
    · refine ⟨(d6, T ++ [c], ((k + 1 : Nat) : Int)), .inl ?_, by rw [List.length_append, List.length_singleton]; omega, k + 1, rfl, by omega⟩
      dsimp only
      rw [e6, callI_ret, Oc.bind_next]
      dsimp only
      rw [hc, Oc.bind_next, catS_ok (by rw [List.length_singleton]; omega), Oc.bind_next, if_pos (by omega), letO_eq]; rfl
    · refine ⟨(d6, T ++ [c], (k : Int)), .inl ?_, by rw [List.length_append, List.length_singleton]; omega, k, rfl, by omega⟩
      dsimp only
      rw [e6, callI_ret, Oc.bind_next]
      dsimp only
      rw [hc, Oc.bind_next, catS_ok (by rw [List.length_singleton]; omega), Oc.bind_next, if_neg (by omega)])
  dsimp only at es lT
  refine ⟨T, d5, ?_, by omega⟩
  unfold t_l_free
  rw [letO_eq, e1, callI_ret, Oc.bind_next]
  dsimp only
  rw [hn, rngO_n (by omega), Oc.bind_next]
  refine (congrArg (fun z => Oc.run _ (Oc.bind z _)) es).trans ?_
  rw [Oc.bind_next]; rfl
theorem long48 (d : Drw) : ∃ T' d', t_l_long d = .ret T' d' ∧ T'.length ≤ 1000 := by
  obtain ⟨⟨r1, d1⟩, e1, a1, c1⟩ := dO d (lim := 8) (by omega) (by omega)
  dsimp only at e1 a1 c1
  obtain ⟨v, hv⟩ : ∃ v : Int, ∀ {l w r : Type}, (ixO [(7 : Int), (0 : Int), (6 : Int), (8 : Int), (9 : Int), (64 : Int), (399 : Int), (400 : Int)] r1 : Oc l w r Int) = .next v := ⟨_, fun {_ _ _} => ixO_d 0 (by omega) (by simp; omega)⟩
  obtain ⟨⟨r2, d2⟩, e2, a2, c2⟩ := dO d1 (lim := 2) (by omega) (by omega)
  dsimp only at e2 a2 c2
  obtain ⟨L, lL, mL⟩ : ∃ L : List Char, L.length = 402 ∧ ∀ {l w r : Type}, (mulS ['a', 'b', 'c', 'd', 'e', 'f'] (67 : Int) : Oc l w r (List Char)) = .next L := by
    refine ⟨(List.replicate 67 ['a', 'b', 'c', 'd', 'e', 'f']).flatten, by decide +kernel, fun {l w r} => ?_⟩
    unfold mulS
    rw [if_pos ⟨by omega, by omega, by decide⟩]; rfl
  obtain ⟨Q, lQ, eQ⟩ : ∃ Q : List Char, Q.length ≤ 403 ∧ ∀ {l w r : Type}, (if (r2 = (1 : Int)) then (catS ['z'] L).bind fun v5 => .next v5 else .next L : Oc l w r (List Char)) = .next Q := by
    by_cases z : r2 = 1
    · exact ⟨['z'] ++ L, by rw [List.length_append, lL]; simp, fun {l w r} => by rw [if_pos z, catS_ok (by rw [lL]; simp), Oc.bind_next]⟩
    · exact ⟨L, by omega, fun {l w r} => by rw [if_neg z]⟩
  have l1 := cutl (cs := Q) (x := none) (y := some v)
  refine ⟨cutD Q none (some v), d2, ?_, by omega⟩
  unfold t_l_long
  rw [e1, callI_ret, Oc.bind_next]
  dsimp only
  rw [hv, Oc.bind_next, mL, Oc.bind_next, e2, callI_ret, Oc.bind_next]
  dsimp only
  rw [eQ, Oc.bind_next, slS_ok (by omega), Oc.bind_next]; rfl
theorem tl2k {cs : List Char} {i : Int} : ∀ z ∈ [eS cs, eI i], Tl z := fun z hz => by
  rcases List.mem_cons.mp hz with q | q
  · exact .inr ⟨_, q⟩
  · exact .inl ⟨_, List.mem_singleton.mp q⟩
theorem tl1k {cs : List Char} : ∀ z ∈ [eS cs], Tl z := fun z hz => .inr ⟨_, List.mem_singleton.mp hz⟩
theorem ne_made {l w r : Type} : (neO (eL eV [eS ['m', 'a', 'd', 'e']]) (eL eS [['m', 'a', 'd', 'e']]) : Oc l w r Bool) = .next false := by
  have : (eL eS [['m', 'a', 'd', 'e']]) = (eL eV [eS ['m', 'a', 'd', 'e']]) := rfl
  rw [this]; exact neO_tl tl1k
theorem shp {xs : List Vl} (h : ∀ x ∈ xs, Tl x) : toD (eL eV xs) = .list (toDs xs) ∧ SeqAt.shaped (toD (eL eV xs)) = true := by
  obtain ⟨h1, h2, _⟩ := tl_all h
  have e : toD (eL eV xs) = .list (toDs xs) := by
    show PyData.list (toDs (xs.map id)) = _
    rw [List.map_id]
  refine ⟨e, ?_⟩
  rw [e]
  show (PyData.canLayAll0 (toDs xs) && decide (PyData.depth (.list (toDs xs)) ≤ 64)) = true
  rw [h1, decide_eq_true (by simp only [PyData.depth]; omega)]; rfl
theorem eqO_21 {l w r : Type} {x y z : Vl} (h1 : ∀ v ∈ [x, y], Tl v) (h2 : ∀ v ∈ [z], Tl v) : (eqO (eL eV [x, y]) (eL eV [z]) : Oc l w r Bool) = .next false := by
  obtain ⟨e1, s1⟩ := shp h1
  obtain ⟨e2, s2⟩ := shp h2
  unfold eqO cEq veq
  rw [s1, s2, e1, e2]
  show (if (true && true) = true then Oc.next (PyData.eqvAll (toDs [x, y]) (toDs [z])) else .bad) = _
  have : PyData.eqvAll (toDs [x, y]) (toDs [z]) = false := by
    show (PyData.eqv (toD x) (toD z) && PyData.eqvAll (toDs [y]) []) = false
    rw [show PyData.eqvAll (toDs [y]) [] = false from rfl, Bool.and_false]
  rw [this]; rfl
theorem neO_21 {l w r : Type} {x y z : Vl} (h1 : ∀ v ∈ [x, y], Tl v) (h2 : ∀ v ∈ [z], Tl v) : (neO (eL eV [x, y]) (eL eV [z]) : Oc l w r Bool) = .next true := by
  have e := eqO_21 (l := l) (w := w) (r := r) h1 h2
  unfold eqO at e
  unfold neO
  by_cases c : cEq (eL eV [x, y]) (eL eV [z]) = true
  · rw [if_pos c] at e ⊢
    rw [Oc.next.inj e]; rfl
  · rw [if_neg c] at e; cases e
theorem ne_due {l w r : Type} {cs : List Char} {i : Int} : (neO (eL eV [eS cs, eI i]) (eL eS [['m', 'a', 'd', 'e']]) : Oc l w r Bool) = .next true := by
  have : (eL eS [['m', 'a', 'd', 'e']]) = (eL eV [eS ['m', 'a', 'd', 'e']]) := rfl
  rw [this]; exact neO_21 tl2k tl1k
theorem text_any (d : Drw) {mode : Int} (m0 : 0 ≤ mode) (m8 : mode < 8) {B : List Int} {N : Nat} (h : Ct N B) (n5 : N ≤ 5) : ∃ T d', T.length ≤ 1000 ∧ ∀ {r : Type} {u : Drw × List Char → Oc Empty Unit Bool r},
    (((if ((mode = (4 : Int)) ∨ (mode = (5 : Int))) then (callI (fun o => ()) (t_l_spoilt_v5 d (txB B))).bind fun v6 => .next (v6.2, v6.1) else .next (d, txB B) : Oc Empty Unit Bool (Drw × (List Char))).bind fun q1 =>
  (if (mode = (6 : Int)) then (callI (fun o => ()) (t_l_free q1.1)).bind fun v7 => .next (v7.2, v7.1) else .next (q1.1, q1.2) : Oc Empty Unit Bool (Drw × (List Char))).bind fun q2 =>
  (if (mode = (7 : Int)) then (callI (fun o => ()) (t_l_long q2.1)).bind fun v8 => .next (v8.2, v8.1) else .next (q2.1, q2.2) : Oc Empty Unit Bool (Drw × (List Char))).bind u) : Oc Empty Unit Bool r) = u (d', T) := by
  have L := len48 h n5
  by_cases z1 : mode = 4 ∨ mode = 5
  · obtain ⟨T, d', e, l⟩ := spoilt48 d (T := txB B) (by omega)
    exact ⟨T, d', l, fun {r u} => by rw [if_pos z1, e, callI_ret, Oc.bind_next, Oc.bind_next, if_neg (by omega), Oc.bind_next, if_neg (by omega), Oc.bind_next]⟩
  by_cases z2 : mode = 6
  · obtain ⟨T, d', e, l⟩ := free48 d
    refine ⟨T, d', l, fun {r u} => ?_⟩
    rw [if_neg z1, Oc.bind_next, if_pos z2]
    dsimp only
    rw [e, callI_ret, Oc.bind_next, Oc.bind_next, if_neg (by omega), Oc.bind_next]
  by_cases z3 : mode = 7
  · obtain ⟨T, d', e, l⟩ := long48 d
    refine ⟨T, d', l, fun {r u} => ?_⟩
    rw [if_neg z1, Oc.bind_next, if_neg z2, Oc.bind_next, if_pos z3]
    dsimp only
    rw [e, callI_ret, Oc.bind_next, Oc.bind_next]
  · exact ⟨txB B, d, by omega, fun {r u} => by rw [if_neg z1, Oc.bind_next, if_neg z2, Oc.bind_next, if_neg z3, Oc.bind_next]⟩
theorem six48 {r1 : Int} (a : 0 ≤ r1) (b : r1 < 6) {p0 p1 p2 p3 p4 p5 : Nat} (h0 : p0 ≤ 5) (h1 : p1 ≤ 5) (h2 : p2 ≤ 5) (h3 : p3 ≤ 5) (h4 : p4 ≤ 5) (h5 : p5 ≤ 5) : ∃ n : Nat, n ≤ 5 ∧ ∀ {l w r : Type}, (ixO [(p0 : Int), (p1 : Int), (p2 : Int), (p3 : Int), (p4 : Int), (p5 : Int)] r1 : Oc l w r Int) = .next (n : Int) := by
  have : r1 = 0 ∨ r1 = 1 ∨ r1 = 2 ∨ r1 = 3 ∨ r1 = 4 ∨ r1 = 5 := by omega
  rcases this with rfl | rfl | rfl | rfl | rfl | rfl
  · exact ⟨p0, h0, fun {_ _ _} => rfl⟩
  · exact ⟨p1, h1, fun {_ _ _} => rfl⟩
  · exact ⟨p2, h2, fun {_ _ _} => rfl⟩
  · exact ⟨p3, h3, fun {_ _ _} => rfl⟩
  · exact ⟨p4, h4, fun {_ _ _} => rfl⟩
  · exact ⟨p5, h5, fun {_ _ _} => rfl⟩
theorem twice48 {Ws : List (List Char)} (hW : ∀ w ∈ Ws, ∃ M C, M ≤ 5 ∧ Ct M C ∧ w = txB C) (lW : Ws.length ≤ 100) {u v : Int} : ((compO (fun word1 => (callO () (t_Coat___init__ word1)).bind fun v21 =>
  .next (some v21)) Ws []).bind fun l1 =>
  (forO (fun (turn1 : Int) (s1 : (List Int)) =>
  (rngO 0 (Ws.length : Int)).bind fun r1 =>
  (forO (fun (number1 : Int) (s2 : (List Int)) =>
  (ixO l1 number1).bind fun v18 =>
  (ixO Ws number1).bind fun v19 =>
  (callO () (t_l_asked_v7 v18 v19 Ws s2)).bind fun v20 =>
  if (¬ (v20 = true)) then .ret false () else
  .next s2) r1 s1).bind fun s3 =>
  .next s3) (iv 0 (((2 : Int) - 0).toNat)) [u, v]).bind fun s4 =>
  .ret true () : Oc Empty Unit Bool Empty) = .ret true () := by
  rw [compO_map (g := fun w => (w, match t_Coat___init__ w with | .ret c _ => c.2 | _ => [])) (fun w hw => ?hm) (by omega), Oc.bind_next, forO_iv0 (fun _ => [u, v]) (by rfl) (fun j hj => ?hb), Oc.bind_next]
  case hm =>
    obtain ⟨M, C, m5, hC, rfl⟩ := hW w hw
    rw [hC.init m5, callO_ret, Oc.bind_next]
  case hb =>
    left
    rw [rngO_n (by omega), Oc.bind_next, forO_iv0 (fun _ => [u, v]) (by rfl) (fun i hi => ?hc), Oc.bind_next]
    case hc =>
      left
      obtain ⟨M, C, m5, hC, ew⟩ := hW Ws[i] (List.getElem_mem hi)
      have g1 : Ws.getD i [] = txB C := by rw [List.getD_eq_getElem?_getD, List.getElem?_eq_getElem hi, ← ew]; rfl
      have g2 : (Ws.map fun w => ((w, match t_Coat___init__ w with | .ret c _ => c.2 | _ => []) : C_Coat)).getD i ([], []) = co C := by
        rw [List.getD_eq_getElem?_getD, List.getElem?_map, List.getElem?_eq_getElem hi, ew]
        show ((txB C, match t_Coat___init__ (txB C) with | .ret c _ => c.2 | _ => []) : C_Coat) = co C
        rw [hC.init m5]; rfl
      rw [ixO_n ([], []) (by rw [List.length_map]; exact hi), Oc.bind_next, g2, ixO_n [] hi, Oc.bind_next, g1, asked48 hC m5 hW, callO_ret, Oc.bind_next, if_neg (by decide)]
theorem law_ok {ns : List Int} (h : ns.length ≤ 63) : t_law_v38 ns = .ret true () := by
  obtain ⟨d0, e0⟩ := begin_ok h
  obtain ⟨⟨m, d1⟩, e1, a1, c1⟩ := dO d0 (lim := 8) (by omega) (by omega)
  dsimp only at e1 a1 c1
  obtain ⟨⟨r2, d2⟩, e2, a2, c2⟩ := dO d1 (lim := 6) (by omega) (by omega)
  dsimp only at e2 a2 c2
  obtain ⟨N, n5, hN⟩ := six48 a2 c2 (p0 := 3) (p1 := 5) (p2 := 4) (p3 := 2) (p4 := 1) (p5 := 0) (by omega) (by omega) (by omega) (by omega) (by omega) (by omega)
  obtain ⟨B, d3, e3, hB⟩ := coat_text5 d2 n5 0 (by omega)
  obtain ⟨T, d4, lT, eT⟩ := text_any d3 a1 c1 hB n5
  obtain ⟨⟨r5, d5⟩, e5, a5, c5⟩ := dO d4 (lim := 6) (by omega) (by omega)
  dsimp only at e5 a5 c5
  obtain ⟨M, m5, hM⟩ := six48 a5 c5 (p0 := 4) (p1 := 3) (p2 := 5) (p3 := 0) (p4 := 2) (p5 := 1) (by omega) (by omega) (by omega) (by omega) (by omega) (by omega)
  obtain ⟨C, d6, e6, hC⟩ := coat_text5 d5 m5 1 (by omega)
  obtain ⟨⟨r7, d7⟩, e7, a7, c7⟩ := dO d6 (lim := 2001) (by omega) (by omega)
  dsimp only at e7 a7 c7
  obtain ⟨⟨r8, d8⟩, e8, a8, c8⟩ := dO d7 (lim := 2001) (by omega) (by omega)
  dsimp only at e8 a8 c8
  have one : ∀ {D : List Int} {K : Nat}, Ct K D → K ≤ 5 → ∀ w ∈ [txB D], ∃ M C, M ≤ 5 ∧ Ct M C ∧ w = txB C := fun {D K} hD k5 w hw => ⟨K, D, k5, hD, List.mem_singleton.mp hw⟩
  unfold t_law_v38
  rw [e0, callO_ret, Oc.bind_next, e1, callI_ret, Oc.bind_next]
  dsimp only
  rw [e2, callI_ret, Oc.bind_next]
  dsimp only
  have hN' : ∀ {l w r : Type}, (ixO [(3 : Int), (5 : Int), (4 : Int), (2 : Int), (1 : Int), (0 : Int)] r2 : Oc l w r Int) = .next (N : Int) := fun {_ _ _} => hN
  have hM' : ∀ {l w r : Type}, (ixO [(4 : Int), (3 : Int), (5 : Int), (0 : Int), (2 : Int), (1 : Int)] r5 : Oc l w r Int) = .next (M : Int) := fun {_ _ _} => hM
  rw [hN', Oc.bind_next, e3, callI_ret, Oc.bind_next]
  dsimp only
  rw [eT]
  dsimp only
  rw [e5, callI_ret, Oc.bind_next]
  dsimp only
  rw [hM', Oc.bind_next, e6, callI_ret, Oc.bind_next]
  dsimp only
  rw [e7, callI_ret, Oc.bind_next]
  dsimp only
  rw [letO_eq, e8, callI_ret, Oc.bind_next]
  dsimp only
  rw [pushO_ok (by simp), Oc.bind_next]
  rcases text48 lT with ⟨s, q1, q2⟩ | ⟨s, q1, q2⟩ | ⟨q1, K, D, k5, hD, eD⟩
  · have md : t_l_made_v3 T = .ret [eS ['s', 'i', 'z', 'e'], eI s] () := by
      unfold t_l_made_v3
      rw [q2]; rfl
    have bs : t_l_base_v16 T = .ret true () := by
      unfold t_l_base_v16
      rw [q2]; rfl
    have nm : t_l_numbers_v8 [eS ['s', 'i', 'z', 'e'], eI s] = .ret true () := rfl
    rw [q1, callO_ret, Oc.bind_next, md, callO_ret, Oc.bind_next, neO_tl tl2k, Oc.bind_next, if_neg (by decide), nm, callO_ret, Oc.bind_next, Bool.not_true, liftO_next, Oc.bind_next, if_neg (by decide), letO_eq, ne_due, Oc.bind_next, if_pos rfl, letO_eq, bs, callO_ret, Oc.bind_next, if_neg (by decide), Oc.bind_next]
    exact congrArg (Oc.run _) (twice48 (one hC m5) (by simp))
  · have md : t_l_made_v3 T = .ret [eS ['c', 'o', 'a', 't'], eI s] () := by
      unfold t_l_made_v3
      rw [q2]; rfl
    have bs : t_l_base_v16 T = .ret true () := by
      unfold t_l_base_v16
      rw [q2]; rfl
    have nm : t_l_numbers_v8 [eS ['c', 'o', 'a', 't'], eI s] = .ret true () := rfl
    rw [q1, callO_ret, Oc.bind_next, md, callO_ret, Oc.bind_next, neO_tl tl2k, Oc.bind_next, if_neg (by decide), nm, callO_ret, Oc.bind_next, Bool.not_true, liftO_next, Oc.bind_next, if_neg (by decide), letO_eq, ne_due, Oc.bind_next, if_pos rfl, letO_eq, bs, callO_ret, Oc.bind_next, if_neg (by decide), Oc.bind_next]
    exact congrArg (Oc.run _) (twice48 (one hC m5) (by simp))
  · subst eD
    have md : t_l_made_v3 (txB D) = .ret [eS ['m', 'a', 'd', 'e']] () := by
      unfold t_l_made_v3
      rw [hD.init k5]; rfl
    have nm : t_l_numbers_v8 [eS ['m', 'a', 'd', 'e']] = .ret true () := rfl
    rw [q1, callO_ret, Oc.bind_next, md, callO_ret, Oc.bind_next, neO_tl tl1k, Oc.bind_next, if_neg (by decide), nm, callO_ret, Oc.bind_next, Bool.not_true, liftO_next, Oc.bind_next, if_neg (by decide), letO_eq, ne_made, Oc.bind_next, if_neg (by decide), Oc.bind_next]
    exact congrArg (Oc.run _) (twice48 (fun w hw => by
      simp at hw
      rcases hw with rfl | rfl
      · exact ⟨M, C, m5, hC, rfl⟩
      · exact ⟨K, D, k5, hD, rfl⟩) (by simp))
end MV
namespace MV
open PySem PySem.Spec PyProof.Rows L2 He
section
variable {P : Program} {w : World} {K : PySem.W.Frag} {mg : Str → Option Value} {base : Heap}
theorem scx_BadNumber : FnScope ["self", "number"] ["self", "number"] (defScope (inClass (top 6) 0)) := ⟨rfl, rfl, rfl, by decide +kernel, rfl, by decide +kernel, by decide +kernel⟩
theorem okx_BadNumber (Z : Fz fa fn K mg) : FnC P w K mg base 1 (ma K (ga K "BadNumber") "__init__") (spX ["number"] K) := by
  obtain ⟨fd, F⟩ := Z.c.def_ ix_x_BadNumber (d := d_x_BadNumber) rfl
  exact ⟨⟨fd, ["self", "number"], fn_ex1 F scx_BadNumber (.inl rfl) (.inl rfl), F.bindsN fun _ _ _ _ _ _ us hl => match us, hl with | [_, _], _ => rfl⟩, F.kp⟩
theorem scx_OutOfWindow : FnScope ["self", "begin", "end"] ["self", "begin", "end"] (defScope (inClass (top 5) 0)) := ⟨rfl, rfl, rfl, by decide +kernel, rfl, by decide +kernel, by decide +kernel⟩
theorem okx_OutOfWindow (Z : Fz fa fn K mg) : FnC P w K mg base 1 (ma K (ga K "OutOfWindow") "__init__") (spX ["begin", "end"] K) := by
  obtain ⟨fd, F⟩ := Z.c.def_ ix_x_OutOfWindow (d := d_x_OutOfWindow) rfl
  exact ⟨⟨fd, ["self", "begin", "end"], fn_ex2 F scx_OutOfWindow (.inl rfl) (.inl rfl) (.inl rfl), F.bindsN fun _ _ _ _ _ _ us hl => match us, hl with | [_, _, _], _ => rfl⟩, F.kp⟩
theorem scx_BadStretch : FnScope ["self", "begin", "end"] ["self", "begin", "end"] (defScope (inClass (top 4) 0)) := ⟨rfl, rfl, rfl, by decide +kernel, rfl, by decide +kernel, by decide +kernel⟩
theorem okx_BadStretch (Z : Fz fa fn K mg) : FnC P w K mg base 1 (ma K (ga K "BadStretch") "__init__") (spX ["begin", "end"] K) := by
  obtain ⟨fd, F⟩ := Z.c.def_ ix_x_BadStretch (d := d_x_BadStretch) rfl
  exact ⟨⟨fd, ["self", "begin", "end"], fn_ex2 F scx_BadStretch (.inl rfl) (.inl rfl) (.inl rfl), F.bindsN fun _ _ _ _ _ _ us hl => match us, hl with | [_, _, _], _ => rfl⟩, F.kp⟩
theorem scx_BadCoat : FnScope ["self", "index"] ["self", "index"] (defScope (inClass (top 9) 0)) := ⟨rfl, rfl, rfl, by decide +kernel, rfl, by decide +kernel, by decide +kernel⟩
theorem okx_BadCoat (Z : Fz fa fn K mg) : FnC P w K mg base 1 (ma K (ga K "BadCoat") "__init__") (spX ["index"] K) := by
  obtain ⟨fd, F⟩ := Z.c.def_ ix_x_BadCoat (d := d_x_BadCoat) rfl
  exact ⟨⟨fd, ["self", "index"], fn_ex1 F scx_BadCoat (.inl rfl) (.inl rfl), F.bindsN fun _ _ _ _ _ _ us hl => match us, hl with | [_, _], _ => rfl⟩, F.kp⟩
theorem scx_BadSize : FnScope ["self", "size"] ["self", "size"] (defScope (inClass (top 3) 0)) := ⟨rfl, rfl, rfl, by decide +kernel, rfl, by decide +kernel, by decide +kernel⟩
theorem okx_BadSize (Z : Fz fa fn K mg) : FnC P w K mg base 1 (ma K (ga K "BadSize") "__init__") (spX ["size"] K) := by
  obtain ⟨fd, F⟩ := Z.c.def_ ix_x_BadSize (d := d_x_BadSize) rfl
  exact ⟨⟨fd, ["self", "size"], fn_ex1 F scx_BadSize (.inl rfl) (.inl rfl), F.bindsN fun _ _ _ _ _ _ us hl => match us, hl with | [_, _], _ => rfl⟩, F.kp⟩
def s_l_begin : SemS := (sRet (fLst (aEx (fC (.int 0)) (aEx (fC (.int 0)) (aEx (fFrz (fLc true [1] (iSrc (fSl true true (fVar 0) fNoP (fPart (fC (.int 63)))) kItL) (gNm 1) bYes (fFrz (fOne (fVar 1) (kS1 gInt))))) aNil)))))
def fn_l_begin : Fn := runB [.bor] true 2 s_l_begin
theorem sc_l_begin : FnScope ["_law_script", "_law_cell"] ["_law_script"] (defScope (top 31)) := ⟨rfl, rfl, rfl, by decide +kernel, rfl, by decide +kernel, by decide +kernel⟩
theorem okf_l_begin (Z : Fz fa fn K mg) {fd : FuncData} (F : FunD K d_l_begin.name d_l_begin.qual d_l_begin.params d_l_begin.body d_l_begin.scope (d_l_begin.dvs K) [] (d_l_begin.ad K) fd) : FnOk P w K mg base (L2N.CX P w) 1 (ga K "_law_begin") fd ["_law_script"] (spF K [.bor] true fn_l_begin) := by
  have nd := sc_l_begin.nd
  refine fn_mv F sc_l_begin rfl fun cdv A outer s H E J hK hfx hr => ?_
  have tk := @tk_cx P w K mg base ["_law_script", "_law_cell"] "_law_begin" (defScope (top 31)) (ga K "_law_begin") cdv A outer s H E
  have po := @po_cx P w K mg base ["_law_script", "_law_cell"] "_law_begin" (defScope (top 31)) (ga K "_law_begin") cdv A outer s H E
  show XB _ J _ (defBody (top 31)) s_l_begin
  exact (xb_one (xs_ret (xe_lst (xa_ex xe_int (xa_ex xe_int (xa_ex (xe_frz (w_lc nd (own := [("_law_cell", 1)]) (ok := (⟨rfl, by decide +kernel, by decide +kernel, by decide +kernel, by decide +kernel⟩ : BlkOk ["_law_script", "_law_cell"] (defScope (top 31)) _ [("_law_cell", 1)])) (xi_list (xe_sl hK w_v xo_none (xo_some xe_int))) (fun _ _ _ _ _ => w_gn) (fun _ _ _ _ _ => xps_nil) (fun _ _ _ _ _ => (xe_frz (w_int (Z.f "int" (Z.c.fact 0 (f := .std (.free "int")) rfl)) w_v))))) xa_nil))))))
theorem ok_l_begin (Z : Fz fa fn K mg) : FnC P w K mg base 1 (ga K "_law_begin") (spF K [.bor] true fn_l_begin) := by
  obtain ⟨fd, F⟩ := Z.c.def_ ix_l_begin (d := d_l_begin) rfl
  exact ⟨⟨fd, ["_law_script"], okf_l_begin Z F, F.bindsN fun _ _ _ _ _ _ us hl => match us, hl with | [_], _ => rfl⟩, F.kp⟩
def s_l_draw : SemS := (sSeq (sAsg 2 (fTwo true (fVar 0) (fC (.int 2)) kIx))
    (sSeq (sWhile (fAnd (fTst (fTwo true (fTwo true (fVar 0) (fC (.int 0)) kIx) (fC (.int 0)) (kS gEq))) (fTst (fTwo true (fTwo true (fVar 0) (fC (.int 1)) kIx) (fOne (fVar 2) (kS1 gLen)) (kS (gB bLt))))) (sSeq (sSet 0 (fC (.int 0)) (fFrz (fOne (fOne (fTwo true (fVar 2) (fTwo true (fVar 0) (fC (.int 1)) kIx) kIx) (kS1 gInt)) (kS1 gAbs))))
    (sSet 0 (fC (.int 1)) (fFrz (fTwo true (fTwo true (fVar 0) (fC (.int 1)) kIx) (fC (.int 1)) kAdd)))))
    (sSeq (sAsg 3 (fFrz (fTwo true (fOne (fTwo true (fVar 0) (fC (.int 0)) kIx) (kS1 gInt)) (fVar 1) (kS (gIc cMod Int.fmod)))))
    (sSeq (sSet 0 (fC (.int 0)) (fFrz (fTwo true (fOne (fTwo true (fVar 0) (fC (.int 0)) kIx) (kS1 gInt)) (fVar 1) (kS (gIc cDiv Int.fdiv)))))
    (sRet (fVar 3))))))
def fn_l_draw : Fn := runB [.io, .bor] false 4 s_l_draw
theorem sc_l_draw : FnScope ["_law_state", "_law_limit", "_law_cells", "_law_value"] ["_law_state", "_law_limit"] (defScope (top 32)) := ⟨rfl, rfl, rfl, by decide +kernel, rfl, by decide +kernel, by decide +kernel⟩
theorem okf_l_draw (Z : Fz fa fn K mg) {fd : FuncData} (F : FunD K d_l_draw.name d_l_draw.qual d_l_draw.params d_l_draw.body d_l_draw.scope (d_l_draw.dvs K) [] (d_l_draw.ad K) fd) : FnOk P w K mg base (L2N.CX P w) 1 (ga K "_law_draw") fd ["_law_state", "_law_limit"] (spF K [.io, .bor] false fn_l_draw) := by
  have nd := sc_l_draw.nd
  refine fn_mv F sc_l_draw rfl fun cdv A outer s H E J hK hfx hr => ?_
  have tk := @tk_cx P w K mg base ["_law_state", "_law_limit", "_law_cells", "_law_value"] "_law_draw" (defScope (top 32)) (ga K "_law_draw") cdv A outer s H E
  have po := @po_cx P w K mg base ["_law_state", "_law_limit", "_law_cells", "_law_value"] "_law_draw" (defScope (top 32)) (ga K "_law_draw") cdv A outer s H E
  show XB _ J _ (defBody (top 32)) s_l_draw
  exact (xb_cons (w_asg nd (xe_idx w_v xe_int))
    (xb_cons (xs_while po (xw_and (t_eq hK (un64 hr) (xe_idx w_v xe_int) xe_int) (xw_and1 (t_lt (xe_idx w_v xe_int) (w_len (Z.f "len" (Z.c.fact 1 (f := .std (.free "len")) rfl)) w_v)))).xt (xb_cons (w_set xe_int (xe_frz (w_abs (Z.f "abs" (Z.c.fact 2 (f := .std (.free "abs")) rfl)) (w_int (Z.f "int" (Z.c.fact 0 (f := .std (.free "int")) rfl)) (xe_idx w_v (xe_idx w_v xe_int))))))
    (xb_one (w_set xe_int (xe_frz (xe_add (xe_idx w_v xe_int) xe_int))))))
    (xb_cons (w_asg nd (xe_frz (xe_mod (w_int (Z.f "int" (Z.c.fact 0 (f := .std (.free "int")) rfl)) (xe_idx w_v xe_int)) w_v)))
    (xb_cons (w_set xe_int (xe_frz (xe_fdiv (w_int (Z.f "int" (Z.c.fact 0 (f := .std (.free "int")) rfl)) (xe_idx w_v xe_int)) w_v)))
    (xb_one (xs_ret w_v))))))
theorem ok_l_draw (Z : Fz fa fn K mg) : FnC P w K mg base 1 (ga K "_law_draw") (spF K [.io, .bor] false fn_l_draw) := by
  obtain ⟨fd, F⟩ := Z.c.def_ ix_l_draw (d := d_l_draw) rfl
  exact ⟨⟨fd, ["_law_state", "_law_limit"], okf_l_draw Z F, F.bindsN fun _ _ _ _ _ _ us hl => match us, hl with | [_, _], _ => rfl⟩, F.kp⟩
def s_l_coat_text : SemS := (sSeq (sAsg 3 (fC (.str "a")))
    (sSeq (sAsg 4 (fC (.int 1)))
    (sSeq (sFor (iR2 (fC (.int 1)) (fTwo true (fVar 1) (fC (.int 1)) kAdd)) (gNm 5) (sSeq (sAsg 6 (fFrz (fTwo true (fTwo true (fCall [.io, .bor] false fn_l_draw (aSl 0 (aEx (fTwo true (fVar 4) (fC (.int 1)) kAdd) aNil))) (fTwo true (fLst (aEx (fC (.int 0)) (aEx (fC (.int 1)) (aEx (fC (.int 2)) (aEx (fC (.int 0)) (aEx (fC (.int 2)) (aEx (fC (.int 1)) aNil))))))) (fVar 5) kIx) kAdd) (fVar 2) kAdd)))
    (sSeq (sAsg 6 (fFrz (fTwo true (fOne (fVar 6) (kS1 gInt)) (fTwo true (fVar 4) (fC (.int 1)) kAdd) (kS (gIc cMod Int.fmod)))))
    (sSeq (sAsg 3 (fFrz (fTwo true (fVar 3) (fTwo true (fC (.str "abcdef")) (fVar 6) kIx) kAdd)))
    (sIf (fTst (fTwo true (fVar 6) (fVar 4) (kS gEq))) (sAsg 4 (fFrz (fTwo true (fVar 4) (fC (.int 1)) kAdd))) sNil)))))
    (sRet (fVar 3)))))
def fn_l_coat_text : Fn := runB [.io, .bor, .bor] false 7 s_l_coat_text
theorem sc_l_coat_text : FnScope ["_law_state", "_law_places", "_law_turn", "_law_text", "_law_used", "_law_gap", "_law_spot"] ["_law_state", "_law_places", "_law_turn"] (defScope (top 33)) := ⟨rfl, rfl, rfl, by decide +kernel, rfl, by decide +kernel, by decide +kernel⟩
theorem okf_l_coat_text (Z : Fz fa fn K mg) {fd : FuncData} (F : FunD K d_l_coat_text.name d_l_coat_text.qual d_l_coat_text.params d_l_coat_text.body d_l_coat_text.scope (d_l_coat_text.dvs K) [] (d_l_coat_text.ad K) fd) : FnOk P w K mg base (L2N.CX P w) 2 (ga K "_law_coat_text") fd ["_law_state", "_law_places", "_law_turn"] (spF K [.io, .bor, .bor] false fn_l_coat_text) := by
  have nd := sc_l_coat_text.nd
  refine fn_mv F sc_l_coat_text rfl fun cdv A outer s H E J hK hfx hr => ?_
  have tk := @tk_cx P w K mg base ["_law_state", "_law_places", "_law_turn", "_law_text", "_law_used", "_law_gap", "_law_spot"] "_law_coat_text" (defScope (top 33)) (ga K "_law_coat_text") cdv A outer s H E
  have po := @po_cx P w K mg base ["_law_state", "_law_places", "_law_turn", "_law_text", "_law_used", "_law_gap", "_law_spot"] "_law_coat_text" (defScope (top 33)) (ga K "_law_coat_text") cdv A outer s H E
  show XB _ J _ (defBody (top 33)) s_l_coat_text
  exact (xb_cons (w_asg nd xe_str)
    (xb_cons (w_asg nd xe_int)
    (xb_cons (w_for po (w_r2 (Z.f "range" (Z.c.fact 3 (f := .std (.free "range")) rfl)) xe_int (xe_add w_v xe_int)) w_gn (xb_cons (w_asg nd (xe_frz (xe_add (xe_add (w_call (ok_l_draw Z) (Z.g "_law_draw" (Z.c.fact 4 (f := .std (.glo "_law_draw")) rfl)) hr tk hK (w_sl (xa_ex (xe_add w_v xe_int) xa_nil))) (xe_idx (xe_lst (xa_ex xe_int (xa_ex xe_int (xa_ex xe_int (xa_ex xe_int (xa_ex xe_int (xa_ex xe_int xa_nil))))))) w_v)) w_v)))
    (xb_cons (w_asg nd (xe_frz (xe_mod (w_int (Z.f "int" (Z.c.fact 0 (f := .std (.free "int")) rfl)) w_v) (xe_add w_v xe_int))))
    (xb_cons (w_asg nd (xe_frz (xe_add w_v (xe_idx xe_str w_v))))
    (xb_one (xs_if (t_eq hK (un64 hr) w_v w_v) (xb_one (w_asg nd (xe_frz (xe_add w_v xe_int)))) xb_nil))))))
    (xb_one (xs_ret w_v)))))
theorem ok_l_coat_text (Z : Fz fa fn K mg) : FnC P w K mg base 2 (ga K "_law_coat_text") (spF K [.io, .bor, .bor] false fn_l_coat_text) := by
  obtain ⟨fd, F⟩ := Z.c.def_ ix_l_coat_text (d := d_l_coat_text) rfl
  exact ⟨⟨fd, ["_law_state", "_law_places", "_law_turn"], okf_l_coat_text Z F, F.bindsN fun _ _ _ _ _ _ us hl => match us, hl with | [_, _, _], _ => rfl⟩, F.kp⟩
def s_l_due : SemS := (sSeq (sIf (fNot (fTst (fChain bLe bLe (fC (.int 1)) (fOne (fVar 0) (kS1 gLen)) (fC (.int 6))))) (sRet (fLst (aEx (fC (.str "size")) (aEx (fFrz (fOne (fVar 0) (kS1 gLen))) aNil)))) sNil)
    (sSeq (sAsg 1 (fC (.int 0)))
    (sSeq (sFor (iR1 (fOne (fVar 0) (kS1 gLen))) (gNm 2) (sSeq (sAsg 3 (fFrz (fStr1 (fC (.str "abcdef")) kFind (fTwo true (fVar 0) (fVar 2) kIx))))
    (sSeq (sIf (fOr (fTst (fTwo true (fVar 3) (fC (.int 0)) (kS (gB bLt)))) (fTst (fTwo true (fVar 3) (fVar 1) (kS (gB bGt))))) (sRet (fLst (aEx (fC (.str "coat")) (aEx (fVar 2) aNil)))) sNil)
    (sIf (fTst (fTwo true (fVar 3) (fVar 1) (kS gEq))) (sAsg 1 (fFrz (fTwo true (fVar 1) (fC (.int 1)) kAdd))) sNil))))
    (sRet (fLst (aEx (fC (.str "made")) aNil))))))
def fn_l_due : Fn := runB [.bor] true 4 s_l_due
theorem sc_l_due : FnScope ["_law_text", "_law_used", "_law_gap", "_law_spot"] ["_law_text"] (defScope (top 37)) := ⟨rfl, rfl, rfl, by decide +kernel, rfl, by decide +kernel, by decide +kernel⟩
theorem okf_l_due (Z : Fz fa fn K mg) {fd : FuncData} (F : FunD K d_l_due.name d_l_due.qual d_l_due.params d_l_due.body d_l_due.scope (d_l_due.dvs K) [] (d_l_due.ad K) fd) : FnOk P w K mg base (L2N.CX P w) 1 (ga K "_law_due") fd ["_law_text"] (spF K [.bor] true fn_l_due) := by
  have nd := sc_l_due.nd
  refine fn_mv F sc_l_due rfl fun cdv A outer s H E J hK hfx hr => ?_
  have tk := @tk_cx P w K mg base ["_law_text", "_law_used", "_law_gap", "_law_spot"] "_law_due" (defScope (top 37)) (ga K "_law_due") cdv A outer s H E
  have po := @po_cx P w K mg base ["_law_text", "_law_used", "_law_gap", "_law_spot"] "_law_due" (defScope (top 37)) (ga K "_law_due") cdv A outer s H E
  show XB _ J _ (defBody (top 37)) s_l_due
  exact (xb_cons (xs_if (xt_not (xt_chain op_le op_le xe_int (w_len (Z.f "len" (Z.c.fact 1 (f := .std (.free "len")) rfl)) w_v) xe_int)) (xb_one (xs_ret (xe_lst (xa_ex xe_str (xa_ex (xe_frz (w_len (Z.f "len" (Z.c.fact 1 (f := .std (.free "len")) rfl)) w_v)) xa_nil))))) xb_nil)
    (xb_cons (w_asg nd xe_int)
    (xb_cons (w_for po (w_r1 (Z.f "range" (Z.c.fact 3 (f := .std (.free "range")) rfl)) (w_len (Z.f "len" (Z.c.fact 1 (f := .std (.free "len")) rfl)) w_v)) w_gn (xb_cons (w_asg nd (xe_frz (w_find xe_str (xe_idx w_v w_v))))
    (xb_cons (xs_if (xw_or (t_lt w_v xe_int) (xw_or1 (t_gt w_v w_v))).xt (xb_one (xs_ret (xe_lst (xa_ex xe_str (xa_ex w_v xa_nil))))) xb_nil)
    (xb_one (xs_if (t_eq hK (un64 hr) w_v w_v) (xb_one (w_asg nd (xe_frz (xe_add w_v xe_int)))) xb_nil)))))
    (xb_one (xs_ret (xe_lst (xa_ex xe_str xa_nil)))))))
theorem ok_l_due (Z : Fz fa fn K mg) : FnC P w K mg base 1 (ga K "_law_due") (spF K [.bor] true fn_l_due) := by
  obtain ⟨fd, F⟩ := Z.c.def_ ix_l_due (d := d_l_due) rfl
  exact ⟨⟨fd, ["_law_text"], okf_l_due Z F, F.bindsN fun _ _ _ _ _ _ us hl => match us, hl with | [_], _ => rfl⟩, F.kp⟩
def s_check_text : SemS := (sSeq (sIf (fNot (fTst (fChain bLe bLe (fC (.int 1)) (fOne (fVar 0) (kS1 gLen)) (fOne (fC (.str "abcdef")) (kS1 gLen))))) (sRaise "BadSize" ["size"] (aEx (fFrz (fOne (fVar 0) (kS1 gLen))) aNil)) sNil)
    (sSeq (sAsg 1 (fC (.int 0)))
    (sFor (iSrc (fVar 0) kItES) (gTp [2, 3]) (sIf (fTst (fTwo true (fVar 3) (fTwo true (fC (.str "abcdef")) (fVar 1) kIx) (kS gEq))) (sAsg 1 (fFrz (fTwo true (fVar 1) (fC (.int 1)) kAdd))) (sIf (fTst (fTwo true (fVar 3) (fSl true true (fC (.str "abcdef")) fNoP (fPart (fVar 1))) (kS (gIn true)))) (sRaise "BadCoat" ["index"] (aSl 2 aNil)) sNil)))))
def fn_check_text : Fn := runB [.bor] true 4 s_check_text
theorem sc_check_text : FnScope ["text", "used", "index", "letter"] ["text"] (defScope (top 27)) := ⟨rfl, rfl, rfl, by decide +kernel, rfl, by decide +kernel, by decide +kernel⟩
theorem okf_check_text (Z : Fz fa fn K mg) {fd : FuncData} (F : FunD K d_check_text.name d_check_text.qual d_check_text.params d_check_text.body d_check_text.scope (d_check_text.dvs K) [] (d_check_text.ad K) fd) : FnOk P w K mg base (L2N.CX P w) 3 (ga K "check_text") fd ["text"] (spF K [.bor] true fn_check_text) := by
  have nd := sc_check_text.nd
  refine fn_mv F sc_check_text rfl fun cdv A outer s H E J hK hfx hr => ?_
  have tk := @tk_cx P w K mg base ["text", "used", "index", "letter"] "check_text" (defScope (top 27)) (ga K "check_text") cdv A outer s H E
  have po := @po_cx P w K mg base ["text", "used", "index", "letter"] "check_text" (defScope (top 27)) (ga K "check_text") cdv A outer s H E
  show XB _ J _ (defBody (top 27)) s_check_text
  exact (xb_cons (xs_if (xt_not (xt_chain op_le op_le xe_int (w_len (Z.f "len" (Z.c.fact 1 (f := .std (.free "len")) rfl)) w_v) (w_len (Z.f "len" (Z.c.fact 1 (f := .std (.free "len")) rfl)) (w_gs (Z.s "LETTERS" "abcdef" (Z.c.fact 5 (f := .std (.str "LETTERS" "abcdef")) rfl)))))) (xb_one (w_raise (xc_ok (Z.c.fact 6 (f := .xc "BadSize" ["size"]) rfl)) (okx_BadSize Z) (Z.g "BadSize" (Z.c.fact 7 (f := .std (.glo "BadSize")) rfl)) hr tk hK (xa_ex (xe_frz (w_len (Z.f "len" (Z.c.fact 1 (f := .std (.free "len")) rfl)) w_v)) xa_nil))) xb_nil)
    (xb_cons (w_asg nd xe_int)
    (xb_one (w_for po (w_enumS (Z.f "enumerate" (Z.c.fact 8 (f := .std (.free "enumerate")) rfl)) w_v) (w_gtp (w_gc (w_gc xgs_nil))) (xb_one (xs_if (t_eq hK (un64 hr) w_v (xe_idx (w_gs (Z.s "LETTERS" "abcdef" (Z.c.fact 5 (f := .std (.str "LETTERS" "abcdef")) rfl))) w_v)) (xb_one (w_asg nd (xe_frz (xe_add w_v xe_int)))) (xb_one (xs_if (t_nin hK w_v (xe_sl hK (w_gs (Z.s "LETTERS" "abcdef" (Z.c.fact 5 (f := .std (.str "LETTERS" "abcdef")) rfl))) xo_none (xo_some w_v))) (xb_one (w_raise (xc_ok (Z.c.fact 9 (f := .xc "BadCoat" ["index"]) rfl)) (okx_BadCoat Z) (Z.g "BadCoat" (Z.c.fact 10 (f := .std (.glo "BadCoat")) rfl)) hr tk hK (w_sl xa_nil))) xb_nil))))))))
theorem ok_check_text (Z : Fz fa fn K mg) : FnC P w K mg base 3 (ga K "check_text") (spF K [.bor] true fn_check_text) := by
  obtain ⟨fd, F⟩ := Z.c.def_ ix_check_text (d := d_check_text) rfl
  exact ⟨⟨fd, ["text"], okf_check_text Z F, F.bindsN fun _ _ _ _ _ _ us hl => match us, hl with | [_], _ => rfl⟩, F.kp⟩
def s_before_of_text : SemS := (sSeq (sAsg 1 (fLst aNil))
    (sSeq (sFor (iR2 (fC (.int 1)) (fOne (fVar 0) (kS1 gLen))) (gNm 2) (sSeq (sAsg 3 (fOne (fC (.int 1)) (kS1 gNeg)))
    (sSeq (sFor (iR1 (fVar 2)) (gNm 4) (sIf (fTst (fTwo true (fTwo true (fVar 0) (fVar 4) kIx) (fTwo true (fVar 0) (fVar 2) kIx) (kS gEq))) (sAsg 3 (fVar 4)) sNil))
    (sExpr (fApp 1 (fVar 3))))))
    (sRet (fMv 1))))
def fn_before_of_text : Fn := runB [.bor] true 5 s_before_of_text
theorem sc_before_of_text : FnScope ["text", "before", "gap", "nearest", "earlier"] ["text"] (defScope (top 15)) := ⟨rfl, rfl, rfl, by decide +kernel, rfl, by decide +kernel, by decide +kernel⟩
theorem okf_before_of_text (Z : Fz fa fn K mg) {fd : FuncData} (F : FunD K d_before_of_text.name d_before_of_text.qual d_before_of_text.params d_before_of_text.body d_before_of_text.scope (d_before_of_text.dvs K) [] (d_before_of_text.ad K) fd) : FnOk P w K mg base (L2N.CX P w) 1 (ga K "before_of_text") fd ["text"] (spF K [.bor] true fn_before_of_text) := by
  have nd := sc_before_of_text.nd
  refine fn_mv F sc_before_of_text rfl fun cdv A outer s H E J hK hfx hr => ?_
  have tk := @tk_cx P w K mg base ["text", "before", "gap", "nearest", "earlier"] "before_of_text" (defScope (top 15)) (ga K "before_of_text") cdv A outer s H E
  have po := @po_cx P w K mg base ["text", "before", "gap", "nearest", "earlier"] "before_of_text" (defScope (top 15)) (ga K "before_of_text") cdv A outer s H E
  show XB _ J _ (defBody (top 15)) s_before_of_text
  exact (xb_cons (w_asg nd (xe_lst xa_nil))
    (xb_cons (w_for po (w_r2 (Z.f "range" (Z.c.fact 3 (f := .std (.free "range")) rfl)) xe_int (w_len (Z.f "len" (Z.c.fact 1 (f := .std (.free "len")) rfl)) w_v)) w_gn (xb_cons (w_asg nd (w_neg xe_int))
    (xb_cons (w_for po (w_r1 (Z.f "range" (Z.c.fact 3 (f := .std (.free "range")) rfl)) w_v) w_gn (xb_one (xs_if (t_eq hK (un64 hr) (xe_idx w_v w_v) (xe_idx w_v w_v)) (xb_one (w_asg nd w_v)) xb_nil)))
    (xb_one (xs_expr (w_app w_v))))))
    (xb_one (xs_ret w_mv))))
theorem ok_before_of_text (Z : Fz fa fn K mg) : FnC P w K mg base 1 (ga K "before_of_text") (spF K [.bor] true fn_before_of_text) := by
  obtain ⟨fd, F⟩ := Z.c.def_ ix_before_of_text (d := d_before_of_text) rfl
  exact ⟨⟨fd, ["text"], okf_before_of_text Z F, F.bindsN fun _ _ _ _ _ _ us hl => match us, hl with | [_], _ => rfl⟩, F.kp⟩
def s_Coat___init__ : SemS := (sSeq (sExpr (fCall [.bor] true fn_check_text (aSl 1 aNil)))
    (sSeq (sFldS 0 "_text" ["Coat"] (fVar 1))
    (sFldS 0 "_before" ["Coat"] (fFrz (fOne (fCall [.bor] true fn_before_of_text (aSl 1 aNil)) kTupOf)))))
def fn_Coat___init__ : Fn := runB [.io, .shr] true 2 s_Coat___init__
theorem sc_Coat___init__ : FnScope ["self", "text"] ["self", "text"] (defScope (inClass (top 29) 1)) := ⟨rfl, rfl, rfl, by decide +kernel, rfl, by decide +kernel, by decide +kernel⟩
theorem okf_Coat___init__ (Z : Fz fa fn K mg) {fd : FuncData} (F : FunD K d_Coat___init__.name d_Coat___init__.qual d_Coat___init__.params d_Coat___init__.body d_Coat___init__.scope (d_Coat___init__.dvs K) [] (d_Coat___init__.ad K) fd) : FnOk P w K mg base (L2N.CX P w) 4 (ma K (ga K "Coat") "__init__") fd ["self", "text"] (spF K [.io, .shr] true fn_Coat___init__) := by
  have nd := sc_Coat___init__.nd
  refine fn_mv F sc_Coat___init__ rfl fun cdv A outer s H E J hK hfx hr => ?_
  have tk := @tk_cx P w K mg base ["self", "text"] "Coat.__init__" (defScope (inClass (top 29) 1)) (ma K (ga K "Coat") "__init__") cdv A outer s H E
  have po := @po_cx P w K mg base ["self", "text"] "Coat.__init__" (defScope (inClass (top 29) 1)) (ma K (ga K "Coat") "__init__") cdv A outer s H E
  show XB _ J _ (defBody (inClass (top 29) 1)) s_Coat___init__
  exact (xb_cons (xs_expr (w_call (ok_check_text Z) (Z.g "check_text" (Z.c.fact 11 (f := .std (.glo "check_text")) rfl)) hr tk hK (w_sl xa_nil)))
    (xb_cons (w_sfld hK (fld_cons (z_cls (Z.c.fact 12 (f := .std (.cls "Coat")) rfl)) (z_noat (Z.c.fact 13 (f := .std (.noat "Coat" "_text")) rfl)) fld_nil) w_v)
    (xb_one (w_sfld hK (fld_cons (z_cls (Z.c.fact 12 (f := .std (.cls "Coat")) rfl)) (z_noat (Z.c.fact 16 (f := .std (.noat "Coat" "_before")) rfl)) fld_nil) (xe_frz (w_tuple (Z.f "tuple" (Z.c.fact 15 (f := .std (.free "tuple")) rfl)) (w_call (ok_before_of_text Z) (Z.g "before_of_text" (Z.c.fact 14 (f := .std (.glo "before_of_text")) rfl)) hr tk hK (w_sl xa_nil))))))))
theorem ok_Coat___init__ (Z : Fz fa fn K mg) : FnC P w K mg base 4 (ma K (ga K "Coat") "__init__") (spF K [.io, .shr] true fn_Coat___init__) := by
  obtain ⟨fd, F⟩ := Z.c.def_ ix_Coat___init__ (d := d_Coat___init__) rfl
  exact ⟨⟨fd, ["self", "text"], okf_Coat___init__ Z F, F.bindsN fun _ _ _ _ _ _ us hl => match us, hl with | [_, _], _ => rfl⟩, F.kp⟩
def h_l_made_0 : HSem := ⟨some 1, tabX ["BadSize"] ["BadCoat"], fun k fs => (sRet (fTwo true (fLst (aEx (fC (.str "size")) (aEx (fXf fs "size") aNil))) (fTwo true (fLst (aEx (fC (.str "odd")) aNil)) (fOne (fIsX (List.contains ([] : List Str) k)) (kS1 gInt)) kMul) kAdd))⟩
def h_l_made_1 : HSem := ⟨some 1, tabX ["BadCoat"] ["BadSize"], fun k fs => (sRet (fTwo true (fLst (aEx (fC (.str "coat")) (aEx (fXf fs "index") aNil))) (fTwo true (fLst (aEx (fC (.str "odd")) aNil)) (fOne (fIsX (List.contains ([] : List Str) k)) (kS1 gInt)) kMul) kAdd))⟩
def s_l_made : SemS := (sSeq (sTry (sExpr (fMake "Coat" [.shr] fn_Coat___init__ (aSl 0 aNil))) [h_l_made_0, h_l_made_1])
    (sRet (fLst (aEx (fC (.str "made")) aNil))))
def fn_l_made : Fn := runB [.shr] true 2 s_l_made
theorem sc_l_made : FnScope ["_law_text", "e"] ["_law_text"] (defScope (top 39)) := ⟨rfl, rfl, rfl, by decide +kernel, rfl, by decide +kernel, by decide +kernel⟩
theorem okf_l_made (Z : Fz fa fn K mg) {fd : FuncData} (F : FunD K d_l_made.name d_l_made.qual d_l_made.params d_l_made.body d_l_made.scope (d_l_made.dvs K) [] (d_l_made.ad K) fd) : FnOk P w K mg base (L2N.CX P w) 6 (ga K "_law_made") fd ["_law_text"] (spF K [.shr] true fn_l_made) := by
  have nd := sc_l_made.nd
  refine fn_mv0 F sc_l_made rfl fun cdv A outer s H E J hK hfx hr => ?_
  have tk := @tk_cx P w K mg base ["_law_text", "e"] "_law_made" (defScope (top 39)) (ga K "_law_made") cdv A outer s H E
  have po := @po_cx P w K mg base ["_law_text", "e"] "_law_made" (defScope (top 39)) (ga K "_law_made") cdv A outer s H E
  show XB0 _ J _ (defBody (top 39)) s_l_made
  exact (xb0_cons (xs0_try (l := [(h_l_made_0, .ref (ga K "BadSize")), (h_l_made_1, .ref (ga K "BadCoat"))]) rfl rfl nd tk hfx hK (fun W tp xe tk po => (xb_one (xs_expr (w_make (ok_Coat___init__ Z) (z_mkr (Z.c.fact 17 (f := .std (.mkr "Coat")) rfl)) (Z.g "Coat" (Z.c.fact 18 (f := .std (.glo "Coat")) rfl)) hr tk hK (w_sl xa_nil))))) (.as (h := h_l_made_0) (c := .ref (ga K "BadSize")) (names_own (Z.g "BadSize" (Z.c.fact 7 (f := .std (.glo "BadSize")) rfl))) rfl rfl rfl (tabX_ok (all_cons (z_exm (Z.c.fact 19 (f := .std (.exm "BadSize" "BadSize" true)) rfl)) all_nil) (all_cons (z_exm (Z.c.fact 20 (f := .std (.exm "BadCoat" "BadSize" false)) rfl)) all_nil)) (fun a oe d pn J k fs hK hx er hz hf hm => by
        have hk := tabX_yes hm
        rcases List.mem_cons.mp hk with rfl | hk
        · show XB _ _ _ _ ((sRet (fTwo true (fLst (aEx (fC (.str "size")) (aEx (fXf fs "size") aNil))) (fTwo true (fLst (aEx (fC (.str "odd")) aNil)) (fOne (fIsX (List.contains ([] : List Str) "BadSize")) (kS1 gInt)) kMul) kAdd)))
          exact (xb_one (xs_ret (xe_add (xe_lst (xa_ex xe_str (xa_ex (xe_xf hK hx er hz hf (xr_ok (Z.c.fact 21 (f := .xr "BadSize") rfl)).1 ((xc_ok (Z.c.fact 6 (f := .xc "BadSize" ["size"]) rfl)).2.1 "size" (by decide)) rfl (.inl rfl)) xa_nil))) (xe_mul (xe_lst (xa_ex xe_str xa_nil)) (w_int (Z.f "int" (Z.c.fact 0 (f := .std (.free "int")) rfl)) (xe_isxT (b := false) (vs := [V.ref (ga K "BadCoat"), V.ref (ga K "BadNumber"), V.ref (ga K "BadStretch")]) (us := [.ref (ga K "BadCoat"), .ref (ga K "BadNumber"), .ref (ga K "BadStretch")]) hx hK er hz hf (xr_ok (Z.c.fact 21 (f := .xr "BadSize") rfl)).2 (Nat.le_of_ble_eq_true rfl) (kitAny_l (K := K) [(.ref (ga K "BadCoat"), false), (.ref (ga K "BadNumber"), false), (.ref (ga K "BadStretch"), false)] (kp_cons (kit_ok (Z.c.fact 22 (f := .kit "BadSize" "BadCoat" false) rfl)) (kp_cons (kit_ok (Z.c.fact 24 (f := .kit "BadSize" "BadNumber" false) rfl)) (kp_cons (kit_ok (Z.c.fact 26 (f := .kit "BadSize" "BadStretch" false) rfl)) kp_nil)))) rfl (Z.f "isinstance" (Z.c.fact 27 (f := .std (.free "isinstance")) rfl)) (by decide +kernel) rfl (.inl rfl) (.cons (pe_glob (by rfl) (Z.g "BadCoat" (Z.c.fact 10 (f := .std (.glo "BadCoat")) rfl)) (v := .ref (ga K "BadCoat")) rfl) (.own (ga K "BadCoat")) (.cons (pe_glob (by rfl) (Z.g "BadNumber" (Z.c.fact 23 (f := .std (.glo "BadNumber")) rfl)) (v := .ref (ga K "BadNumber")) rfl) (.own (ga K "BadNumber")) (.cons (pe_glob (by rfl) (Z.g "BadStretch" (Z.c.fact 25 (f := .std (.glo "BadStretch")) rfl)) (v := .ref (ga K "BadStretch")) rfl) (.own (ga K "BadStretch")) .nil)))))))))
        cases hk) (.as (h := h_l_made_1) (c := .ref (ga K "BadCoat")) (names_own (Z.g "BadCoat" (Z.c.fact 10 (f := .std (.glo "BadCoat")) rfl))) rfl rfl rfl (tabX_ok (all_cons (z_exm (Z.c.fact 28 (f := .std (.exm "BadCoat" "BadCoat" true)) rfl)) all_nil) (all_cons (z_exm (Z.c.fact 29 (f := .std (.exm "BadSize" "BadCoat" false)) rfl)) all_nil)) (fun a oe d pn J k fs hK hx er hz hf hm => by
        have hk := tabX_yes hm
        rcases List.mem_cons.mp hk with rfl | hk
        · show XB _ _ _ _ ((sRet (fTwo true (fLst (aEx (fC (.str "coat")) (aEx (fXf fs "index") aNil))) (fTwo true (fLst (aEx (fC (.str "odd")) aNil)) (fOne (fIsX (List.contains ([] : List Str) "BadCoat")) (kS1 gInt)) kMul) kAdd)))
          exact (xb_one (xs_ret (xe_add (xe_lst (xa_ex xe_str (xa_ex (xe_xf hK hx er hz hf (xr_ok (Z.c.fact 30 (f := .xr "BadCoat") rfl)).1 ((xc_ok (Z.c.fact 9 (f := .xc "BadCoat" ["index"]) rfl)).2.1 "index" (by decide)) rfl (.inl rfl)) xa_nil))) (xe_mul (xe_lst (xa_ex xe_str xa_nil)) (w_int (Z.f "int" (Z.c.fact 0 (f := .std (.free "int")) rfl)) (xe_isxT (b := false) (vs := [V.ref (ga K "BadSize"), V.ref (ga K "BadNumber"), V.ref (ga K "BadStretch")]) (us := [.ref (ga K "BadSize"), .ref (ga K "BadNumber"), .ref (ga K "BadStretch")]) hx hK er hz hf (xr_ok (Z.c.fact 30 (f := .xr "BadCoat") rfl)).2 (Nat.le_of_ble_eq_true rfl) (kitAny_l (K := K) [(.ref (ga K "BadSize"), false), (.ref (ga K "BadNumber"), false), (.ref (ga K "BadStretch"), false)] (kp_cons (kit_ok (Z.c.fact 31 (f := .kit "BadCoat" "BadSize" false) rfl)) (kp_cons (kit_ok (Z.c.fact 32 (f := .kit "BadCoat" "BadNumber" false) rfl)) (kp_cons (kit_ok (Z.c.fact 33 (f := .kit "BadCoat" "BadStretch" false) rfl)) kp_nil)))) rfl (Z.f "isinstance" (Z.c.fact 27 (f := .std (.free "isinstance")) rfl)) (by decide +kernel) rfl (.inl rfl) (.cons (pe_glob (by rfl) (Z.g "BadSize" (Z.c.fact 7 (f := .std (.glo "BadSize")) rfl)) (v := .ref (ga K "BadSize")) rfl) (.own (ga K "BadSize")) (.cons (pe_glob (by rfl) (Z.g "BadNumber" (Z.c.fact 23 (f := .std (.glo "BadNumber")) rfl)) (v := .ref (ga K "BadNumber")) rfl) (.own (ga K "BadNumber")) (.cons (pe_glob (by rfl) (Z.g "BadStretch" (Z.c.fact 25 (f := .std (.glo "BadStretch")) rfl)) (v := .ref (ga K "BadStretch")) rfl) (.own (ga K "BadStretch")) .nil)))))))))
        cases hk) .nil)))
    (xb0_one (XS.to0 (xs_ret (xe_lst (xa_ex xe_str xa_nil))))))
theorem ok_l_made (Z : Fz fa fn K mg) : FnC P w K mg base 6 (ga K "_law_made") (spF K [.shr] true fn_l_made) := by
  obtain ⟨fd, F⟩ := Z.c.def_ ix_l_made (d := d_l_made) rfl
  exact ⟨⟨fd, ["_law_text"], okf_l_made Z F, F.bindsN fun _ _ _ _ _ _ us hl => match us, hl with | [_], _ => rfl⟩, F.kp⟩
def s_l_spoilt : SemS := (sSeq (sAsg 2 (fFrz (fCall [.io, .bor] false fn_l_draw (aSl 0 (aEx (fTwo true (fOne (fVar 1) (kS1 gLen)) (fC (.int 1)) kAdd) aNil)))))
    (sSeq (sAsg 3 (fTwo false (fC (.str "bzagcA-0 
`{d~ef")) (fCall [.io, .bor] false fn_l_draw (aSl 0 (aEx (fC (.int 16)) aNil))) kIx))
    (sSeq (sAsg 4 (fFrz (fCall [.io, .bor] false fn_l_draw (aSl 0 (aEx (fC (.int 3)) aNil)))))
    (sSeq (sIf (fTst (fTwo true (fVar 4) (fC (.int 0)) (kS gEq))) (sRet (fTwo true (fTwo true (fSl true true (fVar 1) fNoP (fPart (fVar 2))) (fVar 3) kAdd) (fSl true true (fVar 1) (fPart (fTwo true (fVar 2) (fC (.int 1)) kAdd)) fNoP) kAdd)) sNil)
    (sSeq (sIf (fTst (fTwo true (fVar 4) (fC (.int 1)) (kS gEq))) (sRet (fTwo true (fTwo true (fSl true true (fVar 1) fNoP (fPart (fVar 2))) (fVar 3) kAdd) (fSl true true (fVar 1) (fPart (fVar 2)) fNoP) kAdd)) sNil)
    (sRet (fTwo true (fSl true true (fVar 1) fNoP (fPart (fVar 2))) (fSl true true (fVar 1) (fPart (fTwo true (fVar 2) (fC (.int 1)) kAdd)) fNoP) kAdd)))))))
def fn_l_spoilt : Fn := runB [.io, .bor] true 5 s_l_spoilt
theorem sc_l_spoilt : FnScope ["_law_state", "_law_text", "_law_at", "_law_sign", "_law_way"] ["_law_state", "_law_text"] (defScope (top 34)) := ⟨rfl, rfl, rfl, by decide +kernel, rfl, by decide +kernel, by decide +kernel⟩
theorem okf_l_spoilt (Z : Fz fa fn K mg) {fd : FuncData} (F : FunD K d_l_spoilt.name d_l_spoilt.qual d_l_spoilt.params d_l_spoilt.body d_l_spoilt.scope (d_l_spoilt.dvs K) [] (d_l_spoilt.ad K) fd) : FnOk P w K mg base (L2N.CX P w) 2 (ga K "_law_spoilt") fd ["_law_state", "_law_text"] (spF K [.io, .bor] true fn_l_spoilt) := by
  have nd := sc_l_spoilt.nd
  refine fn_mv F sc_l_spoilt rfl fun cdv A outer s H E J hK hfx hr => ?_
  have tk := @tk_cx P w K mg base ["_law_state", "_law_text", "_law_at", "_law_sign", "_law_way"] "_law_spoilt" (defScope (top 34)) (ga K "_law_spoilt") cdv A outer s H E
  have po := @po_cx P w K mg base ["_law_state", "_law_text", "_law_at", "_law_sign", "_law_way"] "_law_spoilt" (defScope (top 34)) (ga K "_law_spoilt") cdv A outer s H E
  show XB _ J _ (defBody (top 34)) s_l_spoilt
  exact (xb_cons (w_asg nd (xe_frz (w_call (ok_l_draw Z) (Z.g "_law_draw" (Z.c.fact 4 (f := .std (.glo "_law_draw")) rfl)) hr tk hK (w_sl (xa_ex (xe_add (w_len (Z.f "len" (Z.c.fact 1 (f := .std (.free "len")) rfl)) w_v) xe_int) xa_nil)))))
    (xb_cons (w_asg nd (xe_idx xe_str (w_call (ok_l_draw Z) (Z.g "_law_draw" (Z.c.fact 4 (f := .std (.glo "_law_draw")) rfl)) hr tk hK (w_sl (xa_ex xe_int xa_nil)))))
    (xb_cons (w_asg nd (xe_frz (w_call (ok_l_draw Z) (Z.g "_law_draw" (Z.c.fact 4 (f := .std (.glo "_law_draw")) rfl)) hr tk hK (w_sl (xa_ex xe_int xa_nil)))))
    (xb_cons (xs_if (t_eq hK (un64 hr) w_v xe_int) (xb_one (xs_ret (xe_add (xe_add (xe_sl hK w_v xo_none (xo_some w_v)) w_v) (xe_sl hK w_v (xo_some (xe_add w_v xe_int)) xo_none)))) xb_nil)
    (xb_cons (xs_if (t_eq hK (un64 hr) w_v xe_int) (xb_one (xs_ret (xe_add (xe_add (xe_sl hK w_v xo_none (xo_some w_v)) w_v) (xe_sl hK w_v (xo_some w_v) xo_none)))) xb_nil)
    (xb_one (xs_ret (xe_add (xe_sl hK w_v xo_none (xo_some w_v)) (xe_sl hK w_v (xo_some (xe_add w_v xe_int)) xo_none)))))))))
theorem ok_l_spoilt (Z : Fz fa fn K mg) : FnC P w K mg base 2 (ga K "_law_spoilt") (spF K [.io, .bor] true fn_l_spoilt) := by
  obtain ⟨fd, F⟩ := Z.c.def_ ix_l_spoilt (d := d_l_spoilt) rfl
  exact ⟨⟨fd, ["_law_state", "_law_text"], okf_l_spoilt Z F, F.bindsN fun _ _ _ _ _ _ us hl => match us, hl with | [_, _], _ => rfl⟩, F.kp⟩
def s_l_free : SemS := (sSeq (sAsg 1 (fC (.str "")))
    (sSeq (sAsg 2 (fC (.int 0)))
    (sSeq (sFor (iR1 (fTwo true (fOne (fTwo true (fCall [.io, .bor] false fn_l_draw (aSl 0 (aEx (fC (.int 9)) aNil))) (fC (.int 4)) kAdd) (kS1 gInt)) (fC (.int 9)) (kS (gIc cMod Int.fmod)))) (gNm 3) (sSeq (sAsg 4 (fFrz (fCall [.io, .bor] false fn_l_draw (aSl 0 (aEx (fTwo true (fVar 2) (fC (.int 2)) kAdd) aNil)))))
    (sSeq (sAsg 1 (fFrz (fTwo true (fVar 1) (fTwo true (fC (.str "abcdefghij")) (fVar 4) kIx) kAdd)))
    (sIf (fTst (fTwo true (fVar 4) (fVar 2) (kS gEq))) (sAsg 2 (fFrz (fTwo true (fVar 2) (fC (.int 1)) kAdd))) sNil))))
    (sRet (fVar 1)))))
def fn_l_free : Fn := runB [.io] false 5 s_l_free
theorem sc_l_free : FnScope ["_law_state", "_law_text", "_law_used", "_law_gap", "_law_spot"] ["_law_state"] (defScope (top 35)) := ⟨rfl, rfl, rfl, by decide +kernel, rfl, by decide +kernel, by decide +kernel⟩
theorem okf_l_free (Z : Fz fa fn K mg) {fd : FuncData} (F : FunD K d_l_free.name d_l_free.qual d_l_free.params d_l_free.body d_l_free.scope (d_l_free.dvs K) [] (d_l_free.ad K) fd) : FnOk P w K mg base (L2N.CX P w) 2 (ga K "_law_free") fd ["_law_state"] (spF K [.io] false fn_l_free) := by
  have nd := sc_l_free.nd
  refine fn_mv F sc_l_free rfl fun cdv A outer s H E J hK hfx hr => ?_
  have tk := @tk_cx P w K mg base ["_law_state", "_law_text", "_law_used", "_law_gap", "_law_spot"] "_law_free" (defScope (top 35)) (ga K "_law_free") cdv A outer s H E
  have po := @po_cx P w K mg base ["_law_state", "_law_text", "_law_used", "_law_gap", "_law_spot"] "_law_free" (defScope (top 35)) (ga K "_law_free") cdv A outer s H E
  show XB _ J _ (defBody (top 35)) s_l_free
  exact (xb_cons (w_asg nd xe_str)
    (xb_cons (w_asg nd xe_int)
    (xb_cons (w_for po (w_r1 (Z.f "range" (Z.c.fact 3 (f := .std (.free "range")) rfl)) (xe_mod (w_int (Z.f "int" (Z.c.fact 0 (f := .std (.free "int")) rfl)) (xe_add (w_call (ok_l_draw Z) (Z.g "_law_draw" (Z.c.fact 4 (f := .std (.glo "_law_draw")) rfl)) hr tk hK (w_sl (xa_ex xe_int xa_nil))) xe_int)) xe_int)) w_gn (xb_cons (w_asg nd (xe_frz (w_call (ok_l_draw Z) (Z.g "_law_draw" (Z.c.fact 4 (f := .std (.glo "_law_draw")) rfl)) hr tk hK (w_sl (xa_ex (xe_add w_v xe_int) xa_nil)))))
    (xb_cons (w_asg nd (xe_frz (xe_add w_v (xe_idx xe_str w_v))))
    (xb_one (xs_if (t_eq hK (un64 hr) w_v w_v) (xb_one (w_asg nd (xe_frz (xe_add w_v xe_int)))) xb_nil)))))
    (xb_one (xs_ret w_v)))))
theorem ok_l_free (Z : Fz fa fn K mg) : FnC P w K mg base 2 (ga K "_law_free") (spF K [.io] false fn_l_free) := by
  obtain ⟨fd, F⟩ := Z.c.def_ ix_l_free (d := d_l_free) rfl
  exact ⟨⟨fd, ["_law_state"], okf_l_free Z F, F.bindsN fun _ _ _ _ _ _ us hl => match us, hl with | [_], _ => rfl⟩, F.kp⟩
def s_l_long : SemS := (sSeq (sAsg 1 (fTwo false (fLst (aEx (fC (.int 7)) (aEx (fC (.int 0)) (aEx (fC (.int 6)) (aEx (fC (.int 8)) (aEx (fC (.int 9)) (aEx (fC (.int 64)) (aEx (fC (.int 399)) (aEx (fC (.int 400)) aNil))))))))) (fCall [.io, .bor] false fn_l_draw (aSl 0 (aEx (fC (.int 8)) aNil))) kIx))
    (sSeq (sAsg 2 (fFrz (fTwo true (fC (.str "abcdef")) (fC (.int 67)) kMulS)))
    (sSeq (sIf (fTst (fTwo true (fCall [.io, .bor] false fn_l_draw (aSl 0 (aEx (fC (.int 2)) aNil))) (fC (.int 1)) (kS gEq))) (sAsg 2 (fFrz (fTwo true (fC (.str "z")) (fVar 2) kAdd))) sNil)
    (sRet (fSl true true (fVar 2) fNoP (fPart (fVar 1)))))))
def fn_l_long : Fn := runB [.io] true 3 s_l_long
theorem sc_l_long : FnScope ["_law_state", "_law_size", "_law_text"] ["_law_state"] (defScope (top 36)) := ⟨rfl, rfl, rfl, by decide +kernel, rfl, by decide +kernel, by decide +kernel⟩
theorem okf_l_long (Z : Fz fa fn K mg) {fd : FuncData} (F : FunD K d_l_long.name d_l_long.qual d_l_long.params d_l_long.body d_l_long.scope (d_l_long.dvs K) [] (d_l_long.ad K) fd) : FnOk P w K mg base (L2N.CX P w) 2 (ga K "_law_long") fd ["_law_state"] (spF K [.io] true fn_l_long) := by
  have nd := sc_l_long.nd
  refine fn_mv F sc_l_long rfl fun cdv A outer s H E J hK hfx hr => ?_
  have tk := @tk_cx P w K mg base ["_law_state", "_law_size", "_law_text"] "_law_long" (defScope (top 36)) (ga K "_law_long") cdv A outer s H E
  have po := @po_cx P w K mg base ["_law_state", "_law_size", "_law_text"] "_law_long" (defScope (top 36)) (ga K "_law_long") cdv A outer s H E
  show XB _ J _ (defBody (top 36)) s_l_long
  exact (xb_cons (w_asg nd (xe_idx (xe_lst (xa_ex xe_int (xa_ex xe_int (xa_ex xe_int (xa_ex xe_int (xa_ex xe_int (xa_ex xe_int (xa_ex xe_int (xa_ex xe_int xa_nil))))))))) (w_call (ok_l_draw Z) (Z.g "_law_draw" (Z.c.fact 4 (f := .std (.glo "_law_draw")) rfl)) hr tk hK (w_sl (xa_ex xe_int xa_nil)))))
    (xb_cons (w_asg nd (xe_frz (xe_mulS xe_str xe_int)))
    (xb_cons (xs_if (t_eq hK (un64 hr) (w_call (ok_l_draw Z) (Z.g "_law_draw" (Z.c.fact 4 (f := .std (.glo "_law_draw")) rfl)) hr tk hK (w_sl (xa_ex xe_int xa_nil))) xe_int) (xb_one (w_asg nd (xe_frz (xe_add xe_str w_v)))) xb_nil)
    (xb_one (xs_ret (xe_sl hK w_v xo_none (xo_some w_v)))))))
theorem ok_l_long (Z : Fz fa fn K mg) : FnC P w K mg base 2 (ga K "_law_long") (spF K [.io] true fn_l_long) := by
  obtain ⟨fd, F⟩ := Z.c.def_ ix_l_long (d := d_l_long) rfl
  exact ⟨⟨fd, ["_law_state"], okf_l_long Z F, F.bindsN fun _ _ _ _ _ _ us hl => match us, hl with | [_], _ => rfl⟩, F.kp⟩
def s_l_numbers : SemS := (sSeq (sFor (iSrc (fSl true true (fVar 0) (fPart (fC (.int 1))) fNoP) kItL) (gNm 1) (sIf (fOr (fNot (fTru (fOne (fVar 1) (kIsi isInt)))) (fTru (fOne (fVar 1) (kIsi isBl)))) (sRet (fC (.bl false))) sNil))
    (sRet (fC (.bl true))))
def fn_l_numbers : Fn := runB [.shr] true 2 s_l_numbers
theorem sc_l_numbers : FnScope ["_law_row", "_law_value"] ["_law_row"] (defScope (top 38)) := ⟨rfl, rfl, rfl, by decide +kernel, rfl, by decide +kernel, by decide +kernel⟩
theorem okf_l_numbers (Z : Fz fa fn K mg) {fd : FuncData} (F : FunD K d_l_numbers.name d_l_numbers.qual d_l_numbers.params d_l_numbers.body d_l_numbers.scope (d_l_numbers.dvs K) [] (d_l_numbers.ad K) fd) : FnOk P w K mg base (L2N.CX P w) 1 (ga K "_law_numbers") fd ["_law_row"] (spF K [.shr] true fn_l_numbers) := by
  have nd := sc_l_numbers.nd
  refine fn_mv F sc_l_numbers rfl fun cdv A outer s H E J hK hfx hr => ?_
  have tk := @tk_cx P w K mg base ["_law_row", "_law_value"] "_law_numbers" (defScope (top 38)) (ga K "_law_numbers") cdv A outer s H E
  have po := @po_cx P w K mg base ["_law_row", "_law_value"] "_law_numbers" (defScope (top 38)) (ga K "_law_numbers") cdv A outer s H E
  show XB _ J _ (defBody (top 38)) s_l_numbers
  exact (xb_cons (w_for po (xi_list (xe_sl hK w_v (xo_some xe_int) xo_none)) w_gn (xb_one (xs_if (xw_or (xt_not (xt_tru hK (w_isi hK isOk_int (Z.f "isinstance" (Z.c.fact 27 (f := .std (.free "isinstance")) rfl)) (w_ty (Z.f "int" (Z.c.fact 0 (f := .std (.free "int")) rfl))) w_v))) (xw_or1 (xt_tru hK (w_isi hK isOk_bl (Z.f "isinstance" (Z.c.fact 27 (f := .std (.free "isinstance")) rfl)) (w_ty (Z.f "bool" (Z.c.fact 34 (f := .std (.free "bool")) rfl))) w_v)))).xt (xb_one (xs_ret xe_bl)) xb_nil)))
    (xb_one (xs_ret xe_bl)))
theorem ok_l_numbers (Z : Fz fa fn K mg) : FnC P w K mg base 1 (ga K "_law_numbers") (spF K [.shr] true fn_l_numbers) := by
  obtain ⟨fd, F⟩ := Z.c.def_ ix_l_numbers (d := d_l_numbers) rfl
  exact ⟨⟨fd, ["_law_row"], okf_l_numbers Z F, F.bindsN fun _ _ _ _ _ _ us hl => match us, hl with | [_], _ => rfl⟩, F.kp⟩
def h_l_base_0 : HSem := ⟨some 1, tabX ["BadSize", "BadCoat"] [], fun k fs => (sRet (fIsX (List.contains (["BadSize", "BadCoat"] : List Str) k)))⟩
def s_l_base : SemS := (sSeq (sTry (sExpr (fMake "Coat" [.shr] fn_Coat___init__ (aSl 0 aNil))) [h_l_base_0])
    (sRet (fC (.bl false))))
def fn_l_base : Fn := runB [.shr] true 2 s_l_base
theorem sc_l_base : FnScope ["_law_text", "e"] ["_law_text"] (defScope (top 40)) := ⟨rfl, rfl, rfl, by decide +kernel, rfl, by decide +kernel, by decide +kernel⟩
theorem okf_l_base (Z : Fz fa fn K mg) {fd : FuncData} (F : FunD K d_l_base.name d_l_base.qual d_l_base.params d_l_base.body d_l_base.scope (d_l_base.dvs K) [] (d_l_base.ad K) fd) : FnOk P w K mg base (L2N.CX P w) 6 (ga K "_law_base") fd ["_law_text"] (spF K [.shr] true fn_l_base) := by
  have nd := sc_l_base.nd
  refine fn_mv0 F sc_l_base rfl fun cdv A outer s H E J hK hfx hr => ?_
  have tk := @tk_cx P w K mg base ["_law_text", "e"] "_law_base" (defScope (top 40)) (ga K "_law_base") cdv A outer s H E
  have po := @po_cx P w K mg base ["_law_text", "e"] "_law_base" (defScope (top 40)) (ga K "_law_base") cdv A outer s H E
  show XB0 _ J _ (defBody (top 40)) s_l_base
  exact (xb0_cons (xs0_try (l := [(h_l_base_0, .ref (ga K "RollError"))]) rfl rfl nd tk hfx hK (fun W tp xe tk po => (xb_one (xs_expr (w_make (ok_Coat___init__ Z) (z_mkr (Z.c.fact 17 (f := .std (.mkr "Coat")) rfl)) (Z.g "Coat" (Z.c.fact 18 (f := .std (.glo "Coat")) rfl)) hr tk hK (w_sl xa_nil))))) (.as (h := h_l_base_0) (c := .ref (ga K "RollError")) (names_own (Z.g "RollError" (Z.c.fact 35 (f := .std (.glo "RollError")) rfl))) rfl rfl rfl (tabX_ok (all_cons (z_exm (Z.c.fact 37 (f := .std (.exm "BadSize" "RollError" true)) rfl)) (all_cons (z_exm (Z.c.fact 36 (f := .std (.exm "BadCoat" "RollError" true)) rfl)) all_nil)) all_nil) (fun a oe d pn J k fs hK hx er hz hf hm => by
        have hk := tabX_yes hm
        rcases List.mem_cons.mp hk with rfl | hk
        · show XB _ _ _ _ ((sRet (fIsX (List.contains (["BadSize", "BadCoat"] : List Str) "BadSize"))))
          exact (xb_one (xs_ret (xe_isx (b := true) hx hK er hz hf (xr_ok (Z.c.fact 21 (f := .xr "BadSize") rfl)).2 (.ty "ValueError") (kiT_ok (Z.c.fact 39 (f := .kiT "BadSize" "ValueError" true) rfl)) rfl (Z.f "isinstance" (Z.c.fact 27 (f := .std (.free "isinstance")) rfl)) (by decide +kernel) rfl (.inl rfl) (w_ty (Z.f "ValueError" (Z.c.fact 38 (f := .std (.free "ValueError")) rfl))))))
        rcases List.mem_cons.mp hk with rfl | hk
        · show XB _ _ _ _ ((sRet (fIsX (List.contains (["BadSize", "BadCoat"] : List Str) "BadCoat"))))
          exact (xb_one (xs_ret (xe_isx (b := true) hx hK er hz hf (xr_ok (Z.c.fact 30 (f := .xr "BadCoat") rfl)).2 (.ty "ValueError") (kiT_ok (Z.c.fact 40 (f := .kiT "BadCoat" "ValueError" true) rfl)) rfl (Z.f "isinstance" (Z.c.fact 27 (f := .std (.free "isinstance")) rfl)) (by decide +kernel) rfl (.inl rfl) (w_ty (Z.f "ValueError" (Z.c.fact 38 (f := .std (.free "ValueError")) rfl))))))
        cases hk) .nil))
    (xb0_one (XS.to0 (xs_ret xe_bl))))
theorem ok_l_base (Z : Fz fa fn K mg) : FnC P w K mg base 6 (ga K "_law_base") (spF K [.shr] true fn_l_base) := by
  obtain ⟨fd, F⟩ := Z.c.def_ ix_l_base (d := d_l_base) rfl
  exact ⟨⟨fd, ["_law_text"], okf_l_base Z F, F.bindsN fun _ _ _ _ _ _ us hl => match us, hl with | [_], _ => rfl⟩, F.kp⟩
def s_Coat___eq__ : SemS := (sRet (fAndV (fOne (fVar 1) (kIsi (isIns [("Coat", true)]))) (fTwo true (fOne (fVar 0) (kFld "_text" ["Coat"])) (fOne (fVar 1) (kFld "_text" ["Coat"])) (kS gEq))))
def fn_Coat___eq__ : Fn := runB [.bor, .bor] true 2 s_Coat___eq__
theorem sc_Coat___eq__ : FnScope ["self", "other"] ["self", "other"] (defScope (inClass (top 29) 17)) := ⟨rfl, rfl, rfl, by decide +kernel, rfl, by decide +kernel, by decide +kernel⟩
theorem okf_Coat___eq__ (Z : Fz fa fn K mg) {fd : FuncData} (F : FunD K d_Coat___eq__.name d_Coat___eq__.qual d_Coat___eq__.params d_Coat___eq__.body d_Coat___eq__.scope (d_Coat___eq__.dvs K) [] (d_Coat___eq__.ad K) fd) : FnOk P w K mg base (L2N.CX P w) 1 (ma K (ga K "Coat") "__eq__") fd ["self", "other"] (spF K [.bor, .bor] true fn_Coat___eq__) := by
  have nd := sc_Coat___eq__.nd
  refine fn_mv F sc_Coat___eq__ rfl fun cdv A outer s H E J hK hfx hr => ?_
  have tk := @tk_cx P w K mg base ["self", "other"] "Coat.__eq__" (defScope (inClass (top 29) 17)) (ma K (ga K "Coat") "__eq__") cdv A outer s H E
  have po := @po_cx P w K mg base ["self", "other"] "Coat.__eq__" (defScope (inClass (top 29) 17)) (ma K (ga K "Coat") "__eq__") cdv A outer s H E
  show XB _ J _ (defBody (inClass (top 29) 17)) s_Coat___eq__
  exact (xb_one (xs_ret (xe_and (w_isiO hK (Z.c.fact 41 (f := .kiA "Coat") rfl) (it_cons (z_cls (Z.c.fact 12 (f := .std (.cls "Coat")) rfl)) (Z.c.fact 42 (f := .insO "Coat") rfl) (kit_ok (Z.c.fact 43 (f := .kit "Coat" "Coat" true) rfl)) it_nil) (Z.f "isinstance" (Z.c.fact 27 (f := .std (.free "isinstance")) rfl)) (pe_glob (by rfl) (Z.g "Coat" (Z.c.fact 18 (f := .std (.glo "Coat")) rfl)) (v := .ref (ga K "Coat")) rfl) w_v) (xe_one1 (w_eq hK (un64 hr) (w_fld hK (fld_cons (z_cls (Z.c.fact 12 (f := .std (.cls "Coat")) rfl)) (z_noat (Z.c.fact 13 (f := .std (.noat "Coat" "_text")) rfl)) fld_nil) w_v) (w_fld hK (fld_cons (z_cls (Z.c.fact 12 (f := .std (.cls "Coat")) rfl)) (z_noat (Z.c.fact 13 (f := .std (.noat "Coat" "_text")) rfl)) fld_nil) w_v))))))
theorem ok_Coat___eq__ (Z : Fz fa fn K mg) : FnC P w K mg base 1 (ma K (ga K "Coat") "__eq__") (spF K [.bor, .bor] true fn_Coat___eq__) := by
  obtain ⟨fd, F⟩ := Z.c.def_ ix_Coat___eq__ (d := d_Coat___eq__) rfl
  exact ⟨⟨fd, ["self", "other"], okf_Coat___eq__ Z F, F.bindsN fun _ _ _ _ _ _ us hl => match us, hl with | [_, _], _ => rfl⟩, F.kp⟩
def s_l_equal : SemS := (sSeq (sAsg 3 (fCh (isCls 1 "Coat") (fOp2 "Coat" "__eq__" [.bor, .bor] true fn_Coat___eq__ (rSl 0) (rSl 1)) (fOp2S "Coat" "__eq__" [.bor, .bor] true fn_Coat___eq__ (rSl 0) (rSl 1))))
    (sRet (fAndV (fOne (fVar 3) (kIsi isBl)) (fTwo true (fVar 3) (fVar 2) (kS gEq)))))
def fn_l_equal : Fn := runB [.bor, .bor, .bor] true 4 s_l_equal
theorem sc_l_equal : FnScope ["_law_first", "_law_second", "_law_due_here", "_law_told"] ["_law_first", "_law_second", "_law_due_here"] (defScope (top 48)) := ⟨rfl, rfl, rfl, by decide +kernel, rfl, by decide +kernel, by decide +kernel⟩
theorem okf_l_equal (Z : Fz fa fn K mg) {fd : FuncData} (F : FunD K d_l_equal.name d_l_equal.qual d_l_equal.params d_l_equal.body d_l_equal.scope (d_l_equal.dvs K) [] (d_l_equal.ad K) fd) : FnOk P w K mg base (L2N.CX P w) 2 (ga K "_law_equal") fd ["_law_first", "_law_second", "_law_due_here"] (spF K [.bor, .bor, .bor] true fn_l_equal) := by
  have nd := sc_l_equal.nd
  refine fn_mv F sc_l_equal rfl fun cdv A outer s H E J hK hfx hr => ?_
  have tk := @tk_cx P w K mg base ["_law_first", "_law_second", "_law_due_here", "_law_told"] "_law_equal" (defScope (top 48)) (ga K "_law_equal") cdv A outer s H E
  have po := @po_cx P w K mg base ["_law_first", "_law_second", "_law_due_here", "_law_told"] "_law_equal" (defScope (top 48)) (ga K "_law_equal") cdv A outer s H E
  show XB _ J _ (defBody (top 48)) s_l_equal
  exact (xb_cons (w_asg nd (w_ch (w_ownC (ok_Coat___eq__ Z) (own_ok (Z.c.fact 44 (f := .own "Coat" "__eq__") rfl)) hr tk hK w_rsl w_rsl) (w_ownCS (ok_Coat___eq__ Z) (own_ok (Z.c.fact 44 (f := .own "Coat" "__eq__") rfl)) hr tk hK w_rsl w_rsl)))
    (xb_one (xs_ret (xe_and (w_isi hK isOk_bl (Z.f "isinstance" (Z.c.fact 27 (f := .std (.free "isinstance")) rfl)) (w_ty (Z.f "bool" (Z.c.fact 34 (f := .std (.free "bool")) rfl))) w_v) (xe_one1 (w_eq hK (un64 hr) w_v w_v))))))
theorem ok_l_equal (Z : Fz fa fn K mg) : FnC P w K mg base 2 (ga K "_law_equal") (spF K [.bor, .bor, .bor] true fn_l_equal) := by
  obtain ⟨fd, F⟩ := Z.c.def_ ix_l_equal (d := d_l_equal) rfl
  exact ⟨⟨fd, ["_law_first", "_law_second", "_law_due_here"], okf_l_equal Z F, F.bindsN fun _ _ _ _ _ _ us hl => match us, hl with | [_, _, _], _ => rfl⟩, F.kp⟩
def s_check_stretch : SemS := (sIf (fTst (fTwo true (fVar 1) (fVar 0) (kS (gB bLt)))) (sRaise "BadStretch" ["begin", "end"] (aSl 0 (aSl 1 aNil))) sNil)
def fn_check_stretch : Fn := runB [.shr, .shr] true 2 s_check_stretch
theorem sc_check_stretch : FnScope ["begin", "end"] ["begin", "end"] (defScope (top 11)) := ⟨rfl, rfl, rfl, by decide +kernel, rfl, by decide +kernel, by decide +kernel⟩
theorem okf_check_stretch (Z : Fz fa fn K mg) {fd : FuncData} (F : FunD K d_check_stretch.name d_check_stretch.qual d_check_stretch.params d_check_stretch.body d_check_stretch.scope (d_check_stretch.dvs K) [] (d_check_stretch.ad K) fd) : FnOk P w K mg base (L2N.CX P w) 3 (ga K "check_stretch") fd ["begin", "end"] (spF K [.shr, .shr] true fn_check_stretch) := by
  have nd := sc_check_stretch.nd
  refine fn_mv F sc_check_stretch rfl fun cdv A outer s H E J hK hfx hr => ?_
  have tk := @tk_cx P w K mg base ["begin", "end"] "check_stretch" (defScope (top 11)) (ga K "check_stretch") cdv A outer s H E
  have po := @po_cx P w K mg base ["begin", "end"] "check_stretch" (defScope (top 11)) (ga K "check_stretch") cdv A outer s H E
  show XB _ J _ (defBody (top 11)) s_check_stretch
  exact (xb_one (xs_if (t_lt w_v w_v) (xb_one (w_raise (xc_ok (Z.c.fact 45 (f := .xc "BadStretch" ["begin", "end"]) rfl)) (okx_BadStretch Z) (Z.g "BadStretch" (Z.c.fact 25 (f := .std (.glo "BadStretch")) rfl)) hr tk hK (w_sl (w_sl xa_nil)))) xb_nil))
theorem ok_check_stretch (Z : Fz fa fn K mg) : FnC P w K mg base 3 (ga K "check_stretch") (spF K [.shr, .shr] true fn_check_stretch) := by
  obtain ⟨fd, F⟩ := Z.c.def_ ix_check_stretch (d := d_check_stretch) rfl
  exact ⟨⟨fd, ["begin", "end"], okf_check_stretch Z F, F.bindsN fun _ _ _ _ _ _ us hl => match us, hl with | [_, _], _ => rfl⟩, F.kp⟩
def s_count_in : SemS := (sSeq (sAsg 3 (fC (.int 0)))
    (sSeq (sFor (iR2 (fTwo true (fVar 1) (fC (.int 1)) kAdd) (fTwo true (fVar 2) (fC (.int 1)) kAdd)) (gNm 4) (sIf (fTst (fTwo true (fTwo true (fVar 0) (fTwo true (fVar 4) (fC (.int 1)) (kS (gI fun i j => i - j))) kIx) (fVar 1) (kS (gB bLt)))) (sAsg 3 (fFrz (fTwo true (fVar 3) (fC (.int 1)) kAdd))) sNil))
    (sRet (fVar 3))))
def fn_count_in : Fn := runB [.bor, .bor, .bor] false 5 s_count_in
theorem sc_count_in : FnScope ["before", "begin", "end", "new", "gap"] ["before", "begin", "end"] (defScope (top 17)) := ⟨rfl, rfl, rfl, by decide +kernel, rfl, by decide +kernel, by decide +kernel⟩
theorem okf_count_in (Z : Fz fa fn K mg) {fd : FuncData} (F : FunD K d_count_in.name d_count_in.qual d_count_in.params d_count_in.body d_count_in.scope (d_count_in.dvs K) [] (d_count_in.ad K) fd) : FnOk P w K mg base (L2N.CX P w) 1 (ga K "count_in") fd ["before", "begin", "end"] (spF K [.bor, .bor, .bor] false fn_count_in) := by
  have nd := sc_count_in.nd
  refine fn_mv F sc_count_in rfl fun cdv A outer s H E J hK hfx hr => ?_
  have tk := @tk_cx P w K mg base ["before", "begin", "end", "new", "gap"] "count_in" (defScope (top 17)) (ga K "count_in") cdv A outer s H E
  have po := @po_cx P w K mg base ["before", "begin", "end", "new", "gap"] "count_in" (defScope (top 17)) (ga K "count_in") cdv A outer s H E
  show XB _ J _ (defBody (top 17)) s_count_in
  exact (xb_cons (w_asg nd xe_int)
    (xb_cons (w_for po (w_r2 (Z.f "range" (Z.c.fact 3 (f := .std (.free "range")) rfl)) (xe_add w_v xe_int) (xe_add w_v xe_int)) w_gn (xb_one (xs_if (t_lt (xe_idx w_v (xe_sub w_v xe_int)) w_v) (xb_one (w_asg nd (xe_frz (xe_add w_v xe_int)))) xb_nil)))
    (xb_one (xs_ret w_v))))
theorem ok_count_in (Z : Fz fa fn K mg) : FnC P w K mg base 1 (ga K "count_in") (spF K [.bor, .bor, .bor] false fn_count_in) := by
  obtain ⟨fd, F⟩ := Z.c.def_ ix_count_in (d := d_count_in) rfl
  exact ⟨⟨fd, ["before", "begin", "end"], okf_count_in Z F, F.bindsN fun _ _ _ _ _ _ us hl => match us, hl with | [_, _, _], _ => rfl⟩, F.kp⟩
def s_Coat_count : SemS := (sSeq (sExpr (fCall [.shr, .shr] true fn_check_stretch (aSl 1 (aSl 2 aNil))))
    (sSeq (sIf (fOr (fTst (fTwo true (fVar 1) (fC (.int 0)) (kS (gB bLt)))) (fTst (fTwo true (fVar 2) (fOne (fOne (fVar 0) (kFld "_before" ["Coat"])) (kS1 gLen)) (kS (gB bGt))))) (sRaise "OutOfWindow" ["begin", "end"] (aSl 1 (aSl 2 aNil))) sNil)
    (sRet (fFrz (fCall [.bor, .bor, .bor] false fn_count_in (aEx (fOne (fVar 0) (kFld "_before" ["Coat"])) (aSl 1 (aSl 2 aNil))))))))
def fn_Coat_count : Fn := runB [.bor, .shr, .shr] false 3 s_Coat_count
theorem sc_Coat_count : FnScope ["self", "begin", "end"] ["self", "begin", "end"] (defScope (inClass (top 29) 9)) := ⟨rfl, rfl, rfl, by decide +kernel, rfl, by decide +kernel, by decide +kernel⟩
theorem okf_Coat_count (Z : Fz fa fn K mg) {fd : FuncData} (F : FunD K d_Coat_count.name d_Coat_count.qual d_Coat_count.params d_Coat_count.body d_Coat_count.scope (d_Coat_count.dvs K) [] (d_Coat_count.ad K) fd) : FnOk P w K mg base (L2N.CX P w) 4 (ma K (ga K "Coat") "count") fd ["self", "begin", "end"] (spF K [.bor, .shr, .shr] false fn_Coat_count) := by
  have nd := sc_Coat_count.nd
  refine fn_mv F sc_Coat_count rfl fun cdv A outer s H E J hK hfx hr => ?_
  have tk := @tk_cx P w K mg base ["self", "begin", "end"] "Coat.count" (defScope (inClass (top 29) 9)) (ma K (ga K "Coat") "count") cdv A outer s H E
  have po := @po_cx P w K mg base ["self", "begin", "end"] "Coat.count" (defScope (inClass (top 29) 9)) (ma K (ga K "Coat") "count") cdv A outer s H E
  show XB _ J _ (defBody (inClass (top 29) 9)) s_Coat_count
  exact (xb_cons (xs_expr (w_call (ok_check_stretch Z) (Z.g "check_stretch" (Z.c.fact 46 (f := .std (.glo "check_stretch")) rfl)) hr tk hK (w_sl (w_sl xa_nil))))
    (xb_cons (xs_if (xw_or (t_lt w_v xe_int) (xw_or1 (t_gt w_v (w_len (Z.f "len" (Z.c.fact 1 (f := .std (.free "len")) rfl)) (w_fld hK (fld_cons (z_cls (Z.c.fact 12 (f := .std (.cls "Coat")) rfl)) (z_noat (Z.c.fact 16 (f := .std (.noat "Coat" "_before")) rfl)) fld_nil) w_v))))).xt (xb_one (w_raise (xc_ok (Z.c.fact 47 (f := .xc "OutOfWindow" ["begin", "end"]) rfl)) (okx_OutOfWindow Z) (Z.g "OutOfWindow" (Z.c.fact 48 (f := .std (.glo "OutOfWindow")) rfl)) hr tk hK (w_sl (w_sl xa_nil)))) xb_nil)
    (xb_one (xs_ret (xe_frz (w_call (ok_count_in Z) (Z.g "count_in" (Z.c.fact 49 (f := .std (.glo "count_in")) rfl)) hr tk hK (xa_ex (w_fld hK (fld_cons (z_cls (Z.c.fact 12 (f := .std (.cls "Coat")) rfl)) (z_noat (Z.c.fact 16 (f := .std (.noat "Coat" "_before")) rfl)) fld_nil) w_v) (w_sl (w_sl xa_nil)))))))))
theorem ok_Coat_count (Z : Fz fa fn K mg) : FnC P w K mg base 4 (ma K (ga K "Coat") "count") (spF K [.bor, .shr, .shr] false fn_Coat_count) := by
  obtain ⟨fd, F⟩ := Z.c.def_ ix_Coat_count (d := d_Coat_count) rfl
  exact ⟨⟨fd, ["self", "begin", "end"], okf_Coat_count Z F, F.bindsN fun _ _ _ _ _ _ us hl => match us, hl with | [_, _, _], _ => rfl⟩, F.kp⟩
def h_l_counted_0 : HSem := ⟨some 3, tabX ["BadStretch"] ["BadSize", "BadCoat", "OutOfWindow"], fun k fs => (sRet (fTwo true (fLst (aEx (fC (.str "stretch")) (aEx (fXf fs "begin") (aEx (fXf fs "end") aNil)))) (fTwo true (fLst (aEx (fC (.str "odd")) aNil)) (fOne (fIsX (List.contains ([] : List Str) k)) (kS1 gInt)) kMul) kAdd))⟩
def h_l_counted_1 : HSem := ⟨some 3, tabX ["OutOfWindow"] ["BadSize", "BadCoat", "BadStretch"], fun k fs => (sRet (fTwo true (fLst (aEx (fC (.str "window")) (aEx (fXf fs "begin") (aEx (fXf fs "end") aNil)))) (fTwo true (fLst (aEx (fC (.str "odd")) aNil)) (fOne (fIsX (List.contains ([] : List Str) k)) (kS1 gInt)) kMul) kAdd))⟩
def s_l_counted : SemS := (sTry (sRet (fLst (aEx (fC (.str "count")) (aEx (fFrz (fMeth "Coat" "count" [.bor, .shr, .shr] false fn_Coat_count (rSl 0) (aSl 1 (aSl 2 aNil)))) aNil)))) [h_l_counted_0, h_l_counted_1])
def fn_l_counted : Fn := runB [.bor, .bor, .bor] true 4 s_l_counted
theorem sc_l_counted : FnScope ["_law_coat", "_law_begin_here", "_law_end", "e"] ["_law_coat", "_law_begin_here", "_law_end"] (defScope (top 41)) := ⟨rfl, rfl, rfl, by decide +kernel, rfl, by decide +kernel, by decide +kernel⟩
theorem okf_l_counted (Z : Fz fa fn K mg) {fd : FuncData} (F : FunD K d_l_counted.name d_l_counted.qual d_l_counted.params d_l_counted.body d_l_counted.scope (d_l_counted.dvs K) [] (d_l_counted.ad K) fd) : FnOk P w K mg base (L2N.CX P w) 5 (ga K "_law_counted") fd ["_law_coat", "_law_begin_here", "_law_end"] (spF K [.bor, .bor, .bor] true fn_l_counted) := by
  have nd := sc_l_counted.nd
  refine fn_mv0 F sc_l_counted rfl fun cdv A outer s H E J hK hfx hr => ?_
  have tk := @tk_cx P w K mg base ["_law_coat", "_law_begin_here", "_law_end", "e"] "_law_counted" (defScope (top 41)) (ga K "_law_counted") cdv A outer s H E
  have po := @po_cx P w K mg base ["_law_coat", "_law_begin_here", "_law_end", "e"] "_law_counted" (defScope (top 41)) (ga K "_law_counted") cdv A outer s H E
  show XB0 _ J _ (defBody (top 41)) s_l_counted
  exact (xb0_one (xs0_try (l := [(h_l_counted_0, .ref (ga K "BadStretch")), (h_l_counted_1, .ref (ga K "OutOfWindow"))]) rfl rfl nd tk hfx hK (fun W tp xe tk po => (xb_one (xs_ret (xe_lst (xa_ex xe_str (xa_ex (xe_frz (w_meth (ok_Coat_count Z) (z_cls (Z.c.fact 12 (f := .std (.cls "Coat")) rfl)) (z_meth (Z.c.fact 50 (f := .std (.meth "Coat" "count")) rfl)) hr tk hK w_rsl (w_sl (w_sl xa_nil)))) xa_nil)))))) (.as (h := h_l_counted_0) (c := .ref (ga K "BadStretch")) (names_own (Z.g "BadStretch" (Z.c.fact 25 (f := .std (.glo "BadStretch")) rfl))) rfl rfl rfl (tabX_ok (all_cons (z_exm (Z.c.fact 51 (f := .std (.exm "BadStretch" "BadStretch" true)) rfl)) all_nil) (all_cons (z_exm (Z.c.fact 54 (f := .std (.exm "BadSize" "BadStretch" false)) rfl)) (all_cons (z_exm (Z.c.fact 53 (f := .std (.exm "BadCoat" "BadStretch" false)) rfl)) (all_cons (z_exm (Z.c.fact 52 (f := .std (.exm "OutOfWindow" "BadStretch" false)) rfl)) all_nil)))) (fun a oe d pn J k fs hK hx er hz hf hm => by
        have hk := tabX_yes hm
        rcases List.mem_cons.mp hk with rfl | hk
        · show XB _ _ _ _ ((sRet (fTwo true (fLst (aEx (fC (.str "stretch")) (aEx (fXf fs "begin") (aEx (fXf fs "end") aNil)))) (fTwo true (fLst (aEx (fC (.str "odd")) aNil)) (fOne (fIsX (List.contains ([] : List Str) "BadStretch")) (kS1 gInt)) kMul) kAdd)))
          exact (xb_one (xs_ret (xe_add (xe_lst (xa_ex xe_str (xa_ex (xe_xf hK hx er hz hf (xr_ok (Z.c.fact 55 (f := .xr "BadStretch") rfl)).1 ((xc_ok (Z.c.fact 45 (f := .xc "BadStretch" ["begin", "end"]) rfl)).2.1 "begin" (by decide)) rfl (.inl rfl)) (xa_ex (xe_xf hK hx er hz hf (xr_ok (Z.c.fact 55 (f := .xr "BadStretch") rfl)).1 ((xc_ok (Z.c.fact 45 (f := .xc "BadStretch" ["begin", "end"]) rfl)).2.1 "end" (by decide)) rfl (.inl rfl)) xa_nil)))) (xe_mul (xe_lst (xa_ex xe_str xa_nil)) (w_int (Z.f "int" (Z.c.fact 0 (f := .std (.free "int")) rfl)) (xe_isx (b := false) hx hK er hz hf (xr_ok (Z.c.fact 55 (f := .xr "BadStretch") rfl)).2 (.own (ga K "OutOfWindow")) (kit_ok (Z.c.fact 56 (f := .kit "BadStretch" "OutOfWindow" false) rfl)) rfl (Z.f "isinstance" (Z.c.fact 27 (f := .std (.free "isinstance")) rfl)) (by decide +kernel) rfl (.inl rfl) (pe_glob (by rfl) (Z.g "OutOfWindow" (Z.c.fact 48 (f := .std (.glo "OutOfWindow")) rfl)) (v := .ref (ga K "OutOfWindow")) rfl)))))))
        cases hk) (.as (h := h_l_counted_1) (c := .ref (ga K "OutOfWindow")) (names_own (Z.g "OutOfWindow" (Z.c.fact 48 (f := .std (.glo "OutOfWindow")) rfl))) rfl rfl rfl (tabX_ok (all_cons (z_exm (Z.c.fact 57 (f := .std (.exm "OutOfWindow" "OutOfWindow" true)) rfl)) all_nil) (all_cons (z_exm (Z.c.fact 60 (f := .std (.exm "BadSize" "OutOfWindow" false)) rfl)) (all_cons (z_exm (Z.c.fact 59 (f := .std (.exm "BadCoat" "OutOfWindow" false)) rfl)) (all_cons (z_exm (Z.c.fact 58 (f := .std (.exm "BadStretch" "OutOfWindow" false)) rfl)) all_nil)))) (fun a oe d pn J k fs hK hx er hz hf hm => by
        have hk := tabX_yes hm
        rcases List.mem_cons.mp hk with rfl | hk
        · show XB _ _ _ _ ((sRet (fTwo true (fLst (aEx (fC (.str "window")) (aEx (fXf fs "begin") (aEx (fXf fs "end") aNil)))) (fTwo true (fLst (aEx (fC (.str "odd")) aNil)) (fOne (fIsX (List.contains ([] : List Str) "OutOfWindow")) (kS1 gInt)) kMul) kAdd)))
          exact (xb_one (xs_ret (xe_add (xe_lst (xa_ex xe_str (xa_ex (xe_xf hK hx er hz hf (xr_ok (Z.c.fact 61 (f := .xr "OutOfWindow") rfl)).1 ((xc_ok (Z.c.fact 47 (f := .xc "OutOfWindow" ["begin", "end"]) rfl)).2.1 "begin" (by decide)) rfl (.inl rfl)) (xa_ex (xe_xf hK hx er hz hf (xr_ok (Z.c.fact 61 (f := .xr "OutOfWindow") rfl)).1 ((xc_ok (Z.c.fact 47 (f := .xc "OutOfWindow" ["begin", "end"]) rfl)).2.1 "end" (by decide)) rfl (.inl rfl)) xa_nil)))) (xe_mul (xe_lst (xa_ex xe_str xa_nil)) (w_int (Z.f "int" (Z.c.fact 0 (f := .std (.free "int")) rfl)) (xe_isx (b := false) hx hK er hz hf (xr_ok (Z.c.fact 61 (f := .xr "OutOfWindow") rfl)).2 (.own (ga K "BadNumber")) (kit_ok (Z.c.fact 62 (f := .kit "OutOfWindow" "BadNumber" false) rfl)) rfl (Z.f "isinstance" (Z.c.fact 27 (f := .std (.free "isinstance")) rfl)) (by decide +kernel) rfl (.inl rfl) (pe_glob (by rfl) (Z.g "BadNumber" (Z.c.fact 23 (f := .std (.glo "BadNumber")) rfl)) (v := .ref (ga K "BadNumber")) rfl)))))))
        cases hk) .nil))))
theorem ok_l_counted (Z : Fz fa fn K mg) : FnC P w K mg base 5 (ga K "_law_counted") (spF K [.bor, .bor, .bor] true fn_l_counted) := by
  obtain ⟨fd, F⟩ := Z.c.def_ ix_l_counted (d := d_l_counted) rfl
  exact ⟨⟨fd, ["_law_coat", "_law_begin_here", "_law_end"], okf_l_counted Z F, F.bindsN fun _ _ _ _ _ _ us hl => match us, hl with | [_, _, _], _ => rfl⟩, F.kp⟩
def s_l_count_due : SemS := (sSeq (sIf (fTst (fTwo true (fVar 2) (fVar 1) (kS (gB bLt)))) (sRet (fLst (aEx (fC (.str "stretch")) (aEx (fVar 1) (aEx (fVar 2) aNil))))) sNil)
    (sSeq (sIf (fOr (fTst (fTwo true (fVar 1) (fC (.int 0)) (kS (gB bLt)))) (fTst (fTwo true (fVar 2) (fOne (fVar 0) (kS1 gLen)) (kS (gB bGe))))) (sRet (fLst (aEx (fC (.str "window")) (aEx (fVar 1) (aEx (fVar 2) aNil))))) sNil)
    (sRet (fLst (aEx (fC (.str "count")) (aEx (fFrz (fTwo true (fOne (fSl true true (fVar 0) (fPart (fVar 1)) (fPart (fTwo true (fVar 2) (fC (.int 1)) kAdd))) kLenS) (fC (.int 1)) (kS (gI fun i j => i - j)))) aNil))))))
def fn_l_count_due : Fn := runB [.bor, .shr, .shr] true 3 s_l_count_due
theorem sc_l_count_due : FnScope ["_law_text", "_law_begin_here", "_law_end"] ["_law_text", "_law_begin_here", "_law_end"] (defScope (top 42)) := ⟨rfl, rfl, rfl, by decide +kernel, rfl, by decide +kernel, by decide +kernel⟩
theorem okf_l_count_due (Z : Fz fa fn K mg) {fd : FuncData} (F : FunD K d_l_count_due.name d_l_count_due.qual d_l_count_due.params d_l_count_due.body d_l_count_due.scope (d_l_count_due.dvs K) [] (d_l_count_due.ad K) fd) : FnOk P w K mg base (L2N.CX P w) 1 (ga K "_law_count_due") fd ["_law_text", "_law_begin_here", "_law_end"] (spF K [.bor, .shr, .shr] true fn_l_count_due) := by
  have nd := sc_l_count_due.nd
  refine fn_mv F sc_l_count_due rfl fun cdv A outer s H E J hK hfx hr => ?_
  have tk := @tk_cx P w K mg base ["_law_text", "_law_begin_here", "_law_end"] "_law_count_due" (defScope (top 42)) (ga K "_law_count_due") cdv A outer s H E
  have po := @po_cx P w K mg base ["_law_text", "_law_begin_here", "_law_end"] "_law_count_due" (defScope (top 42)) (ga K "_law_count_due") cdv A outer s H E
  show XB _ J _ (defBody (top 42)) s_l_count_due
  exact (xb_cons (xs_if (t_lt w_v w_v) (xb_one (xs_ret (xe_lst (xa_ex xe_str (xa_ex w_v (xa_ex w_v xa_nil)))))) xb_nil)
    (xb_cons (xs_if (xw_or (t_lt w_v xe_int) (xw_or1 (t_ge w_v (w_len (Z.f "len" (Z.c.fact 1 (f := .std (.free "len")) rfl)) w_v)))).xt (xb_one (xs_ret (xe_lst (xa_ex xe_str (xa_ex w_v (xa_ex w_v xa_nil)))))) xb_nil)
    (xb_one (xs_ret (xe_lst (xa_ex xe_str (xa_ex (xe_frz (xe_sub (w_lenSetS (Z.f "len" (Z.c.fact 1 (f := .std (.free "len")) rfl)) (Z.f "set" (Z.c.fact 63 (f := .std (.free "set")) rfl)) (xe_sl hK w_v (xo_some w_v) (xo_some (xe_add w_v xe_int)))) xe_int)) xa_nil)))))))
theorem ok_l_count_due (Z : Fz fa fn K mg) : FnC P w K mg base 1 (ga K "_law_count_due") (spF K [.bor, .shr, .shr] true fn_l_count_due) := by
  obtain ⟨fd, F⟩ := Z.c.def_ ix_l_count_due (d := d_l_count_due) rfl
  exact ⟨⟨fd, ["_law_text", "_law_begin_here", "_law_end"], okf_l_count_due Z F, F.bindsN fun _ _ _ _ _ _ us hl => match us, hl with | [_, _, _], _ => rfl⟩, F.kp⟩
def s_l_stretches : SemS := (sSeq (sAsg 3 (fLst (aEx (fVar 2) (aEx (fFrz (fLst (aEx (fTwo true (fVar 2) (fC (.int 1)) kIx) (aEx (fTwo true (fVar 2) (fC (.int 0)) kIx) aNil)))) aNil))))
    (sSeq (sFor (iR2 (fOne (fC (.int 2)) (kS1 gNeg)) (fTwo true (fOne (fVar 1) (kS1 gLen)) (fC (.int 2)) kAdd)) (gNm 4) (sFor (iR2 (fOne (fC (.int 2)) (kS1 gNeg)) (fTwo true (fOne (fVar 1) (kS1 gLen)) (fC (.int 2)) kAdd)) (gNm 5) (sExpr (fApp 3 (fFrz (fLst (aEx (fVar 4) (aEx (fVar 5) aNil))))))))
    (sSeq (sFz 3 (sFor (iSrc (fVar 3) kItL) (gNm 6) (sSeq (sAsg 7 (fFrz (fCall [.bor, .bor, .bor] true fn_l_counted (aSl 0 (aEx (fTwo true (fVar 6) (fC (.int 0)) kIx) (aEx (fTwo true (fVar 6) (fC (.int 1)) kIx) aNil))))))
    (sIf (fOr (fTst (fTwo false (fVar 7) (fCall [.bor, .shr, .shr] true fn_l_count_due (aSl 1 (aEx (fTwo true (fVar 6) (fC (.int 0)) kIx) (aEx (fTwo true (fVar 6) (fC (.int 1)) kIx) aNil)))) (kS gNe))) (fNot (fTru (fCall [.shr] true fn_l_numbers (aSl 7 aNil))))) (sRet (fC (.bl false))) sNil))))
    (sRet (fC (.bl true))))))
def fn_l_stretches : Fn := runB [.bor, .bor, .shr] true 8 s_l_stretches
theorem sc_l_stretches : FnScope ["_law_coat", "_law_text", "_law_far", "_law_stretches_here", "_law_begin_here", "_law_end", "_law_stretch", "_law_told"] ["_law_coat", "_law_text", "_law_far"] (defScope (top 47)) := ⟨rfl, rfl, rfl, by decide +kernel, rfl, by decide +kernel, by decide +kernel⟩
theorem okf_l_stretches (Z : Fz fa fn K mg) {fd : FuncData} (F : FunD K d_l_stretches.name d_l_stretches.qual d_l_stretches.params d_l_stretches.body d_l_stretches.scope (d_l_stretches.dvs K) [] (d_l_stretches.ad K) fd) : FnOk P w K mg base (L2N.CX P w) 6 (ga K "_law_stretches") fd ["_law_coat", "_law_text", "_law_far"] (spF K [.bor, .bor, .shr] true fn_l_stretches) := by
  have nd := sc_l_stretches.nd
  refine fn_mv F sc_l_stretches rfl fun cdv A outer s H E J hK hfx hr => ?_
  have tk := @tk_cx P w K mg base ["_law_coat", "_law_text", "_law_far", "_law_stretches_here", "_law_begin_here", "_law_end", "_law_stretch", "_law_told"] "_law_stretches" (defScope (top 47)) (ga K "_law_stretches") cdv A outer s H E
  have po := @po_cx P w K mg base ["_law_coat", "_law_text", "_law_far", "_law_stretches_here", "_law_begin_here", "_law_end", "_law_stretch", "_law_told"] "_law_stretches" (defScope (top 47)) (ga K "_law_stretches") cdv A outer s H E
  show XB _ J _ (defBody (top 47)) s_l_stretches
  exact (xb_cons (w_asg nd (xe_lst (xa_ex w_v (xa_ex (xe_frz (xe_lst (xa_ex (xe_idx w_v xe_int) (xa_ex (xe_idx w_v xe_int) xa_nil)))) xa_nil))))
    (xb_cons (w_for po (w_r2 (Z.f "range" (Z.c.fact 3 (f := .std (.free "range")) rfl)) (w_neg xe_int) (xe_add (w_len (Z.f "len" (Z.c.fact 1 (f := .std (.free "len")) rfl)) w_v) xe_int)) w_gn (xb_one (w_for po (w_r2 (Z.f "range" (Z.c.fact 3 (f := .std (.free "range")) rfl)) (w_neg xe_int) (xe_add (w_len (Z.f "len" (Z.c.fact 1 (f := .std (.free "len")) rfl)) w_v) xe_int)) w_gn (xb_one (xs_expr (w_app (xe_frz (xe_lst (xa_ex w_v (xa_ex w_v xa_nil))))))))))
    (xb_cons (xs_fz (w_for po (xi_list w_v) w_gn (xb_cons (w_asg nd (xe_frz (w_call (ok_l_counted Z) (Z.g "_law_counted" (Z.c.fact 64 (f := .std (.glo "_law_counted")) rfl)) hr tk hK (w_sl (xa_ex (xe_idx w_v xe_int) (xa_ex (xe_idx w_v xe_int) xa_nil))))))
    (xb_one (xs_if (xw_or (t_ne hK (un64 hr) w_v (w_call (ok_l_count_due Z) (Z.g "_law_count_due" (Z.c.fact 65 (f := .std (.glo "_law_count_due")) rfl)) hr tk hK (w_sl (xa_ex (xe_idx w_v xe_int) (xa_ex (xe_idx w_v xe_int) xa_nil))))) (xw_or1 (xt_not (xt_tru hK (w_call (ok_l_numbers Z) (Z.g "_law_numbers" (Z.c.fact 66 (f := .std (.glo "_law_numbers")) rfl)) hr tk hK (w_sl xa_nil)))))).xt (xb_one (xs_ret xe_bl)) xb_nil)))))
    (xb_one (xs_ret xe_bl)))))
theorem ok_l_stretches (Z : Fz fa fn K mg) : FnC P w K mg base 6 (ga K "_law_stretches") (spF K [.bor, .bor, .shr] true fn_l_stretches) := by
  obtain ⟨fd, F⟩ := Z.c.def_ ix_l_stretches (d := d_l_stretches) rfl
  exact ⟨⟨fd, ["_law_coat", "_law_text", "_law_far"], okf_l_stretches Z F, F.bindsN fun _ _ _ _ _ _ us hl => match us, hl with | [_, _, _], _ => rfl⟩, F.kp⟩
def s_Coat_text : SemS := (sRet (fOne (fVar 0) (kFld "_text" ["Coat"])))
def fn_Coat_text : Fn := runB [.bor] false 1 s_Coat_text
theorem sc_Coat_text : FnScope ["self"] ["self"] (defScope (inClass (top 29) 5)) := ⟨rfl, rfl, rfl, by decide +kernel, rfl, by decide +kernel, by decide +kernel⟩
theorem okf_Coat_text (Z : Fz fa fn K mg) {fd : FuncData} (F : FunD K d_Coat_text.name d_Coat_text.qual d_Coat_text.params d_Coat_text.body d_Coat_text.scope (d_Coat_text.dvs K) [] (d_Coat_text.ad K) fd) : FnOk P w K mg base (L2N.CX P w) 1 (ma K (ga K "Coat") "text") fd ["self"] (spF K [.bor] false fn_Coat_text) := by
  have nd := sc_Coat_text.nd
  refine fn_mv F sc_Coat_text rfl fun cdv A outer s H E J hK hfx hr => ?_
  have tk := @tk_cx P w K mg base ["self"] "Coat.text" (defScope (inClass (top 29) 5)) (ma K (ga K "Coat") "text") cdv A outer s H E
  have po := @po_cx P w K mg base ["self"] "Coat.text" (defScope (inClass (top 29) 5)) (ma K (ga K "Coat") "text") cdv A outer s H E
  show XB _ J _ (defBody (inClass (top 29) 5)) s_Coat_text
  exact (xb_one (xs_ret (w_fld hK (fld_cons (z_cls (Z.c.fact 12 (f := .std (.cls "Coat")) rfl)) (z_noat (Z.c.fact 13 (f := .std (.noat "Coat" "_text")) rfl)) fld_nil) w_v)))
theorem ok_Coat_text (Z : Fz fa fn K mg) : FnC P w K mg base 1 (ma K (ga K "Coat") "text") (spF K [.bor] false fn_Coat_text) := by
  obtain ⟨fd, F⟩ := Z.c.def_ ix_Coat_text (d := d_Coat_text) rfl
  exact ⟨⟨fd, ["self"], okf_Coat_text Z F, F.bindsN fun _ _ _ _ _ _ us hl => match us, hl with | [_], _ => rfl⟩, F.kp⟩
theorem sc_raw_Coat___len__ : FnScope ["self"] ["self"] (defScope (inClass (top 29) 18)) := ⟨rfl, rfl, rfl, by decide +kernel, rfl, by decide +kernel, by decide +kernel⟩
theorem ok_raw_Coat___len__ (Z : Fz fa fn K mg) : FnC P w K mg base 1 (ma K (ga K "Coat") "__len__") (spLnT K (ga K "Coat") "_before") := by
  obtain ⟨fd, F⟩ := Z.c.def_ ix_raw_Coat___len__ (d := d_raw_Coat___len__) rfl
  exact ⟨⟨fd, ["self"], fn_lenT (k := 0) F sc_raw_Coat___len__ (.inl rfl) (fld_cons (z_cls (Z.c.fact 12 (f := .std (.cls "Coat")) rfl)) (z_noat (Z.c.fact 16 (f := .std (.noat "Coat" "_before")) rfl)) fld_nil) (Z.f "len" (Z.c.fact 1 (f := .std (.free "len")) rfl)), F.bindsN fun _ _ _ _ _ _ us hl => match us, hl with | [_], _ => rfl⟩, F.kp⟩
def s_Coat_colours : SemS := (sRet (fTwo true (fCall [.bor, .bor, .bor] false fn_count_in (aEx (fOne (fVar 0) (kFld "_before" ["Coat"])) (aEx (fC (.int 0)) (aEx (fOne (fOne (fVar 0) (kFld "_before" ["Coat"])) (kS1 gLen)) aNil)))) (fC (.int 1)) kAdd))
def fn_Coat_colours : Fn := runB [.bor] true 1 s_Coat_colours
theorem sc_Coat_colours : FnScope ["self"] ["self"] (defScope (inClass (top 29) 8)) := ⟨rfl, rfl, rfl, by decide +kernel, rfl, by decide +kernel, by decide +kernel⟩
theorem okf_Coat_colours (Z : Fz fa fn K mg) {fd : FuncData} (F : FunD K d_Coat_colours.name d_Coat_colours.qual d_Coat_colours.params d_Coat_colours.body d_Coat_colours.scope (d_Coat_colours.dvs K) [] (d_Coat_colours.ad K) fd) : FnOk P w K mg base (L2N.CX P w) 2 (recAt "property" K "Coat" "colours") fd ["self"] (spF K [.bor] true fn_Coat_colours) := by
  have nd := sc_Coat_colours.nd
  refine fn_mv F sc_Coat_colours rfl fun cdv A outer s H E J hK hfx hr => ?_
  have tk := @tk_cx P w K mg base ["self"] "Coat.colours" (defScope (inClass (top 29) 8)) (recAt "property" K "Coat" "colours") cdv A outer s H E
  have po := @po_cx P w K mg base ["self"] "Coat.colours" (defScope (inClass (top 29) 8)) (recAt "property" K "Coat" "colours") cdv A outer s H E
  show XB _ J _ (defBody (inClass (top 29) 8)) s_Coat_colours
  exact (xb_one (xs_ret (xe_add (w_call (ok_count_in Z) (Z.g "count_in" (Z.c.fact 49 (f := .std (.glo "count_in")) rfl)) hr tk hK (xa_ex (w_fld hK (fld_cons (z_cls (Z.c.fact 12 (f := .std (.cls "Coat")) rfl)) (z_noat (Z.c.fact 16 (f := .std (.noat "Coat" "_before")) rfl)) fld_nil) w_v) (xa_ex xe_int (xa_ex (w_len (Z.f "len" (Z.c.fact 1 (f := .std (.free "len")) rfl)) (w_fld hK (fld_cons (z_cls (Z.c.fact 12 (f := .std (.cls "Coat")) rfl)) (z_noat (Z.c.fact 16 (f := .std (.noat "Coat" "_before")) rfl)) fld_nil) w_v)) xa_nil)))) xe_int)))
theorem ok_Coat_colours (Z : Fz fa fn K mg) : FnC P w K mg base 2 (recAt "property" K "Coat" "colours") (spF K [.bor] true fn_Coat_colours) := by
  obtain ⟨fd, F⟩ := Z.c.def_ ix_Coat_colours (d := d_Coat_colours) rfl
  exact ⟨⟨fd, ["self"], okf_Coat_colours Z F, F.bindsN fun _ _ _ _ _ _ us hl => match us, hl with | [_], _ => rfl⟩, F.kp⟩
def s_Coat_places : SemS := (sRet (fOne (fOne (fVar 0) (kFld "_before" ["Coat"])) (kS1 gLen)))
def fn_Coat_places : Fn := runB [.bor] true 1 s_Coat_places
theorem sc_Coat_places : FnScope ["self"] ["self"] (defScope (inClass (top 29) 7)) := ⟨rfl, rfl, rfl, by decide +kernel, rfl, by decide +kernel, by decide +kernel⟩
theorem okf_Coat_places (Z : Fz fa fn K mg) {fd : FuncData} (F : FunD K d_Coat_places.name d_Coat_places.qual d_Coat_places.params d_Coat_places.body d_Coat_places.scope (d_Coat_places.dvs K) [] (d_Coat_places.ad K) fd) : FnOk P w K mg base (L2N.CX P w) 1 (recAt "property" K "Coat" "places") fd ["self"] (spF K [.bor] true fn_Coat_places) := by
  have nd := sc_Coat_places.nd
  refine fn_mv F sc_Coat_places rfl fun cdv A outer s H E J hK hfx hr => ?_
  have tk := @tk_cx P w K mg base ["self"] "Coat.places" (defScope (inClass (top 29) 7)) (recAt "property" K "Coat" "places") cdv A outer s H E
  have po := @po_cx P w K mg base ["self"] "Coat.places" (defScope (inClass (top 29) 7)) (recAt "property" K "Coat" "places") cdv A outer s H E
  show XB _ J _ (defBody (inClass (top 29) 7)) s_Coat_places
  exact (xb_one (xs_ret (w_len (Z.f "len" (Z.c.fact 1 (f := .std (.free "len")) rfl)) (w_fld hK (fld_cons (z_cls (Z.c.fact 12 (f := .std (.cls "Coat")) rfl)) (z_noat (Z.c.fact 16 (f := .std (.noat "Coat" "_before")) rfl)) fld_nil) w_v))))
theorem ok_Coat_places (Z : Fz fa fn K mg) : FnC P w K mg base 1 (recAt "property" K "Coat" "places") (spF K [.bor] true fn_Coat_places) := by
  obtain ⟨fd, F⟩ := Z.c.def_ ix_Coat_places (d := d_Coat_places) rfl
  exact ⟨⟨fd, ["self"], okf_Coat_places Z F, F.bindsN fun _ _ _ _ _ _ us hl => match us, hl with | [_], _ => rfl⟩, F.kp⟩
theorem sc_rwk_Coat___iter__ : FnScope ["self"] ["self"] (defScope (inClass (top 29) 19)) := ⟨rfl, rfl, rfl, by decide +kernel, rfl, by decide +kernel, by decide +kernel⟩
theorem ok_rwk_Coat___iter__ (Z : Fz fa fn K mg) : FnCS P w K mg base 1 (ma K (ga K "Coat") "__iter__") (spItS (ga K "Coat") "_text") := by
  obtain ⟨fd, F⟩ := Z.c.def_ ix_rwk_Coat___iter__ (d := d_rwk_Coat___iter__) rfl
  exact ⟨⟨fd, ["self"], fn_iterS (k := 0) F sc_rwk_Coat___iter__ (.inl rfl) (fld_cons (z_cls (Z.c.fact 12 (f := .std (.cls "Coat")) rfl)) (z_noat (Z.c.fact 13 (f := .std (.noat "Coat" "_text")) rfl)) fld_nil) (Z.f "iter" (Z.c.fact 73 (f := .std (.free "iter")) rfl)), F.bindsN fun _ _ _ _ _ _ us hl => match us, hl with | [_], _ => rfl⟩, F.kp⟩
def s_l_face : SemS := (sSeq (sIf (fOr (fNot (fTru (fOne (fVar 0) (kIsi (isIns [("Coat", true)]))))) (fNot (fTru (fOne (fMeth "Coat" "text" [.bor] false fn_Coat_text (rSl 0) aNil) (kIsi isStr))))) (sRet (fC (.bl false))) sNil)
    (sSeq (sAsg 2 (fFrz (fLst (aEx (fC (.str "face")) (aEx (fProp "Coat" "places" true fn_Coat_places (rSl 0)) (aEx (fProp "Coat" "colours" true fn_Coat_colours (rSl 0)) (aEx (fFrz (fOne (fVar 0) (kLenOT "Coat" "_before"))) (aEx (fC (.int 5)) aNil))))))))
    (sSeq (sAsg 3 (fFrz (fLst (aEx (fC (.str "face")) (aEx (fFrz (fTwo true (fOne (fVar 1) (kS1 gLen)) (fC (.int 1)) (kS (gI fun i j => i - j)))) (aEx (fFrz (fOne (fVar 1) kLenS)) (aEx (fFrz (fTwo true (fOne (fVar 1) (kS1 gLen)) (fC (.int 1)) (kS (gI fun i j => i - j)))) (aEx (fC (.int 5)) aNil))))))))
    (sSeq (sAsg 4 (fFrz (fLc true [5] (iSrc (fVar 0) (kItOS "Coat" "_text")) (gNm 5) bYes (fVar 5))))
    (sSeq (sIf (fOr (fNot (fTru (fCall [.shr] true fn_l_numbers (aSl 2 aNil)))) (fTst (fTwo true (fVar 2) (fVar 3) (kS gNe)))) (sRet (fC (.bl false))) sNil)
    (sRet (fAndV (fTwo true (fMeth "Coat" "text" [.bor] false fn_Coat_text (rSl 0) aNil) (fVar 1) (kS gEq)) (fTwo true (fVar 4) (fLc true [5] (iSrc (fVar 1) kItS) (gNm 5) bYes (fVar 5)) (kS gEq)))))))))
def fn_l_face : Fn := runB [.bor, .bor] true 6 s_l_face
theorem sc_l_face : FnScope ["_law_coat", "_law_text", "_law_told", "_law_due_here", "_law_letters", "_law_letter"] ["_law_coat", "_law_text"] (defScope (top 45)) := ⟨rfl, rfl, rfl, by decide +kernel, rfl, by decide +kernel, by decide +kernel⟩
theorem okf_l_face (Z : Fz fa fn K mg) {fd : FuncData} (F : FunD K d_l_face.name d_l_face.qual d_l_face.params d_l_face.body d_l_face.scope (d_l_face.dvs K) [] (d_l_face.ad K) fd) : FnOk P w K mg base (L2N.CX P w) 4 (ga K "_law_face") fd ["_law_coat", "_law_text"] (spF K [.bor, .bor] true fn_l_face) := by
  have nd := sc_l_face.nd
  refine fn_mv F sc_l_face rfl fun cdv A outer s H E J hK hfx hr => ?_
  have tk := @tk_cx P w K mg base ["_law_coat", "_law_text", "_law_told", "_law_due_here", "_law_letters", "_law_letter"] "_law_face" (defScope (top 45)) (ga K "_law_face") cdv A outer s H E
  have po := @po_cx P w K mg base ["_law_coat", "_law_text", "_law_told", "_law_due_here", "_law_letters", "_law_letter"] "_law_face" (defScope (top 45)) (ga K "_law_face") cdv A outer s H E
  show XB _ J _ (defBody (top 45)) s_l_face
  exact (xb_cons (xs_if (xw_or (xt_not (xt_tru hK (w_isiO hK (Z.c.fact 41 (f := .kiA "Coat") rfl) (it_cons (z_cls (Z.c.fact 12 (f := .std (.cls "Coat")) rfl)) (Z.c.fact 42 (f := .insO "Coat") rfl) (kit_ok (Z.c.fact 43 (f := .kit "Coat" "Coat" true) rfl)) it_nil) (Z.f "isinstance" (Z.c.fact 27 (f := .std (.free "isinstance")) rfl)) (pe_glob (by rfl) (Z.g "Coat" (Z.c.fact 18 (f := .std (.glo "Coat")) rfl)) (v := .ref (ga K "Coat")) rfl) w_v))) (xw_or1 (xt_not (xt_tru hK (w_isi hK isOk_str (Z.f "isinstance" (Z.c.fact 27 (f := .std (.free "isinstance")) rfl)) (w_ty (Z.f "str" (Z.c.fact 68 (f := .std (.free "str")) rfl))) (w_meth0 (ok_Coat_text Z) (z_cls (Z.c.fact 12 (f := .std (.cls "Coat")) rfl)) (z_meth (Z.c.fact 67 (f := .std (.meth "Coat" "text")) rfl)) hr tk hK w_rsl)))))).xt (xb_one (xs_ret xe_bl)) xb_nil)
    (xb_cons (w_asg nd (xe_frz (xe_lst (xa_ex xe_str (xa_ex (w_prop hK (z_cls (Z.c.fact 12 (f := .std (.cls "Coat")) rfl)) (prop_ok (Z.c.fact 72 (f := .prop "Coat" "places") rfl)) (ok_Coat_places Z) hr w_rsl) (xa_ex (w_prop hK (z_cls (Z.c.fact 12 (f := .std (.cls "Coat")) rfl)) (prop_ok (Z.c.fact 71 (f := .prop "Coat" "colours") rfl)) (ok_Coat_colours Z) hr w_rsl) (xa_ex (xe_frz (w_lenOT (ok_raw_Coat___len__ Z) (own_ok (Z.c.fact 70 (f := .own "Coat" "__len__") rfl)) (Z.f "len" (Z.c.fact 1 (f := .std (.free "len")) rfl)) hr hK w_v)) (xa_ex (w_cval (cval_ok (Z.c.fact 69 (f := .cval "Coat" "MOST_PLACES" 5) rfl)) (Z.g "Coat" (Z.c.fact 18 (f := .std (.glo "Coat")) rfl))) xa_nil))))))))
    (xb_cons (w_asg nd (xe_frz (xe_lst (xa_ex xe_str (xa_ex (xe_frz (xe_sub (w_len (Z.f "len" (Z.c.fact 1 (f := .std (.free "len")) rfl)) w_v) xe_int)) (xa_ex (xe_frz (w_lenSetS (Z.f "len" (Z.c.fact 1 (f := .std (.free "len")) rfl)) (Z.f "set" (Z.c.fact 63 (f := .std (.free "set")) rfl)) w_v)) (xa_ex (xe_frz (xe_sub (w_len (Z.f "len" (Z.c.fact 1 (f := .std (.free "len")) rfl)) w_v) xe_int)) (xa_ex xe_int xa_nil))))))))
    (xb_cons (w_asgLcF nd (own := [("_law_letter", 5)]) (ok := (⟨rfl, by decide +kernel, by decide +kernel, by decide +kernel, by decide +kernel⟩ : BlkOk ["_law_coat", "_law_text", "_law_told", "_law_due_here", "_law_letters", "_law_letter"] (defScope (top 45)) _ [("_law_letter", 5)])) (xi_ownS (ok_rwk_Coat___iter__ Z) (own_ok (Z.c.fact 74 (f := .own "Coat" "__iter__") rfl)) hr hK w_v) (fun _ _ _ _ _ => w_gn) (fun _ _ _ _ _ => xps_nil) (fun _ _ _ _ _ => w_v))
    (xb_cons (xs_if (xw_or (xt_not (xt_tru hK (w_call (ok_l_numbers Z) (Z.g "_law_numbers" (Z.c.fact 66 (f := .std (.glo "_law_numbers")) rfl)) hr tk hK (w_sl xa_nil)))) (xw_or1 (t_ne hK (un64 hr) w_v w_v))).xt (xb_one (xs_ret xe_bl)) xb_nil)
    (xb_one (xs_ret (xe_and (w_eq hK (un64 hr) (w_meth0 (ok_Coat_text Z) (z_cls (Z.c.fact 12 (f := .std (.cls "Coat")) rfl)) (z_meth (Z.c.fact 67 (f := .std (.meth "Coat" "text")) rfl)) hr tk hK w_rsl) w_v) (xe_one1 (w_eq hK (un64 hr) w_v (w_lc nd (own := [("_law_letter", 5)]) (ok := (⟨rfl, by decide +kernel, by decide +kernel, by decide +kernel, by decide +kernel⟩ : BlkOk ["_law_coat", "_law_text", "_law_told", "_law_due_here", "_law_letters", "_law_letter"] (defScope (top 45)) _ [("_law_letter", 5)])) (xi_str w_v) (fun _ _ _ _ _ => w_gn) (fun _ _ _ _ _ => xps_nil) (fun _ _ _ _ _ => w_v))))))))))))
theorem ok_l_face (Z : Fz fa fn K mg) : FnC P w K mg base 4 (ga K "_law_face") (spF K [.bor, .bor] true fn_l_face) := by
  obtain ⟨fd, F⟩ := Z.c.def_ ix_l_face (d := d_l_face) rfl
  exact ⟨⟨fd, ["_law_coat", "_law_text"], okf_l_face Z F, F.bindsN fun _ _ _ _ _ _ us hl => match us, hl with | [_, _], _ => rfl⟩, F.kp⟩
def s_Coat_same : SemS := (sSeq (sFor (iSrc (fLst (aEx (fVar 1) (aEx (fVar 2) aNil))) kItL) (gNm 3) (sIf (fNot (fTst (fChain bLe bLe (fC (.int 0)) (fVar 3) (fOne (fOne (fVar 0) (kFld "_before" ["Coat"])) (kS1 gLen))))) (sRaise "BadNumber" ["number"] (aSl 3 aNil)) sNil))
    (sRet (fTwo true (fTwo true (fOne (fVar 0) (kFld "_text" ["Coat"])) (fVar 1) kIx) (fTwo true (fOne (fVar 0) (kFld "_text" ["Coat"])) (fVar 2) kIx) (kS gEq))))
def fn_Coat_same : Fn := runB [.bor, .shr, .shr] true 4 s_Coat_same
theorem sc_Coat_same : FnScope ["self", "first", "second", "gap"] ["self", "first", "second"] (defScope (inClass (top 29) 10)) := ⟨rfl, rfl, rfl, by decide +kernel, rfl, by decide +kernel, by decide +kernel⟩
theorem okf_Coat_same (Z : Fz fa fn K mg) {fd : FuncData} (F : FunD K d_Coat_same.name d_Coat_same.qual d_Coat_same.params d_Coat_same.body d_Coat_same.scope (d_Coat_same.dvs K) [] (d_Coat_same.ad K) fd) : FnOk P w K mg base (L2N.CX P w) 3 (ma K (ga K "Coat") "same") fd ["self", "first", "second"] (spF K [.bor, .shr, .shr] true fn_Coat_same) := by
  have nd := sc_Coat_same.nd
  refine fn_mv F sc_Coat_same rfl fun cdv A outer s H E J hK hfx hr => ?_
  have tk := @tk_cx P w K mg base ["self", "first", "second", "gap"] "Coat.same" (defScope (inClass (top 29) 10)) (ma K (ga K "Coat") "same") cdv A outer s H E
  have po := @po_cx P w K mg base ["self", "first", "second", "gap"] "Coat.same" (defScope (inClass (top 29) 10)) (ma K (ga K "Coat") "same") cdv A outer s H E
  show XB _ J _ (defBody (inClass (top 29) 10)) s_Coat_same
  exact (xb_cons (w_for po (xi_list (xe_lst (xa_ex w_v (xa_ex w_v xa_nil)))) w_gn (xb_one (xs_if (xt_not (xt_chain op_le op_le xe_int w_v (w_len (Z.f "len" (Z.c.fact 1 (f := .std (.free "len")) rfl)) (w_fld hK (fld_cons (z_cls (Z.c.fact 12 (f := .std (.cls "Coat")) rfl)) (z_noat (Z.c.fact 16 (f := .std (.noat "Coat" "_before")) rfl)) fld_nil) w_v)))) (xb_one (w_raise (xc_ok (Z.c.fact 75 (f := .xc "BadNumber" ["number"]) rfl)) (okx_BadNumber Z) (Z.g "BadNumber" (Z.c.fact 23 (f := .std (.glo "BadNumber")) rfl)) hr tk hK (w_sl xa_nil))) xb_nil)))
    (xb_one (xs_ret (w_eq hK (un64 hr) (xe_idx (w_fld hK (fld_cons (z_cls (Z.c.fact 12 (f := .std (.cls "Coat")) rfl)) (z_noat (Z.c.fact 13 (f := .std (.noat "Coat" "_text")) rfl)) fld_nil) w_v) w_v) (xe_idx (w_fld hK (fld_cons (z_cls (Z.c.fact 12 (f := .std (.cls "Coat")) rfl)) (z_noat (Z.c.fact 13 (f := .std (.noat "Coat" "_text")) rfl)) fld_nil) w_v) w_v)))))
theorem ok_Coat_same (Z : Fz fa fn K mg) : FnC P w K mg base 3 (ma K (ga K "Coat") "same") (spF K [.bor, .shr, .shr] true fn_Coat_same) := by
  obtain ⟨fd, F⟩ := Z.c.def_ ix_Coat_same (d := d_Coat_same) rfl
  exact ⟨⟨fd, ["self", "first", "second"], okf_Coat_same Z F, F.bindsN fun _ _ _ _ _ _ us hl => match us, hl with | [_, _, _], _ => rfl⟩, F.kp⟩
def h_l_alike_0 : HSem := ⟨some 3, tabX ["BadNumber"] ["BadSize", "BadCoat", "BadStretch", "OutOfWindow"], fun k fs => (sRet (fLst (aEx (fC (.str "number")) (aEx (fXf fs "number") aNil))))⟩
def s_l_alike : SemS := (sTry (sRet (fLst (aEx (fC (.str "same")) (aEx (fFrz (fMeth "Coat" "same" [.bor, .shr, .shr] true fn_Coat_same (rSl 0) (aSl 1 (aSl 2 aNil)))) aNil)))) [h_l_alike_0])
def fn_l_alike : Fn := runB [.bor, .bor, .bor] true 4 s_l_alike
theorem sc_l_alike : FnScope ["_law_coat", "_law_first", "_law_second", "e"] ["_law_coat", "_law_first", "_law_second"] (defScope (top 43)) := ⟨rfl, rfl, rfl, by decide +kernel, rfl, by decide +kernel, by decide +kernel⟩
theorem okf_l_alike (Z : Fz fa fn K mg) {fd : FuncData} (F : FunD K d_l_alike.name d_l_alike.qual d_l_alike.params d_l_alike.body d_l_alike.scope (d_l_alike.dvs K) [] (d_l_alike.ad K) fd) : FnOk P w K mg base (L2N.CX P w) 4 (ga K "_law_alike") fd ["_law_coat", "_law_first", "_law_second"] (spF K [.bor, .bor, .bor] true fn_l_alike) := by
  have nd := sc_l_alike.nd
  refine fn_mv0 F sc_l_alike rfl fun cdv A outer s H E J hK hfx hr => ?_
  have tk := @tk_cx P w K mg base ["_law_coat", "_law_first", "_law_second", "e"] "_law_alike" (defScope (top 43)) (ga K "_law_alike") cdv A outer s H E
  have po := @po_cx P w K mg base ["_law_coat", "_law_first", "_law_second", "e"] "_law_alike" (defScope (top 43)) (ga K "_law_alike") cdv A outer s H E
  show XB0 _ J _ (defBody (top 43)) s_l_alike
  exact (xb0_one (xs0_try (l := [(h_l_alike_0, .ref (ga K "BadNumber"))]) rfl rfl nd tk hfx hK (fun W tp xe tk po => (xb_one (xs_ret (xe_lst (xa_ex xe_str (xa_ex (xe_frz (w_meth (ok_Coat_same Z) (z_cls (Z.c.fact 12 (f := .std (.cls "Coat")) rfl)) (z_meth (Z.c.fact 76 (f := .std (.meth "Coat" "same")) rfl)) hr tk hK w_rsl (w_sl (w_sl xa_nil)))) xa_nil)))))) (.as (h := h_l_alike_0) (c := .ref (ga K "BadNumber")) (names_own (Z.g "BadNumber" (Z.c.fact 23 (f := .std (.glo "BadNumber")) rfl))) rfl rfl rfl (tabX_ok (all_cons (z_exm (Z.c.fact 77 (f := .std (.exm "BadNumber" "BadNumber" true)) rfl)) all_nil) (all_cons (z_exm (Z.c.fact 81 (f := .std (.exm "BadSize" "BadNumber" false)) rfl)) (all_cons (z_exm (Z.c.fact 80 (f := .std (.exm "BadCoat" "BadNumber" false)) rfl)) (all_cons (z_exm (Z.c.fact 79 (f := .std (.exm "BadStretch" "BadNumber" false)) rfl)) (all_cons (z_exm (Z.c.fact 78 (f := .std (.exm "OutOfWindow" "BadNumber" false)) rfl)) all_nil))))) (fun a oe d pn J k fs hK hx er hz hf hm => by
        have hk := tabX_yes hm
        rcases List.mem_cons.mp hk with rfl | hk
        · show XB _ _ _ _ ((sRet (fLst (aEx (fC (.str "number")) (aEx (fXf fs "number") aNil)))))
          exact (xb_one (xs_ret (xe_lst (xa_ex xe_str (xa_ex (xe_xf hK hx er hz hf (xr_ok (Z.c.fact 82 (f := .xr "BadNumber") rfl)).1 ((xc_ok (Z.c.fact 75 (f := .xc "BadNumber" ["number"]) rfl)).2.1 "number" (by decide)) rfl (.inl rfl)) xa_nil)))))
        cases hk) .nil)))
theorem ok_l_alike (Z : Fz fa fn K mg) : FnC P w K mg base 4 (ga K "_law_alike") (spF K [.bor, .bor, .bor] true fn_l_alike) := by
  obtain ⟨fd, F⟩ := Z.c.def_ ix_l_alike (d := d_l_alike) rfl
  exact ⟨⟨fd, ["_law_coat", "_law_first", "_law_second"], okf_l_alike Z F, F.bindsN fun _ _ _ _ _ _ us hl => match us, hl with | [_, _, _], _ => rfl⟩, F.kp⟩
def s_l_alike_due : SemS := (sSeq (sFor (iSrc (fLst (aEx (fVar 1) (aEx (fVar 2) aNil))) kItL) (gNm 3) (sIf (fNot (fTst (fChain bLe bLt (fC (.int 0)) (fVar 3) (fOne (fVar 0) (kS1 gLen))))) (sRet (fLst (aEx (fC (.str "number")) (aEx (fVar 3) aNil)))) sNil))
    (sRet (fLst (aEx (fC (.str "same")) (aEx (fTwo true (fTwo true (fVar 0) (fVar 1) kIx) (fTwo true (fVar 0) (fVar 2) kIx) (kS gEq)) aNil)))))
def fn_l_alike_due : Fn := runB [.bor, .shr, .shr] true 4 s_l_alike_due
theorem sc_l_alike_due : FnScope ["_law_text", "_law_first", "_law_second", "_law_gap"] ["_law_text", "_law_first", "_law_second"] (defScope (top 44)) := ⟨rfl, rfl, rfl, by decide +kernel, rfl, by decide +kernel, by decide +kernel⟩
theorem okf_l_alike_due (Z : Fz fa fn K mg) {fd : FuncData} (F : FunD K d_l_alike_due.name d_l_alike_due.qual d_l_alike_due.params d_l_alike_due.body d_l_alike_due.scope (d_l_alike_due.dvs K) [] (d_l_alike_due.ad K) fd) : FnOk P w K mg base (L2N.CX P w) 1 (ga K "_law_alike_due") fd ["_law_text", "_law_first", "_law_second"] (spF K [.bor, .shr, .shr] true fn_l_alike_due) := by
  have nd := sc_l_alike_due.nd
  refine fn_mv F sc_l_alike_due rfl fun cdv A outer s H E J hK hfx hr => ?_
  have tk := @tk_cx P w K mg base ["_law_text", "_law_first", "_law_second", "_law_gap"] "_law_alike_due" (defScope (top 44)) (ga K "_law_alike_due") cdv A outer s H E
  have po := @po_cx P w K mg base ["_law_text", "_law_first", "_law_second", "_law_gap"] "_law_alike_due" (defScope (top 44)) (ga K "_law_alike_due") cdv A outer s H E
  show XB _ J _ (defBody (top 44)) s_l_alike_due
  exact (xb_cons (w_for po (xi_list (xe_lst (xa_ex w_v (xa_ex w_v xa_nil)))) w_gn (xb_one (xs_if (xt_not (xt_chain op_le op_lt xe_int w_v (w_len (Z.f "len" (Z.c.fact 1 (f := .std (.free "len")) rfl)) w_v))) (xb_one (xs_ret (xe_lst (xa_ex xe_str (xa_ex w_v xa_nil))))) xb_nil)))
    (xb_one (xs_ret (xe_lst (xa_ex xe_str (xa_ex (w_eq hK (un64 hr) (xe_idx w_v w_v) (xe_idx w_v w_v)) xa_nil))))))
theorem ok_l_alike_due (Z : Fz fa fn K mg) : FnC P w K mg base 1 (ga K "_law_alike_due") (spF K [.bor, .shr, .shr] true fn_l_alike_due) := by
  obtain ⟨fd, F⟩ := Z.c.def_ ix_l_alike_due (d := d_l_alike_due) rfl
  exact ⟨⟨fd, ["_law_text", "_law_first", "_law_second"], okf_l_alike_due Z F, F.bindsN fun _ _ _ _ _ _ us hl => match us, hl with | [_, _, _], _ => rfl⟩, F.kp⟩
def s_l_gaps : SemS := (sSeq (sFor (iR2 (fOne (fC (.int 1)) (kS1 gNeg)) (fTwo true (fOne (fVar 1) (kS1 gLen)) (fC (.int 1)) kAdd)) (gNm 2) (sFor (iR2 (fOne (fC (.int 1)) (kS1 gNeg)) (fTwo true (fOne (fVar 1) (kS1 gLen)) (fC (.int 1)) kAdd)) (gNm 3) (sSeq (sAsg 4 (fFrz (fCall [.bor, .bor, .bor] true fn_l_alike (aSl 0 (aSl 2 (aSl 3 aNil))))))
    (sSeq (sAsg 5 (fFrz (fCall [.bor, .shr, .shr] true fn_l_alike_due (aSl 1 (aSl 2 (aSl 3 aNil))))))
    (sIf (fOr (fTst (fTwo true (fVar 4) (fVar 5) (kS gNe))) (fTst (fTwo true (fOne (fTwo true (fVar 4) (fC (.int 1)) kIx) (kIsi isBl)) (fOne (fTwo true (fVar 5) (fC (.int 1)) kIx) (kIsi isBl)) (kS gNe)))) (sRet (fC (.bl false))) sNil)))))
    (sRet (fC (.bl true))))
def fn_l_gaps : Fn := runB [.bor, .bor] true 6 s_l_gaps
theorem sc_l_gaps : FnScope ["_law_coat", "_law_text", "_law_first", "_law_second", "_law_told", "_law_due_here"] ["_law_coat", "_law_text"] (defScope (top 46)) := ⟨rfl, rfl, rfl, by decide +kernel, rfl, by decide +kernel, by decide +kernel⟩
theorem okf_l_gaps (Z : Fz fa fn K mg) {fd : FuncData} (F : FunD K d_l_gaps.name d_l_gaps.qual d_l_gaps.params d_l_gaps.body d_l_gaps.scope (d_l_gaps.dvs K) [] (d_l_gaps.ad K) fd) : FnOk P w K mg base (L2N.CX P w) 5 (ga K "_law_gaps") fd ["_law_coat", "_law_text"] (spF K [.bor, .bor] true fn_l_gaps) := by
  have nd := sc_l_gaps.nd
  refine fn_mv F sc_l_gaps rfl fun cdv A outer s H E J hK hfx hr => ?_
  have tk := @tk_cx P w K mg base ["_law_coat", "_law_text", "_law_first", "_law_second", "_law_told", "_law_due_here"] "_law_gaps" (defScope (top 46)) (ga K "_law_gaps") cdv A outer s H E
  have po := @po_cx P w K mg base ["_law_coat", "_law_text", "_law_first", "_law_second", "_law_told", "_law_due_here"] "_law_gaps" (defScope (top 46)) (ga K "_law_gaps") cdv A outer s H E
  show XB _ J _ (defBody (top 46)) s_l_gaps
  exact (xb_cons (w_for po (w_r2 (Z.f "range" (Z.c.fact 3 (f := .std (.free "range")) rfl)) (w_neg xe_int) (xe_add (w_len (Z.f "len" (Z.c.fact 1 (f := .std (.free "len")) rfl)) w_v) xe_int)) w_gn (xb_one (w_for po (w_r2 (Z.f "range" (Z.c.fact 3 (f := .std (.free "range")) rfl)) (w_neg xe_int) (xe_add (w_len (Z.f "len" (Z.c.fact 1 (f := .std (.free "len")) rfl)) w_v) xe_int)) w_gn (xb_cons (w_asg nd (xe_frz (w_call (ok_l_alike Z) (Z.g "_law_alike" (Z.c.fact 83 (f := .std (.glo "_law_alike")) rfl)) hr tk hK (w_sl (w_sl (w_sl xa_nil))))))
    (xb_cons (w_asg nd (xe_frz (w_call (ok_l_alike_due Z) (Z.g "_law_alike_due" (Z.c.fact 84 (f := .std (.glo "_law_alike_due")) rfl)) hr tk hK (w_sl (w_sl (w_sl xa_nil))))))
    (xb_one (xs_if (xw_or (t_ne hK (un64 hr) w_v w_v) (xw_or1 (t_ne hK (un64 hr) (w_isi hK isOk_bl (Z.f "isinstance" (Z.c.fact 27 (f := .std (.free "isinstance")) rfl)) (w_ty (Z.f "bool" (Z.c.fact 34 (f := .std (.free "bool")) rfl))) (xe_idx w_v xe_int)) (w_isi hK isOk_bl (Z.f "isinstance" (Z.c.fact 27 (f := .std (.free "isinstance")) rfl)) (w_ty (Z.f "bool" (Z.c.fact 34 (f := .std (.free "bool")) rfl))) (xe_idx w_v xe_int))))).xt (xb_one (xs_ret xe_bl)) xb_nil)))))))
    (xb_one (xs_ret xe_bl)))
theorem ok_l_gaps (Z : Fz fa fn K mg) : FnC P w K mg base 5 (ga K "_law_gaps") (spF K [.bor, .bor] true fn_l_gaps) := by
  obtain ⟨fd, F⟩ := Z.c.def_ ix_l_gaps (d := d_l_gaps) rfl
  exact ⟨⟨fd, ["_law_coat", "_law_text"], okf_l_gaps Z F, F.bindsN fun _ _ _ _ _ _ us hl => match us, hl with | [_, _], _ => rfl⟩, F.kp⟩
def s_l_asked : SemS := (sSeq (sIf (fOr (fNot (fTru (fCall [.bor, .bor] true fn_l_face (aSl 0 (aSl 1 aNil))))) (fNot (fTru (fCall [.bor, .bor] true fn_l_gaps (aSl 0 (aSl 1 aNil)))))) (sRet (fC (.bl false))) sNil)
    (sSeq (sIf (fNot (fTru (fCall [.bor, .bor, .shr] true fn_l_stretches (aSl 0 (aSl 1 (aSl 3 aNil)))))) (sRet (fC (.bl false))) sNil)
    (sSeq (sFor (iSrc (fVar 2) kItL) (gNm 4) (sIf (fNot (fTru (fCall [.bor, .bor, .bor] true fn_l_equal (aSl 0 (aEx (fMake "Coat" [.shr] fn_Coat___init__ (aSl 4 aNil)) (aEx (fTwo true (fVar 4) (fVar 1) (kS gEq)) aNil)))))) (sRet (fC (.bl false))) sNil))
    (sRet (fCall [.bor, .bor, .bor] true fn_l_equal (aSl 0 (aSl 1 (aEx (fC (.bl false)) aNil))))))))
def fn_l_asked : Fn := runB [.bor, .bor, .bor, .shr] true 5 s_l_asked
theorem sc_l_asked : FnScope ["_law_coat", "_law_text", "_law_words", "_law_far", "_law_word"] ["_law_coat", "_law_text", "_law_words", "_law_far"] (defScope (top 49)) := ⟨rfl, rfl, rfl, by decide +kernel, rfl, by decide +kernel, by decide +kernel⟩
theorem okf_l_asked (Z : Fz fa fn K mg) {fd : FuncData} (F : FunD K d_l_asked.name d_l_asked.qual d_l_asked.params d_l_asked.body d_l_asked.scope (d_l_asked.dvs K) [] (d_l_asked.ad K) fd) : FnOk P w K mg base (L2N.CX P w) 7 (ga K "_law_asked") fd ["_law_coat", "_law_text", "_law_words", "_law_far"] (spF K [.bor, .bor, .bor, .shr] true fn_l_asked) := by
  have nd := sc_l_asked.nd
  refine fn_mv F sc_l_asked rfl fun cdv A outer s H E J hK hfx hr => ?_
  have tk := @tk_cx P w K mg base ["_law_coat", "_law_text", "_law_words", "_law_far", "_law_word"] "_law_asked" (defScope (top 49)) (ga K "_law_asked") cdv A outer s H E
  have po := @po_cx P w K mg base ["_law_coat", "_law_text", "_law_words", "_law_far", "_law_word"] "_law_asked" (defScope (top 49)) (ga K "_law_asked") cdv A outer s H E
  show XB _ J _ (defBody (top 49)) s_l_asked
  exact (xb_cons (xs_if (xw_or (xt_not (xt_tru hK (w_call (ok_l_face Z) (Z.g "_law_face" (Z.c.fact 85 (f := .std (.glo "_law_face")) rfl)) hr tk hK (w_sl (w_sl xa_nil))))) (xw_or1 (xt_not (xt_tru hK (w_call (ok_l_gaps Z) (Z.g "_law_gaps" (Z.c.fact 86 (f := .std (.glo "_law_gaps")) rfl)) hr tk hK (w_sl (w_sl xa_nil))))))).xt (xb_one (xs_ret xe_bl)) xb_nil)
    (xb_cons (xs_if (xt_not (xt_tru hK (w_call (ok_l_stretches Z) (Z.g "_law_stretches" (Z.c.fact 87 (f := .std (.glo "_law_stretches")) rfl)) hr tk hK (w_sl (w_sl (w_sl xa_nil)))))) (xb_one (xs_ret xe_bl)) xb_nil)
    (xb_cons (w_for po (xi_list w_v) w_gn (xb_one (xs_if (xt_not (xt_tru hK (w_call (ok_l_equal Z) (Z.g "_law_equal" (Z.c.fact 88 (f := .std (.glo "_law_equal")) rfl)) hr tk hK (w_sl (xa_ex (w_make (ok_Coat___init__ Z) (z_mkr (Z.c.fact 17 (f := .std (.mkr "Coat")) rfl)) (Z.g "Coat" (Z.c.fact 18 (f := .std (.glo "Coat")) rfl)) hr tk hK (w_sl xa_nil)) (xa_ex (w_eq hK (un64 hr) w_v w_v) xa_nil)))))) (xb_one (xs_ret xe_bl)) xb_nil)))
    (xb_one (xs_ret (w_call (ok_l_equal Z) (Z.g "_law_equal" (Z.c.fact 88 (f := .std (.glo "_law_equal")) rfl)) hr tk hK (w_sl (w_sl (xa_ex xe_bl xa_nil)))))))))
theorem ok_l_asked (Z : Fz fa fn K mg) : FnC P w K mg base 7 (ga K "_law_asked") (spF K [.bor, .bor, .bor, .shr] true fn_l_asked) := by
  obtain ⟨fd, F⟩ := Z.c.def_ ix_l_asked (d := d_l_asked) rfl
  exact ⟨⟨fd, ["_law_coat", "_law_text", "_law_words", "_law_far"], okf_l_asked Z F, F.bindsN fun _ _ _ _ _ _ us hl => match us, hl with | [_, _, _, _], _ => rfl⟩, F.kp⟩
def s_law : SemS := (sSeq (sAsg 1 (fCall [.bor] true fn_l_begin (aSl 0 aNil)))
    (sSeq (sAsg 2 (fFrz (fCall [.io, .bor] false fn_l_draw (aSl 1 (aEx (fC (.int 8)) aNil)))))
    (sSeq (sAsg 3 (fFrz (fCall [.io, .bor, .bor] false fn_l_coat_text (aSl 1 (aEx (fTwo false (fLst (aEx (fC (.int 3)) (aEx (fC (.int 5)) (aEx (fC (.int 4)) (aEx (fC (.int 2)) (aEx (fC (.int 1)) (aEx (fC (.int 0)) aNil))))))) (fCall [.io, .bor] false fn_l_draw (aSl 1 (aEx (fC (.int 6)) aNil))) kIx) (aEx (fC (.int 0)) aNil))))))
    (sSeq (sIf (fOr (fTst (fTwo true (fVar 2) (fC (.int 4)) (kS gEq))) (fTst (fTwo true (fVar 2) (fC (.int 5)) (kS gEq)))) (sAsg 3 (fFrz (fCall [.io, .bor] true fn_l_spoilt (aSl 1 (aSl 3 aNil))))) sNil)
    (sSeq (sIf (fTst (fTwo true (fVar 2) (fC (.int 6)) (kS gEq))) (sAsg 3 (fFrz (fCall [.io] false fn_l_free (aSl 1 aNil)))) sNil)
    (sSeq (sIf (fTst (fTwo true (fVar 2) (fC (.int 7)) (kS gEq))) (sAsg 3 (fFrz (fCall [.io] true fn_l_long (aSl 1 aNil)))) sNil)
    (sSeq (sAsg 4 (fFrz (fCall [.io, .bor, .bor] false fn_l_coat_text (aSl 1 (aEx (fTwo false (fLst (aEx (fC (.int 4)) (aEx (fC (.int 3)) (aEx (fC (.int 5)) (aEx (fC (.int 0)) (aEx (fC (.int 2)) (aEx (fC (.int 1)) aNil))))))) (fCall [.io, .bor] false fn_l_draw (aSl 1 (aEx (fC (.int 6)) aNil))) kIx) (aEx (fC (.int 1)) aNil))))))
    (sSeq (sAsg 5 (fLst (aEx (fFrz (fTwo true (fTwo true (fOne (fTwo true (fCall [.io, .bor] false fn_l_draw (aSl 1 (aEx (fC (.int 2001)) aNil))) (fC (.int 997)) kAdd) (kS1 gInt)) (fC (.int 2001)) (kS (gIc cMod Int.fmod))) (fC (.int 1000)) (kS (gI fun i j => i - j)))) aNil)))
    (sSeq (sExpr (fApp 5 (fFrz (fTwo true (fTwo true (fOne (fTwo true (fCall [.io, .bor] false fn_l_draw (aSl 1 (aEx (fC (.int 2001)) aNil))) (fC (.int 1007)) kAdd) (kS1 gInt)) (fC (.int 2001)) (kS (gIc cMod Int.fmod))) (fC (.int 1000)) (kS (gI fun i j => i - j))))))
    (sSeq (sAsg 6 (fFrz (fCall [.bor] true fn_l_due (aSl 3 aNil))))
    (sSeq (sAsg 7 (fFrz (fCall [.shr] true fn_l_made (aSl 3 aNil))))
    (sSeq (sIf (fOr (fTst (fTwo true (fVar 7) (fVar 6) (kS gNe))) (fNot (fTru (fCall [.shr] true fn_l_numbers (aSl 7 aNil))))) (sRet (fC (.bl false))) sNil)
    (sSeq (sAsg 8 (fFrz (fLst (aEx (fVar 4) (aEx (fVar 3) aNil)))))
    (sSeq (sIf (fTst (fTwo true (fVar 6) (fLst (aEx (fC (.str "made")) aNil)) (kS gNe))) (sSeq (sAsg 8 (fFrz (fLst (aEx (fVar 4) aNil))))
    (sIf (fNot (fTru (fCall [.shr] true fn_l_base (aSl 3 aNil)))) (sRet (fC (.bl false))) sNil)) sNil)
    (sSeq (sAsg 9 (fFrz (fLc false [10] (iSrc (fVar 8) kItL) (gNm 10) bYes (fFrz (fMake "Coat" [.shr] fn_Coat___init__ (aSl 10 aNil))))))
    (sSeq (sFz 5 (sFor (iR1 (fC (.int 2))) (gNm 11) (sFz 5 (sFor (iR1 (fOne (fVar 8) (kS1 gLen))) (gNm 12) (sFz 5 (sIf (fNot (fTru (fCall [.bor, .bor, .bor, .shr] true fn_l_asked (aEx (fTwo true (fVar 9) (fVar 12) kIx) (aEx (fTwo true (fVar 8) (fVar 12) kIx) (aSl 8 (aSl 5 aNil))))))) (sRet (fC (.bl false))) sNil))))))
    (sRet (fC (.bl true)))))))))))))))))))
def fn_law : Fn := runB [.bor] true 13 s_law
theorem sc_law : FnScope ["_law_script", "_law_state", "_law_mode", "_law_text", "_law_other", "_law_far", "_law_due_here", "_law_told", "_law_words", "_law_coats", "_law_word", "_law_turn", "_law_number"] ["_law_script"] (defScope (top 50)) := ⟨rfl, rfl, rfl, by decide +kernel, rfl, by decide +kernel, by decide +kernel⟩
theorem okf_law (Z : Fz fa fn K mg) {fd : FuncData} (F : FunD K d_law.name d_law.qual d_law.params d_law.body d_law.scope (d_law.dvs K) [] (d_law.ad K) fd) : FnOk P w K mg base (L2N.CX P w) 8 (ga K "law") fd ["_law_script"] (spF K [.bor] true fn_law) := by
  have nd := sc_law.nd
  refine fn_mv F sc_law rfl fun cdv A outer s H E J hK hfx hr => ?_
  have tk := @tk_cx P w K mg base ["_law_script", "_law_state", "_law_mode", "_law_text", "_law_other", "_law_far", "_law_due_here", "_law_told", "_law_words", "_law_coats", "_law_word", "_law_turn", "_law_number"] "law" (defScope (top 50)) (ga K "law") cdv A outer s H E
  have po := @po_cx P w K mg base ["_law_script", "_law_state", "_law_mode", "_law_text", "_law_other", "_law_far", "_law_due_here", "_law_told", "_law_words", "_law_coats", "_law_word", "_law_turn", "_law_number"] "law" (defScope (top 50)) (ga K "law") cdv A outer s H E
  show XB _ J _ (defBody (top 50)) s_law
  exact (xb_cons (w_asg nd (w_call (ok_l_begin Z) (Z.g "_law_begin" (Z.c.fact 89 (f := .std (.glo "_law_begin")) rfl)) hr tk hK (w_sl xa_nil)))
    (xb_cons (w_asg nd (xe_frz (w_call (ok_l_draw Z) (Z.g "_law_draw" (Z.c.fact 4 (f := .std (.glo "_law_draw")) rfl)) hr tk hK (w_sl (xa_ex xe_int xa_nil)))))
    (xb_cons (w_asg nd (xe_frz (w_call (ok_l_coat_text Z) (Z.g "_law_coat_text" (Z.c.fact 90 (f := .std (.glo "_law_coat_text")) rfl)) hr tk hK (w_sl (xa_ex (xe_idx (xe_lst (xa_ex xe_int (xa_ex xe_int (xa_ex xe_int (xa_ex xe_int (xa_ex xe_int (xa_ex xe_int xa_nil))))))) (w_call (ok_l_draw Z) (Z.g "_law_draw" (Z.c.fact 4 (f := .std (.glo "_law_draw")) rfl)) hr tk hK (w_sl (xa_ex xe_int xa_nil)))) (xa_ex xe_int xa_nil))))))
    (xb_cons (xs_if (xw_or (t_eq hK (un64 hr) w_v xe_int) (xw_or1 (t_eq hK (un64 hr) w_v xe_int))).xt (xb_one (w_asg nd (xe_frz (w_call (ok_l_spoilt Z) (Z.g "_law_spoilt" (Z.c.fact 91 (f := .std (.glo "_law_spoilt")) rfl)) hr tk hK (w_sl (w_sl xa_nil)))))) xb_nil)
    (xb_cons (xs_if (t_eq hK (un64 hr) w_v xe_int) (xb_one (w_asg nd (xe_frz (w_call (ok_l_free Z) (Z.g "_law_free" (Z.c.fact 92 (f := .std (.glo "_law_free")) rfl)) hr tk hK (w_sl xa_nil))))) xb_nil)
    (xb_cons (xs_if (t_eq hK (un64 hr) w_v xe_int) (xb_one (w_asg nd (xe_frz (w_call (ok_l_long Z) (Z.g "_law_long" (Z.c.fact 93 (f := .std (.glo "_law_long")) rfl)) hr tk hK (w_sl xa_nil))))) xb_nil)
    (xb_cons (w_asg nd (xe_frz (w_call (ok_l_coat_text Z) (Z.g "_law_coat_text" (Z.c.fact 90 (f := .std (.glo "_law_coat_text")) rfl)) hr tk hK (w_sl (xa_ex (xe_idx (xe_lst (xa_ex xe_int (xa_ex xe_int (xa_ex xe_int (xa_ex xe_int (xa_ex xe_int (xa_ex xe_int xa_nil))))))) (w_call (ok_l_draw Z) (Z.g "_law_draw" (Z.c.fact 4 (f := .std (.glo "_law_draw")) rfl)) hr tk hK (w_sl (xa_ex xe_int xa_nil)))) (xa_ex xe_int xa_nil))))))
    (xb_cons (w_asg nd (xe_lst (xa_ex (xe_frz (xe_sub (xe_mod (w_int (Z.f "int" (Z.c.fact 0 (f := .std (.free "int")) rfl)) (xe_add (w_call (ok_l_draw Z) (Z.g "_law_draw" (Z.c.fact 4 (f := .std (.glo "_law_draw")) rfl)) hr tk hK (w_sl (xa_ex xe_int xa_nil))) xe_int)) xe_int) xe_int)) xa_nil)))
    (xb_cons (xs_expr (w_app (xe_frz (xe_sub (xe_mod (w_int (Z.f "int" (Z.c.fact 0 (f := .std (.free "int")) rfl)) (xe_add (w_call (ok_l_draw Z) (Z.g "_law_draw" (Z.c.fact 4 (f := .std (.glo "_law_draw")) rfl)) hr tk hK (w_sl (xa_ex xe_int xa_nil))) xe_int)) xe_int) xe_int))))
    (xb_cons (w_asg nd (xe_frz (w_call (ok_l_due Z) (Z.g "_law_due" (Z.c.fact 94 (f := .std (.glo "_law_due")) rfl)) hr tk hK (w_sl xa_nil))))
    (xb_cons (w_asg nd (xe_frz (w_call (ok_l_made Z) (Z.g "_law_made" (Z.c.fact 95 (f := .std (.glo "_law_made")) rfl)) hr tk hK (w_sl xa_nil))))
    (xb_cons (xs_if (xw_or (t_ne hK (un64 hr) w_v w_v) (xw_or1 (xt_not (xt_tru hK (w_call (ok_l_numbers Z) (Z.g "_law_numbers" (Z.c.fact 66 (f := .std (.glo "_law_numbers")) rfl)) hr tk hK (w_sl xa_nil)))))).xt (xb_one (xs_ret xe_bl)) xb_nil)
    (xb_cons (w_asg nd (xe_frz (xe_lst (xa_ex w_v (xa_ex w_v xa_nil)))))
    (xb_cons (xs_if (t_ne hK (un64 hr) w_v (xe_lst (xa_ex xe_str xa_nil))) (xb_cons (w_asg nd (xe_frz (xe_lst (xa_ex w_v xa_nil))))
    (xb_one (xs_if (xt_not (xt_tru hK (w_call (ok_l_base Z) (Z.g "_law_base" (Z.c.fact 96 (f := .std (.glo "_law_base")) rfl)) hr tk hK (w_sl xa_nil)))) (xb_one (xs_ret xe_bl)) xb_nil))) xb_nil)
    (xb_cons (w_asgLcF nd (own := [("_law_word", 10)]) (ok := (⟨rfl, by decide +kernel, by decide +kernel, by decide +kernel, by decide +kernel⟩ : BlkOk ["_law_script", "_law_state", "_law_mode", "_law_text", "_law_other", "_law_far", "_law_due_here", "_law_told", "_law_words", "_law_coats", "_law_word", "_law_turn", "_law_number"] (defScope (top 50)) _ [("_law_word", 10)])) (xi_list w_v) (fun _ _ _ _ _ => w_gn) (fun _ _ _ _ _ => xps_nil) (fun _ _ _ _ _ => (xe_frz (w_make (ok_Coat___init__ Z) (z_mkr (Z.c.fact 17 (f := .std (.mkr "Coat")) rfl)) (Z.g "Coat" (Z.c.fact 18 (f := .std (.glo "Coat")) rfl)) hr takes_none5 hK (w_sl xa_nil)))))
    (xb_cons (xs_fz (w_for po (w_r1 (Z.f "range" (Z.c.fact 3 (f := .std (.free "range")) rfl)) xe_int) w_gn (xb_one (xs_fz (w_for po (w_r1 (Z.f "range" (Z.c.fact 3 (f := .std (.free "range")) rfl)) (w_len (Z.f "len" (Z.c.fact 1 (f := .std (.free "len")) rfl)) w_v)) w_gn (xb_one (xs_fz (xs_if (xt_not (xt_tru hK (w_call (ok_l_asked Z) (Z.g "_law_asked" (Z.c.fact 97 (f := .std (.glo "_law_asked")) rfl)) hr tk hK (xa_ex (xe_idx w_v w_v) (xa_ex (xe_idx w_v w_v) (w_sl (w_sl xa_nil))))))) (xb_one (xs_ret xe_bl)) xb_nil))))))))
    (xb_one (xs_ret xe_bl))))))))))))))))))
end
end MV
namespace MV
open PySem PySem.Spec PyProof.Rows L2 He
theorem factsM {P : Program} {w : World} {K : PySem.W.Frag} {h : Heap} {mg : Str → Option Value} {f : Addr} (X : K.In h) (G : h.Ns mainGlobals mg) (hfa : mg ("law" : Str) = some (.ref f)) (c : SaysM fa fn K) :
    ∃ fd : FuncData, (∀ (s : Shared) (v : Value), BindsTo s fd ⟨[v], []⟩ [("_law_script", v)]) ∧ ∀ base : Heap, K.In base → base.Ns mainGlobals mg → FnOk P w K mg base (L2N.CX P w) 8 f fd ["_law_script"] (spF K [.bor] true fn_law) := by
  have Z : Fz fa fn K mg := Fz.of X G c
  have e := hfa.symm.trans (Z.g "law" (Z.c.fact 98 (f := .std (.glo "law")) rfl))
  cases e
  obtain ⟨fd, F⟩ := Z.c.def_ ix_law (d := d_law) rfl
  have b := FunD.bindsA (ps := ["_law_script"]) F fun _ _ _ _ _ _ us hl => match us, hl with | [_], _ => rfl
  exact ⟨fd, fun s v => b s [v] rfl, fun base _ _ => okf_law (base := base) Z F⟩
end MV
open PySem PySem.W PySem.Calls PyProof.Rows in
theorem law_holds_of (main : ∀ ns : List Int, ns.length ≤ 63 → MV.fn_law [.scr ns] = .ret (.bl true) []) : PySem.Challenge.rw_datelessrolls_k48_coat_counts.Holds := by
  w_on; o_law
  refine HandSHeadRun.head_any (r := OpenLaw.row PySem.Challenge.rw_datelessrolls_k48_coat_counts) (q := view (OpenLaw.row PySem.Challenge.rw_datelessrolls_k48_coat_counts).prog [50]) (H := MV.hkM) (ob := MV.obM) (M := 60000) (loose := MV.nms) (d := HandSHeadRun.topDef (OpenLaw.row PySem.Challenge.rw_datelessrolls_k48_coat_counts).prog 50) (kwd := []) MV.obM_eq
    (by kernel_rfl) (fun s => by kernel_rfl) MV.runM (by kernel_rfl) (by kernel_rfl) (by kernel_rfl) (by rfl) (by first | assumption | decide +kernel) (by decide +kernel) ⟨rfl, rfl, rfl, rfl, rfl, by decide +kernel⟩ ?hw ?hc
  case hw => w_witness2
  case hc =>
    refine MV.walk_mv (l := PySem.Challenge.rw_datelessrolls_k48_coat_counts) (n := 63) (k := 8) (x := "_law_script") rfl (by decide) (by kernel_rfl) ⟨rfl, by decide, by decide⟩ ?F
    intro w mg fa h Y G hmg0
    obtain ⟨K, KX, c⟩ := Y
    have hmg : mg ("law" : PySem.Str) = some (.ref fa) := by
      have e : (HandSHeadRun.topDef (OpenLaw.row PySem.Challenge.rw_datelessrolls_k48_coat_counts).prog 50).name = ("law" : PySem.Str) := by kernel_rfl
      rw [← e]
      exact hmg0
    obtain ⟨fd, hb, hF⟩ := MV.factsM (P := (PySem.Challenge.rw_datelessrolls_k48_coat_counts).prog) (w := w) KX G hmg c
    exact ⟨K, fd, _, KX, hb, fun H a ns hl hS => MV.law_spB main H a ns hl hS, hF⟩
namespace MV
open PySem PySem.Spec PyProof.Rows L2 He
theorem e_seq {f g : SemS} {ρ ρ1 : En} (h : f ρ = .next ρ1) : sSeq f g ρ = g ρ1 := by unfold sSeq; rw [h]
theorem atI_nat {α : Type} {xs : List α} {k : Nat} (h : k < xs.length) : atI xs (k : Int) = xs[k]? := by
  unfold atI ixN
  rw [if_pos (Int.natCast_nonneg k), if_pos (Int.ofNat_lt.mpr h)]
  rfl
theorem e_while {c : SemB} {f : SemS} {ρ ρ' : En} {n : Nat} (h : loopW c f n ρ = .next ρ') (hn : n ≤ wMax) : sWhile c f ρ = .next ρ' := by
  unfold sWhile
  exact loopW_mono h hn
where
  loopW_mono {c : SemB} {f : SemS} : ∀ {n m : Nat} {ρ ρ' : En}, loopW c f n ρ = .next ρ' → n ≤ m → loopW c f m ρ = .next ρ'
    | 0, _, _, _, h, _ => by cases h
    | n + 1, 0, _, _, _, hm => by omega
    | n + 1, m + 1, ρ, ρ', h, hm => by
      have ih : ∀ {ρ : En}, loopW c f n ρ = .next ρ' → loopW c f m ρ = .next ρ' := fun h => loopW_mono h (by omega)
      unfold loopW at h ⊢
      cases e : c ρ with
      | ok b ρ1 =>
        rw [e] at h
        show (match b with
          | true => (match f ρ1 with
            | .next ρ2 => loopW c f m ρ2
            | .cont ρ2 => loopW c f m ρ2
            | .brk ρ2 => .next ρ2
            | r => r)
          | false => .next ρ1) = .next ρ'
        have h : (match b with
          | true => (match f ρ1 with
            | .next ρ2 => loopW c f n ρ2
            | .cont ρ2 => loopW c f n ρ2
            | .brk ρ2 => .next ρ2
            | r => r)
          | false => .next ρ1) = .next ρ' := h
        cases b with
        | false => exact h
        | true =>
          cases e2 : f ρ1 with
          | next ρ2 => rw [e2] at h; exact ih h
          | cont ρ2 => rw [e2] at h; exact ih h
          | brk ρ2 => rw [e2] at h; exact h
          | ret s ρ2 => rw [e2] at h; cases h
          | exc _ _ _ => rw [e2] at h; cases h
          | bad => rw [e2] at h; cases h
      | exc _ _ _ => rw [e] at h; cases h
      | bad => rw [e] at h; cases h
theorem e_frz_own {f : Sem1} {ρ ρ1 : En} {d : Vl} (h : f ρ = .ok ⟨.own, d⟩ ρ1) : fFrz f ρ = .ok ⟨.shr, d⟩ ρ1 := by unfold fFrz; rw [h]; rfl
theorem e_aEx {f : Sem1} {fr : SemA} {ρ ρ1 ρ2 : En} {s : Sv} {as : List Ar} (h : f ρ = .ok s ρ1) (n : s.m.isT = false) (r : fr ρ1 = .ok as ρ2) : aEx f fr ρ = .ok (.ex s :: as) ρ2 := by
  unfold aEx; rw [h]
  show grd (!s.m.isT) (bnd (fr ρ1) _) = _
  rw [n, r]; rfl
theorem e_lst {f : SemA} {ρ ρ1 : En} {as : List Ar} {ds : List Vl} (h : f ρ = .ok as ρ1) (z : frzAll as = some ds) (l : ds.length ≤ 1000) : fLst f ρ = .ok ⟨.own, .lst ds⟩ ρ1 := by
  unfold fLst; rw [h]
  show kLst as ρ1 = _
  unfold kLst; rw [z]
  show grd (decide (ds.length ≤ 1000)) _ = _
  rw [decide_eq_true l]; rfl
theorem e_ret {f : Sem1} {ρ ρ1 : En} {s : Sv} (h : f ρ = .ok s ρ1) : sRet f ρ = .ret s ρ1 := by unfold sRet; rw [h]; rfl
theorem e_lc {q : Bool} {own : List Nat} {src : SemI} {tgt : SemG} {cond : SemB} {elt : Sem1} {ρ ρ1 ρ2 : En} {n : Bool} {its : List Sv} {ds : List Vl} (h : src ρ = .ok (n, its) ρ1) (hq : (n || q) = true) (l : compL own tgt cond elt its (wipeE ρ1 own) [] = .ok ds ρ2) : fLc q own src tgt cond elt ρ = .ok ⟨.own, .lst ds⟩ ρ2 := by
  unfold fLc; rw [h]
  show grd (n || q) (bnd (compL own tgt cond elt its (wipeE ρ1 own) []) _) = _
  rw [hq, l]; rfl
theorem e_run {pm : List PM} {rm : Bool} {n : Nat} {body : SemS} {ds : List Vl} {s : Sv} {ρ : En} {outs : List Vl} (h : body (initE pm ds n) = .ret s ρ) (o : outsOf pm 0 ρ = some outs) (k : resOk rm s = true) : runB pm rm n body ds = .ret s.d outs := by
  unfold runB; rw [h]
  show fin pm rm s ρ = _
  unfold fin; rw [o, k]
theorem compL_ok {own : List Nat} {tgt : SemG} {cond : SemB} {elt : Sem1} {ρ0 : En} {b : Sv → Bool} {g : Sv → Vl} : ∀ (items : List Sv), (∀ x ∈ items, ∃ ρ1 ρ2, tgt x ρ0 = some ρ1 ∧ cond ρ1 = .ok (b x) ρ2 ∧ (b x = true → ∃ ρ3, elt ρ2 = .ok ⟨.shr, g x⟩ ρ3 ∧ wipeE ρ3 own = ρ0) ∧ (b x = false → wipeE ρ2 own = ρ0)) →
    ∀ acc : List Vl, acc.length + items.length ≤ sizeLine → compL own tgt cond elt items ρ0 acc = .ok (acc ++ (items.filter b).map g) ρ0
  | [], _, acc, _ => by show Rs.ok acc ρ0 = _; simp
  | x :: items, h, acc, hl => by
    obtain ⟨ρ1, ρ2, h1, h2, h3, h4⟩ := h x List.mem_cons_self
    have ih := compL_ok items fun y hy => h y (List.mem_cons_of_mem _ hy)
    have hl' : acc.length + (items.length + 1) ≤ sizeLine := hl
    unfold compL
    rw [h1]
    show bndN (cond ρ1) _ = _
    rw [h2]
    cases hb : b x with
    | true =>
      obtain ⟨ρ3, e1, e2⟩ := h3 hb
      show bndN (elt ρ2) _ = _
      rw [e1]
      show grd (isShr .shr && decide (acc.length < sizeLine)) (compL own tgt cond elt items (wipeE ρ3 own) (acc ++ [g x])) = _
      rw [decide_eq_true (by omega), e2]
      show compL own tgt cond elt items ρ0 (acc ++ [g x]) = _
      rw [ih _ (by rw [List.length_append]; simp; omega), List.filter_cons_of_pos hb]
      simp
    | false =>
      show compL own tgt cond elt items (wipeE ρ2 own) acc = _
      rw [h4 hb, ih _ (by omega), List.filter_cons_of_neg (by simp [hb])]
theorem cut_front {α : Type} {xs : List α} {n : Nat} (h : xs.length ≤ n) : cutD xs none (some (n : Int)) = xs := by
  have e : HT.sIx xs.length xs.length (some (n : Int)) = xs.length := by rw [HT.sIx_nat]; omega
  unfold cutD
  rw [e, HT.sIx_none, List.drop_zero, Nat.sub_zero, List.take_length]
abbrev dSt (v : Int) (p : Nat) (cs : List Int) : Vl := .lst [.int v, .int p, .lst (cs.map Vl.int)]
abbrev dE (v : Int) (p : Nat) (cs : List Int) (lim : Int) : En := [some ⟨.io, dSt v p cs⟩, some ⟨.shr, .int lim⟩, some ⟨.shr, .lst (cs.map Vl.int)⟩, none]
def dC : SemB := (fAnd (fTst (fTwo true (fTwo true (fVar 0) (fC (.int 0)) kIx) (fC (.int 0)) (kS gEq))) (fTst (fTwo true (fTwo true (fVar 0) (fC (.int 1)) kIx) (fOne (fVar 2) (kS1 gLen)) (kS (gB bLt)))))
def dB : SemS := (sSeq (sSet 0 (fC (.int 0)) (fFrz (fOne (fOne (fTwo true (fVar 2) (fTwo true (fVar 0) (fC (.int 1)) kIx) kIx) (kS1 gInt)) (kS1 gAbs))))
    (sSet 0 (fC (.int 1)) (fFrz (fTwo true (fTwo true (fVar 0) (fC (.int 1)) kIx) (fC (.int 1)) kAdd))))
theorem dC_nz {v : Int} {p : Nat} {cs : List Int} {lim : Int} (h : v ≠ 0) : dC (dE v p cs lim) = .ok false (dE v p cs lim) := by
  have e : dC (dE v p cs lim) = (match decide (v = 0) with | true => Rs.ok (decide ((p : Int) < ((cs.map Vl.int).length : Nat))) (dE v p cs lim) | false => .ok false (dE v p cs lim)) := by
    unfold dC fAnd
    show (match decide (v = 0) with | true => _ | false => _) = _
    cases decide (v = 0) <;> rfl
  rw [e, decide_eq_false h]
theorem dC_z {p : Nat} {cs : List Int} {lim : Int} : dC (dE 0 p cs lim) = .ok (decide (p < cs.length)) (dE 0 p cs lim) := by
  have e : dC (dE 0 p cs lim) = .ok (decide ((p : Int) < ((cs.map Vl.int).length : Nat))) (dE 0 p cs lim) := rfl
  rw [e, List.length_map]
  congr 1
  exact decide_eq_decide.mpr Int.ofNat_lt
theorem dB_eq {p : Nat} {cs : List Int} {lim : Int} (h : p < cs.length) : dB (dE 0 p cs lim) = .next (dE (iabs (cs.getD p 0)) (p + 1) cs lim) := by
  have hx : atI (cs.map Vl.int) (p : Int) = some (.int cs[p]) := by
    rw [atI_nat (by rw [List.length_map]; exact h), List.getElem?_map, List.getElem?_eq_getElem h]; rfl
  have hg : iabs (cs.getD p 0) = if cs[p] < 0 then -cs[p] else cs[p] := by
    unfold iabs
    rw [List.getD_eq_getElem?_getD, List.getElem?_eq_getElem h]; rfl
  rw [hg]
  have e1 : sSet 0 (fC (.int 0)) (fFrz (fOne (fOne (fTwo true (fVar 2) (fTwo true (fVar 0) (fC (.int 1)) kIx) kIx) (kS1 gInt)) (kS1 gAbs))) (dE 0 p cs lim) = .next (dE (if cs[p] < 0 then -cs[p] else cs[p]) p cs lim) := by
    have e0 : fTwo true (fVar 2) (fTwo true (fVar 0) (fC (.int 1)) kIx) kIx (dE 0 p cs lim) = .ok ⟨.shr, .int cs[p]⟩ (dE 0 p cs lim) := by
      show (match atI (cs.map Vl.int) (p : Int) with | some d => Rs.ok (mk .shr d) (dE 0 p cs lim) | none => .bad) = _
      rw [hx]; rfl
    unfold sSet fFrz fOne
    rw [e0]; rfl
  unfold dB
  rw [e_seq e1]
  rfl
theorem d_loop {cs : List Int} {lim : Int} : ∀ (n : Nat) (v : Int) (p : Nat), 0 ≤ v → p ≤ cs.length → cs.length - p < n → loopW dC dB n (dE v p cs lim) = .next (dE (skipZ cs n v p).1 (skipZ cs n v p).2 cs lim)
  | 0, v, p, h0, h1, h2 => by omega
  | n + 1, v, p, h0, h1, h2 => by
    by_cases hv : v = 0
    · subst hv
      by_cases hp : p < cs.length
      · have e := dB_eq (lim := lim) hp
        have ih := d_loop (cs := cs) (lim := lim) n (iabs (cs.getD p 0)) (p + 1) (by unfold iabs; split <;> omega) (by omega) (by omega)
        have es : skipZ cs (n + 1) 0 p = skipZ cs n (iabs (cs.getD p 0)) (p + 1) := by
          show (if (0 : Int) = 0 then (if p < cs.length then _ else _) else _) = _
          rw [if_pos rfl, if_pos hp]
        rw [es]
        unfold loopW
        rw [dC_z, decide_eq_true hp]
        show (match dB (dE 0 p cs lim) with | .next ρ2 => loopW dC dB n ρ2 | .cont ρ2 => loopW dC dB n ρ2 | .brk ρ2 => .next ρ2 | r => r) = _
        rw [e]; exact ih
      · have es : skipZ cs (n + 1) 0 p = (0, p) := by
          show (if (0 : Int) = 0 then (if p < cs.length then _ else _) else _) = _
          rw [if_pos rfl, if_neg hp]
        rw [es]
        unfold loopW
        rw [dC_z, decide_eq_false hp]; rfl
    · have es : skipZ cs (n + 1) v p = (v, p) := by
        show (if v = 0 then _ else _) = _
        rw [if_neg hv]
      rw [es]
      unfold loopW
      rw [dC_nz hv]; rfl
theorem tr_l_draw (d : Drw) (lim : Int) : FOk (fun (o : Drw) => [eDrw o]) eI (t_l_draw d lim) (fn_l_draw [eDrw d, eI lim]) := by
  refine ⟨?_⟩
  unfold t_l_draw
  by_cases hh : 0 < lim ∧ lim < 1073741824
  case neg => rw [dif_neg hh]; exact trivial
  rw [dif_pos hh]
  obtain ⟨h1, h2⟩ := hh
  obtain ⟨v, p, cs, q1, q2, q3⟩ := d
  have e := d_loop (lim := lim) (cs.length - p + 1) v p q1 q2 (by omega)
  have ew := e_while e (by unfold wMax; omega)
  show fn_l_draw [dSt v p cs, .int lim] = .ret (.int ((skipZ cs (cs.length - p + 1) v p).1 % lim)) [dSt ((skipZ cs (cs.length - p + 1) v p).1 / lim) (skipZ cs (cs.length - p + 1) v p).2 cs]
  rw [← Int.fmod_eq_emod_of_nonneg _ (Int.le_of_lt h1), ← Int.fdiv_eq_ediv_of_nonneg _ (Int.le_of_lt h1)]
  generalize (skipZ cs (cs.length - p + 1) v p).1 = v' at *
  generalize (skipZ cs (cs.length - p + 1) v p).2 = p' at *
  have hm : cMod v' lim = true := by unfold cMod; exact decide_eq_true (by omega)
  have hd : cDiv v' lim = true := by
    unfold cDiv
    rw [decide_eq_true (show lim ≠ 0 by omega), decide_eq_true (show lim.natAbs < 1073741824 by omega)]; rfl
  have e1 : (sAsg 3 (fFrz (fTwo true (fOne (fTwo true (fVar 0) (fC (.int 0)) kIx) (kS1 gInt)) (fVar 1) (kS (gIc cMod Int.fmod))))) (dE v' p' cs lim) = .next [some ⟨.io, dSt v' p' cs⟩, some ⟨.shr, .int lim⟩, some ⟨.shr, .lst (cs.map Vl.int)⟩, some ⟨.shr, .int (v'.fmod lim)⟩] := by
    have e0 : fTwo true (fOne (fTwo true (fVar 0) (fC (.int 0)) kIx) (kS1 gInt)) (fVar 1) (kS (gIc cMod Int.fmod)) (dE v' p' cs lim) = .ok ⟨.shr, .int (v'.fmod lim)⟩ (dE v' p' cs lim) := by
      show (match (if cMod v' lim then some (Vl.int (v'.fmod lim)) else none) with | some d => if isSc d then Rs.ok (Sv.mk .shr d) (dE v' p' cs lim) else .bad | none => .bad) = _
      rw [if_pos hm]; rfl
    unfold sAsg fFrz
    rw [e0]; rfl
  have e2 : (sSet 0 (fC (.int 0)) (fFrz (fTwo true (fOne (fTwo true (fVar 0) (fC (.int 0)) kIx) (kS1 gInt)) (fVar 1) (kS (gIc cDiv Int.fdiv))))) [some ⟨.io, dSt v' p' cs⟩, some ⟨.shr, .int lim⟩, some ⟨.shr, .lst (cs.map Vl.int)⟩, some ⟨.shr, .int (v'.fmod lim)⟩] = .next [some ⟨.io, dSt (v'.fdiv lim) p' cs⟩, some ⟨.shr, .int lim⟩, some ⟨.shr, .lst (cs.map Vl.int)⟩, some ⟨.shr, .int (v'.fmod lim)⟩] := by
    have e0 : fTwo true (fOne (fTwo true (fVar 0) (fC (.int 0)) kIx) (kS1 gInt)) (fVar 1) (kS (gIc cDiv Int.fdiv)) [some ⟨.io, dSt v' p' cs⟩, some ⟨.shr, .int lim⟩, some ⟨.shr, .lst (cs.map Vl.int)⟩, some ⟨.shr, .int (v'.fmod lim)⟩] = .ok ⟨.shr, .int (v'.fdiv lim)⟩ [some ⟨.io, dSt v' p' cs⟩, some ⟨.shr, .int lim⟩, some ⟨.shr, .lst (cs.map Vl.int)⟩, some ⟨.shr, .int (v'.fmod lim)⟩] := by
      show (match (if cDiv v' lim then some (Vl.int (v'.fdiv lim)) else none) with | some d => if isSc d then Rs.ok (Sv.mk .shr d) _ else .bad | none => .bad) = _
      rw [if_pos hd]; rfl
    unfold sSet fFrz
    rw [e0]; rfl
  have hb : s_l_draw [some ⟨.io, dSt v p cs⟩, some ⟨.shr, .int lim⟩, none, none] = .ret ⟨.shr, .int (v'.fmod lim)⟩ [some ⟨.io, dSt (v'.fdiv lim) p' cs⟩, some ⟨.shr, .int lim⟩, some ⟨.shr, .lst (cs.map Vl.int)⟩, some ⟨.shr, .int (v'.fmod lim)⟩] := by
    unfold s_l_draw
    have e0 : sAsg 2 (fTwo true (fVar 0) (fC (.int 2)) kIx) [some ⟨.io, dSt v p cs⟩, some ⟨.shr, .int lim⟩, none, none] = .next (dE v p cs lim) := rfl
    refine (e_seq e0).trans ((e_seq ew).trans ((e_seq e1).trans ((e_seq e2).trans rfl)))
  show (match s_l_draw [some ⟨.io, dSt v p cs⟩, some ⟨.shr, .int lim⟩, none, none] with
    | .ret s ρ => fin [.io, .bor] false s ρ
    | .next ρ => fin [.io, .bor] false ⟨.shr, .non⟩ ρ
    | .exc c fs ρ => (match outsOf [.io, .bor] 0 ρ with
      | some outs => .exc c fs outs
      | none => .bad)
    | _ => .bad) = _
  rw [hb]; rfl
theorem tr_l_begin (ns : List Int) : FOk (fun _ => []) eDrw (t_l_begin ns) (fn_l_begin [Vl.scr ns]) := by
  refine ⟨?_⟩
  unfold t_l_begin
  by_cases h : ns.length ≤ 63
  case neg => rw [dif_neg h]; exact trivial
  rw [dif_pos h]
  show fn_l_begin [.scr ns] = .ret (dSt 0 0 ns) []
  have hc : cutD (ns.map Vl.int) none (some 63) = ns.map Vl.int := cut_front (n := 63) (by rw [List.length_map]; exact h)
  have hi : iSrc (fSl true true (fVar 0) fNoP (fPart (fC (.int 63)))) kItL [some ⟨.bor, .scr ns⟩, none] = .ok (true, (ns.map Vl.int).map fun d => mk .shr d) [some ⟨.bor, .scr ns⟩, none] := by
    show Rs.ok (true, (cutD (ns.map Vl.int) none (some 63)).map fun d => mk .shr d) _ = _
    rw [hc]
  have hl : compL [1] (gNm 1) bYes (fFrz (fOne (fVar 1) (kS1 gInt))) ((ns.map Vl.int).map fun d => mk .shr d) [some ⟨.bor, .scr ns⟩, none] [] = .ok (ns.map Vl.int) [some ⟨.bor, .scr ns⟩, none] := by
    have := compL_ok (own := [1]) (tgt := gNm 1) (cond := bYes) (elt := fFrz (fOne (fVar 1) (kS1 gInt))) (ρ0 := [some ⟨.bor, .scr ns⟩, none]) (b := fun _ => true) (g := fun s => s.d) ((ns.map Vl.int).map fun d => mk .shr d) (fun x hx => by
      obtain ⟨d, hd, rfl⟩ := List.mem_map.mp hx
      obtain ⟨i, _, rfl⟩ := List.mem_map.mp hd
      exact ⟨_, _, rfl, rfl, fun _ => ⟨_, rfl, rfl⟩, fun h => by cases h⟩) [] (by simp; exact Nat.le_trans h (by decide))
    rw [this]
    have e : (((ns.map Vl.int).map fun d => mk .shr d).filter fun _ => true).map (fun s => s.d) = ns.map Vl.int := by
      rw [List.filter_eq_self.mpr (fun _ _ => rfl), List.map_map, List.map_map]
      rfl
    rw [e]; rfl
  have hs : fLc true [1] (iSrc (fSl true true (fVar 0) fNoP (fPart (fC (.int 63)))) kItL) (gNm 1) bYes (fFrz (fOne (fVar 1) (kS1 gInt))) [some ⟨.bor, .scr ns⟩, none] = .ok ⟨.own, .lst (ns.map Vl.int)⟩ [some ⟨.bor, .scr ns⟩, none] := e_lc hi rfl hl
  have hb : s_l_begin [some ⟨.bor, .scr ns⟩, none] = .ret ⟨.own, dSt 0 0 ns⟩ [some ⟨.bor, .scr ns⟩, none] :=
    e_ret (e_lst (e_aEx rfl rfl (e_aEx rfl rfl (e_aEx (e_frz_own hs) rfl rfl))) rfl (Nat.le_of_ble_eq_true rfl))
  exact e_run (pm := [.bor]) (rm := true) (n := 2) (ds := [.scr ns]) (outs := []) hb rfl rfl
end MV
namespace MV
open PySem PySem.Spec PyProof.Rows L2 He
theorem str_0 : strOf ['a'] = ("a" : Str) := by decide +kernel
theorem str_1 : strOf ['a', 'b', 'c', 'd', 'e', 'f'] = ("abcdef" : Str) := by decide +kernel
theorem str_2 : strOf ['b', 'z', 'a', 'g', 'c', 'A', '-', '0', ' ', '\n', '`', '{', 'd', '~', 'e', 'f'] = ("bzagcA-0 
`{d~ef" : Str) := by decide +kernel
theorem str_3 : strOf [] = ("" : Str) := by decide +kernel
theorem str_4 : strOf ['a', 'b', 'c', 'd', 'e', 'f', 'g', 'h', 'i', 'j'] = ("abcdefghij" : Str) := by decide +kernel
theorem str_5 : strOf ['z'] = ("z" : Str) := by decide +kernel
theorem str_6 : strOf ['s', 'i', 'z', 'e'] = ("size" : Str) := by decide +kernel
theorem str_7 : strOf ['c', 'o', 'a', 't'] = ("coat" : Str) := by decide +kernel
theorem str_8 : strOf ['m', 'a', 'd', 'e'] = ("made" : Str) := by decide +kernel
theorem str_9 : strOf ['o', 'd', 'd'] = ("odd" : Str) := by decide +kernel
theorem str_10 : strOf ['f', 'a', 'c', 'e'] = ("face" : Str) := by decide +kernel
theorem str_11 : strOf ['s', 'a', 'm', 'e'] = ("same" : Str) := by decide +kernel
theorem str_12 : strOf ['n', 'u', 'm', 'b', 'e', 'r'] = ("number" : Str) := by decide +kernel
theorem str_13 : strOf ['c', 'o', 'u', 'n', 't'] = ("count" : Str) := by decide +kernel
theorem str_14 : strOf ['s', 't', 'r', 'e', 't', 'c', 'h'] = ("stretch" : Str) := by decide +kernel
theorem str_15 : strOf ['w', 'i', 'n', 'd', 'o', 'w'] = ("window" : Str) := by decide +kernel
theorem fl_0 {m : Md} {x : C_Coat} : ∀ ρ, kFld "_text" ["Coat"] ⟨m, e_Coat x⟩ ρ = .ok (sv (eS x.1)) ρ := fun ρ => by
  show grd (decide (("Coat" : Str) ∈ (["Coat"] : List Str))) _ = _
  rw [decide_eq_true (by decide)]; rfl
theorem fl_1 {m : Md} {x : C_Coat} : ∀ ρ, kFld "_before" ["Coat"] ⟨m, e_Coat x⟩ ρ = .ok ⟨m.kid, (eT eI) x.2⟩ ρ := fun ρ => by
  show grd (decide (("Coat" : Str) ∈ (["Coat"] : List Str))) _ = _
  rw [decide_eq_true (by decide)]; rfl
abbrev su_l_coat_text : Sur Empty Drw (List Char) := surF [.io, .bor, .bor] false (fun (o : Drw) => [eDrw o]) eS
theorem x_l_coat_text {Γ : List Sl} {o : Drw} (h : outsG [.io, .bor, .bor] 0 Γ = some ((fun (o : Drw) => [eDrw o]) o)) : ∀ ρ, EnvR Γ ρ → su_l_coat_text.ex o ρ := xf h
theorem rt_l_coat_text {Γ : List Sl} {x : (List Char)} {o : Drw} {s : Sv} (h1 : s.d = eS x) (h2 : resOk false s = true) (h : outsG [.io, .bor, .bor] 0 Γ = some ((fun (o : Drw) => [eDrw o]) o)) : ∀ ρ, EnvR Γ ρ → su_l_coat_text.rt x o s ρ := rtf h1 h2 h
theorem tr_l_coat_text (state1 : Drw) (places1 : Int) (turn1 : Int) : FOk (fun (o : Drw) => [eDrw o]) eS (t_l_coat_text state1 places1 turn1) (fn_l_coat_text [eDrw state1, eI places1, eI turn1]) := by
  unfold t_l_coat_text
  exact fok_run (pm := [.io, .bor, .bor]) (rm := false) (eo := (fun (o : Drw) => [eDrw o])) (er := eS) (ν := Empty) (Γ := [.vl (Sv.mk .io (eDrw state1)), .vl (isv places1), .vl (isv turn1), .no, .no, .no, .no]) (P := PF) (s_asg (c_pure (v_str str_0) (s_let (v := fun (x : (List Char)) => (sv (eS x))) (x := ['a']) rfl (fun _ => rfl) (fun text1 => (s_asg (c_pure v_c (s_st rfl rfl (s_for (c_r2 (c_pure v_c (c_int (c_pure (v_two (u := (isv (places1 + (1 : Int)))) (v_sh rfl) v_c rfl (fun _ => rfl)) (c_int (c_rng (fun r1 => (c_grd0 (s_loop (v := fun (x : Int) => (isv x)) (G := (fun (a : (Drw × (List Char) × Int)) => [.vl (Sv.mk .io (eDrw a.1)), .vl (isv places1), .vl (isv turn1), .vl (sv (eS a.2.1)), .vl (isv a.2.2), .jk, .jk])) (by exact ⟨rfl, ⟨rfl, ⟨rfl, ⟨rfl, ⟨rfl, ⟨trivial, ⟨trivial, trivial⟩⟩⟩⟩⟩⟩⟩) (t_nm (i := 5) (v := fun x => (isv x)) (fun _ => rfl) (fun _ => rfl)) (fun gap1 s1 => (s_asg (c_frz (c_two (c_two (c_call (c_pure (v_aS rfl (v_aE (v_two (u := (isv (s1.2.2 + (1 : Int)))) (v_sh rfl) v_c rfl (fun _ => rfl)) rfl v_aN)) (c_kcallJ [0] (fun (o : Drw) => [.vl (Sv.mk .io (eDrw o)), .vl (isv places1), .vl (isv turn1), .vl (sv (eS s1.2.1)), .vl (isv s1.2.2), .vl (isv gap1), .jk]) (tr_l_draw s1.1 (s1.2.2 + (1 : Int))) rfl rfl rfl rfl (fun _ => rfl) (fun o => (x_l_coat_text (o := o) rfl)) (fun x => (isv x)) (fun _ => rfl) (fun v1 => (c_grd (by first | rfl | (unfold mk; repeat (first | rfl | split))) (c_two (c_pure (v_lst (u := (Sv.mk .own ((eL eI) [(0 : Int), (1 : Int), (2 : Int), (0 : Int), (2 : Int), (1 : Int)]))) (v_aE v_c rfl (v_aE v_c rfl (v_aE v_c rfl (v_aE v_c rfl (v_aE v_c rfl (v_aE v_c rfl v_aN)))))) (fun _ => rfl)) (c_grd (by first | rfl | (unfold mk; repeat (first | rfl | split))) (c_pure (v_sh rfl) (c_ix (fun x => (isv x)) (fun _ => rfl) (fun v2 => (c_ok (a := (isv (v1.1 + v2))) (fun _ => rfl) (c_grd (by first | rfl | (unfold mk; repeat (first | rfl | split))) (c_pure (v_sh rfl) (c_ok (a := (isv ((v1.1 + v2) + turn1))) (fun _ => rfl) (c_ok (a := (isv ((v1.1 + v2) + turn1))) (fun _ => rfl) (s_let (v := fun (x : Int) => (isv x)) (x := ((v1.1 + v2) + turn1)) rfl (fun _ => rfl) (fun spot1 => (s_asg (c_frz (c_two (c_pure (v_one (u := (isv spot1)) (v_sh rfl) (fun _ => rfl)) (c_grd (by first | rfl | (unfold mk; repeat (first | rfl | split))) (c_pure (v_two (u := (isv (s1.2.2 + (1 : Int)))) (v_sh rfl) v_c rfl (fun _ => rfl)) (c_mod (fun v3 => (c_ok (a := (isv v3)) (fun _ => rfl) (s_st rfl rfl (s_asg (c_frz (c_two (c_pure (v_sh rfl) (c_grd (by first | rfl | (unfold mk; repeat (first | rfl | split))) (c_two (c_pure (v_str str_1) (c_grd (by first | rfl | (unfold mk; repeat (first | rfl | split))) (c_pure (v_sh rfl) (c_ixS (fun v4 => (c_catS (fun v5 => (c_ok (a := (sv (eS v5))) (fun _ => rfl) (s_st rfl rfl (s_last (s_if (c_pure (v_tst (v_two (u := (isb (decide (v3 = s1.2.2)))) (v_sh rfl) (v_sh rfl) rfl (k_eq (x := v3) (y := s1.2.2) eqt_I))) (s_selC (p := (v3 = s1.2.2)) rfl (s_asg (c_pure (v_frz (v_two (u := (isv (s1.2.2 + (1 : Int)))) (v_sh rfl) v_c rfl (fun _ => rfl)) (fun _ => rfl)) (s_let (v := fun (x : Int) => (isv x)) (x := (s1.2.2 + (1 : Int))) rfl (fun _ => rfl) (fun used1 => (s_end (G := (fun (a : (Drw × (List Char) × Int)) => [.vl (Sv.mk .io (eDrw a.1)), .vl (isv places1), .vl (isv turn1), .vl (sv (eS a.2.1)), .vl (isv a.2.2), .jk, .jk])) (by exact ⟨rfl, ⟨rfl, ⟨rfl, ⟨rfl, ⟨rfl, ⟨trivial, ⟨trivial, trivial⟩⟩⟩⟩⟩⟩⟩)))))) (s_nil (s_end (G := (fun (a : (Drw × (List Char) × Int)) => [.vl (Sv.mk .io (eDrw a.1)), .vl (isv places1), .vl (isv turn1), .vl (sv (eS a.2.1)), .vl (isv a.2.2), .jk, .jk])) (by exact ⟨rfl, ⟨rfl, ⟨rfl, ⟨rfl, ⟨rfl, ⟨trivial, ⟨trivial, trivial⟩⟩⟩⟩⟩⟩⟩))))))))))))))))))))))))))))))))))))))))))))))))))))))) (fun s2 => (s_ret (c_pure (v_sh rfl) (r_ret (rt_l_coat_text (x := s2.2.1) (o := s2.1) rfl rfl rfl)))))))))))))))))))))) (⟨_, _, rfl, rfl, ⟨_, _, rfl, rfl, ⟨_, _, rfl, rfl, ⟨_, _, rfl, rfl, ⟨_, _, rfl, rfl, ⟨_, _, rfl, rfl, ⟨_, _, rfl, rfl, rfl⟩⟩⟩⟩⟩⟩⟩) fall_no
abbrev su_l_spoilt : Sur Empty Drw (List Char) := surF [.io, .bor] true (fun (o : Drw) => [eDrw o]) eS
theorem x_l_spoilt {Γ : List Sl} {o : Drw} (h : outsG [.io, .bor] 0 Γ = some ((fun (o : Drw) => [eDrw o]) o)) : ∀ ρ, EnvR Γ ρ → su_l_spoilt.ex o ρ := xf h
theorem rt_l_spoilt {Γ : List Sl} {x : (List Char)} {o : Drw} {s : Sv} (h1 : s.d = eS x) (h2 : resOk true s = true) (h : outsG [.io, .bor] 0 Γ = some ((fun (o : Drw) => [eDrw o]) o)) : ∀ ρ, EnvR Γ ρ → su_l_spoilt.rt x o s ρ := rtf h1 h2 h
theorem tr_l_spoilt (state1 : Drw) (text1 : (List Char)) : FOk (fun (o : Drw) => [eDrw o]) eS (t_l_spoilt_v5 state1 text1) (fn_l_spoilt [eDrw state1, eS text1]) := by
  unfold t_l_spoilt_v5
  exact fok_run (pm := [.io, .bor]) (rm := true) (eo := (fun (o : Drw) => [eDrw o])) (er := eS) (ν := Empty) (Γ := [.vl (Sv.mk .io (eDrw state1)), .vl (sv (eS text1)), .no, .no, .no]) (P := PF) (s_asg (c_frz (c_call (c_aSl rfl (c_aEx (c_two (c_one (c_pure (v_sh rfl) (c_lenS (fun v1 => (c_grd (by first | rfl | (unfold mk; repeat (first | rfl | split))) (c_pure v_c (c_ok (a := (isv (v1 + (1 : Int)))) (fun _ => rfl) (c_grd (by first | rfl | (unfold mk; repeat (first | rfl | split))) (c_pure v_aN (c_kcallJ [0] (fun (o : Drw) => [.vl (Sv.mk .io (eDrw o)), .vl (sv (eS text1)), .no, .no, .no]) (tr_l_draw state1 (v1 + (1 : Int))) rfl rfl rfl rfl (fun _ => rfl) (fun o => (x_l_spoilt (o := o) rfl)) (fun x => (isv x)) (fun _ => rfl) (fun v2 => (c_ok (a := (isv v2.1)) (fun _ => rfl) (s_st rfl rfl (s_asg (c_two (c_pure (v_str str_2) (c_grd (by first | rfl | (unfold mk; repeat (first | rfl | split))) (c_call (c_pure (v_aS rfl (v_aE v_c rfl v_aN)) (c_kcallJ [0] (fun (o : Drw) => [.vl (Sv.mk .io (eDrw o)), .vl (sv (eS text1)), .vl (isv v2.1), .no, .no]) (tr_l_draw v2.2 (16 : Int)) rfl rfl rfl rfl (fun _ => rfl) (fun o => (x_l_spoilt (o := o) rfl)) (fun x => (isv x)) (fun _ => rfl) (fun v3 => (c_ixS (fun v4 => (s_st rfl rfl (s_asg (c_frz (c_call (c_pure (v_aS rfl (v_aE v_c rfl v_aN)) (c_kcallJ [0] (fun (o : Drw) => [.vl (Sv.mk .io (eDrw o)), .vl (sv (eS text1)), .vl (isv v2.1), .vl (sv (eS v4)), .no]) (tr_l_draw v3.2 (3 : Int)) rfl rfl rfl rfl (fun _ => rfl) (fun o => (x_l_spoilt (o := o) rfl)) (fun x => (isv x)) (fun _ => rfl) (fun v5 => (c_ok (a := (isv v5.1)) (fun _ => rfl) (s_st rfl rfl (s_if (c_pure (v_tst (v_two (u := (isb (decide (v5.1 = (0 : Int))))) (v_sh rfl) v_c rfl (k_eq (x := v5.1) (y := (0 : Int)) eqt_I))) (s_selA (p := (v5.1 = (0 : Int))) rfl (s_ret (c_two (c_two (c_sl (c_pure (v_sh rfl) (c_grd (by first | rfl | (unfold mk; repeat (first | rfl | split))) (c_pure v_noP (c_part (c_pure (v_sh rfl) (c_int (c_slS (fun v6 => (c_grd (by first | rfl | (unfold mk; repeat (first | rfl | split))) (c_pure (v_sh rfl) (c_catS (fun v7 => (c_grd (by first | rfl | (unfold mk; repeat (first | rfl | split))) (c_sl (c_pure (v_sh rfl) (c_grd (by first | rfl | (unfold mk; repeat (first | rfl | split))) (c_part (c_pure (v_two (u := (isv (v2.1 + (1 : Int)))) (v_sh rfl) v_c rfl (fun _ => rfl)) (c_int (c_pure v_noP (c_slS (fun v8 => (c_catS (fun v9 => (r_ret (rt_l_spoilt (x := v9) (o := v5.2) rfl rfl rfl)))))))))))))))))))))))))))))) (s_nil (s_if (c_pure (v_tst (v_two (u := (isb (decide (v5.1 = (1 : Int))))) (v_sh rfl) v_c rfl (k_eq (x := v5.1) (y := (1 : Int)) eqt_I))) (s_selA (p := (v5.1 = (1 : Int))) rfl (s_ret (c_two (c_two (c_sl (c_pure (v_sh rfl) (c_grd (by first | rfl | (unfold mk; repeat (first | rfl | split))) (c_pure v_noP (c_part (c_pure (v_sh rfl) (c_int (c_slS (fun v10 => (c_grd (by first | rfl | (unfold mk; repeat (first | rfl | split))) (c_pure (v_sh rfl) (c_catS (fun v11 => (c_grd (by first | rfl | (unfold mk; repeat (first | rfl | split))) (c_sl (c_pure (v_sh rfl) (c_grd (by first | rfl | (unfold mk; repeat (first | rfl | split))) (c_part (c_pure (v_sh rfl) (c_int (c_pure v_noP (c_slS (fun v12 => (c_catS (fun v13 => (r_ret (rt_l_spoilt (x := v13) (o := v5.2) rfl rfl rfl)))))))))))))))))))))))))))))) (s_nil (s_ret (c_two (c_sl (c_pure (v_sh rfl) (c_grd (by first | rfl | (unfold mk; repeat (first | rfl | split))) (c_pure v_noP (c_part (c_pure (v_sh rfl) (c_int (c_slS (fun v14 => (c_grd (by first | rfl | (unfold mk; repeat (first | rfl | split))) (c_sl (c_pure (v_sh rfl) (c_grd (by first | rfl | (unfold mk; repeat (first | rfl | split))) (c_part (c_pure (v_two (u := (isv (v2.1 + (1 : Int)))) (v_sh rfl) v_c rfl (fun _ => rfl)) (c_int (c_pure v_noP (c_slS (fun v15 => (c_catS (fun v16 => (r_ret (rt_l_spoilt (x := v16) (o := v5.2) rfl rfl rfl))))))))))))))))))))))))))))))))))))))))))))))))))))))))))))))))))))))) (⟨_, _, rfl, rfl, ⟨_, _, rfl, rfl, ⟨_, _, rfl, rfl, ⟨_, _, rfl, rfl, ⟨_, _, rfl, rfl, rfl⟩⟩⟩⟩⟩) fall_no
abbrev su_l_free : Sur Empty Drw (List Char) := surF [.io] false (fun (o : Drw) => [eDrw o]) eS
theorem x_l_free {Γ : List Sl} {o : Drw} (h : outsG [.io] 0 Γ = some ((fun (o : Drw) => [eDrw o]) o)) : ∀ ρ, EnvR Γ ρ → su_l_free.ex o ρ := xf h
theorem rt_l_free {Γ : List Sl} {x : (List Char)} {o : Drw} {s : Sv} (h1 : s.d = eS x) (h2 : resOk false s = true) (h : outsG [.io] 0 Γ = some ((fun (o : Drw) => [eDrw o]) o)) : ∀ ρ, EnvR Γ ρ → su_l_free.rt x o s ρ := rtf h1 h2 h
theorem tr_l_free (state1 : Drw) : FOk (fun (o : Drw) => [eDrw o]) eS (t_l_free state1) (fn_l_free [eDrw state1]) := by
  unfold t_l_free
  exact fok_run (pm := [.io]) (rm := false) (eo := (fun (o : Drw) => [eDrw o])) (er := eS) (ν := Empty) (Γ := [.vl (Sv.mk .io (eDrw state1)), .no, .no, .no, .no]) (P := PF) (s_asg (c_pure (v_str str_3) (s_let (v := fun (x : (List Char)) => (sv (eS x))) (x := ([] : List Char)) rfl (fun _ => rfl) (fun text1 => (s_asg (c_pure v_c (s_st rfl rfl (s_for (c_r1 (c_two (c_one (c_two (c_call (c_pure (v_aS rfl (v_aE v_c rfl v_aN)) (c_kcallJ [0] (fun (o : Drw) => [.vl (Sv.mk .io (eDrw o)), .vl (sv (eS text1)), .vl (isv (0 : Int)), .no, .no]) (tr_l_draw state1 (9 : Int)) rfl rfl rfl rfl (fun _ => rfl) (fun o => (x_l_free (o := o) rfl)) (fun x => (isv x)) (fun _ => rfl) (fun v1 => (c_grd (by first | rfl | (unfold mk; repeat (first | rfl | split))) (c_pure v_c (c_ok (a := (isv (v1.1 + (4 : Int)))) (fun _ => rfl) (c_ok (a := (isv (v1.1 + (4 : Int)))) (fun _ => rfl) (c_grd (by first | rfl | (unfold mk; repeat (first | rfl | split))) (c_pure v_c (c_ok (a := (isv ((v1.1 + (4 : Int)) % (9 : Int)))) (k_modc (by decide)) (c_int (c_rng (fun r1 => (c_grd0 (s_loop (v := fun (x : Int) => (isv x)) (G := (fun (a : (Drw × (List Char) × Int)) => [.vl (Sv.mk .io (eDrw a.1)), .vl (sv (eS a.2.1)), .vl (isv a.2.2), .jk, .jk])) (by exact ⟨rfl, ⟨rfl, ⟨rfl, ⟨trivial, ⟨trivial, trivial⟩⟩⟩⟩⟩) (t_nm (i := 3) (v := fun x => (isv x)) (fun _ => rfl) (fun _ => rfl)) (fun gap1 s1 => (s_asg (c_frz (c_call (c_pure (v_aS rfl (v_aE (v_two (u := (isv (s1.2.2 + (2 : Int)))) (v_sh rfl) v_c rfl (fun _ => rfl)) rfl v_aN)) (c_kcallJ [0] (fun (o : Drw) => [.vl (Sv.mk .io (eDrw o)), .vl (sv (eS s1.2.1)), .vl (isv s1.2.2), .vl (isv gap1), .jk]) (tr_l_draw s1.1 (s1.2.2 + (2 : Int))) rfl rfl rfl rfl (fun _ => rfl) (fun o => (x_l_free (o := o) rfl)) (fun x => (isv x)) (fun _ => rfl) (fun v2 => (c_ok (a := (isv v2.1)) (fun _ => rfl) (s_st rfl rfl (s_asg (c_frz (c_two (c_pure (v_sh rfl) (c_grd (by first | rfl | (unfold mk; repeat (first | rfl | split))) (c_two (c_pure (v_str str_4) (c_grd (by first | rfl | (unfold mk; repeat (first | rfl | split))) (c_pure (v_sh rfl) (c_ixS (fun v3 => (c_catS (fun v4 => (c_ok (a := (sv (eS v4))) (fun _ => rfl) (s_st rfl rfl (s_last (s_if (c_pure (v_tst (v_two (u := (isb (decide (v2.1 = s1.2.2)))) (v_sh rfl) (v_sh rfl) rfl (k_eq (x := v2.1) (y := s1.2.2) eqt_I))) (s_selC (p := (v2.1 = s1.2.2)) rfl (s_asg (c_pure (v_frz (v_two (u := (isv (s1.2.2 + (1 : Int)))) (v_sh rfl) v_c rfl (fun _ => rfl)) (fun _ => rfl)) (s_let (v := fun (x : Int) => (isv x)) (x := (s1.2.2 + (1 : Int))) rfl (fun _ => rfl) (fun used1 => (s_end (G := (fun (a : (Drw × (List Char) × Int)) => [.vl (Sv.mk .io (eDrw a.1)), .vl (sv (eS a.2.1)), .vl (isv a.2.2), .jk, .jk])) (by exact ⟨rfl, ⟨rfl, ⟨rfl, ⟨trivial, ⟨trivial, trivial⟩⟩⟩⟩⟩)))))) (s_nil (s_end (G := (fun (a : (Drw × (List Char) × Int)) => [.vl (Sv.mk .io (eDrw a.1)), .vl (sv (eS a.2.1)), .vl (isv a.2.2), .jk, .jk])) (by exact ⟨rfl, ⟨rfl, ⟨rfl, ⟨trivial, ⟨trivial, trivial⟩⟩⟩⟩⟩))))))))))))))))))))))))))))))) (fun s2 => (s_ret (c_pure (v_sh rfl) (r_ret (rt_l_free (x := s2.2.1) (o := s2.1) rfl rfl rfl))))))))))))))))))))))))))))))))) (⟨_, _, rfl, rfl, ⟨_, _, rfl, rfl, ⟨_, _, rfl, rfl, ⟨_, _, rfl, rfl, ⟨_, _, rfl, rfl, rfl⟩⟩⟩⟩⟩) fall_no
abbrev su_l_long : Sur Empty Drw (List Char) := surF [.io] true (fun (o : Drw) => [eDrw o]) eS
theorem x_l_long {Γ : List Sl} {o : Drw} (h : outsG [.io] 0 Γ = some ((fun (o : Drw) => [eDrw o]) o)) : ∀ ρ, EnvR Γ ρ → su_l_long.ex o ρ := xf h
theorem rt_l_long {Γ : List Sl} {x : (List Char)} {o : Drw} {s : Sv} (h1 : s.d = eS x) (h2 : resOk true s = true) (h : outsG [.io] 0 Γ = some ((fun (o : Drw) => [eDrw o]) o)) : ∀ ρ, EnvR Γ ρ → su_l_long.rt x o s ρ := rtf h1 h2 h
theorem tr_l_long (state1 : Drw) : FOk (fun (o : Drw) => [eDrw o]) eS (t_l_long state1) (fn_l_long [eDrw state1]) := by
  unfold t_l_long
  exact fok_run (pm := [.io]) (rm := true) (eo := (fun (o : Drw) => [eDrw o])) (er := eS) (ν := Empty) (Γ := [.vl (Sv.mk .io (eDrw state1)), .no, .no]) (P := PF) (s_asg (c_two (c_pure (v_lst (u := (Sv.mk .own ((eL eI) [(7 : Int), (0 : Int), (6 : Int), (8 : Int), (9 : Int), (64 : Int), (399 : Int), (400 : Int)]))) (v_aE v_c rfl (v_aE v_c rfl (v_aE v_c rfl (v_aE v_c rfl (v_aE v_c rfl (v_aE v_c rfl (v_aE v_c rfl (v_aE v_c rfl v_aN)))))))) (fun _ => rfl)) (c_grd (by first | rfl | (unfold mk; repeat (first | rfl | split))) (c_call (c_pure (v_aS rfl (v_aE v_c rfl v_aN)) (c_kcallJ [0] (fun (o : Drw) => [.vl (Sv.mk .io (eDrw o)), .no, .no]) (tr_l_draw state1 (8 : Int)) rfl rfl rfl rfl (fun _ => rfl) (fun o => (x_l_long (o := o) rfl)) (fun x => (isv x)) (fun _ => rfl) (fun v1 => (c_ix (fun x => (isv x)) (fun _ => rfl) (fun v2 => (s_st rfl rfl (s_asg (c_frz (c_two (c_pure (v_str str_1) (c_grd (by first | rfl | (unfold mk; repeat (first | rfl | split))) (c_pure v_c (c_mulS (fun v3 => (c_ok (a := (sv (eS v3))) (fun _ => rfl) (s_st rfl rfl (s_if (c_tst (c_two (c_call (c_pure (v_aS rfl (v_aE v_c rfl v_aN)) (c_kcallJ [0] (fun (o : Drw) => [.vl (Sv.mk .io (eDrw o)), .vl (isv v2), .vl (sv (eS v3))]) (tr_l_draw v1.2 (2 : Int)) rfl rfl rfl rfl (fun _ => rfl) (fun o => (x_l_long (o := o) rfl)) (fun x => (isv x)) (fun _ => rfl) (fun v4 => (c_grd (by first | rfl | (unfold mk; repeat (first | rfl | split))) (c_pure v_c (c_ok (a := (isb (decide (v4.1 = (1 : Int))))) (k_eq (x := v4.1) (y := (1 : Int)) eqt_I) (c_ok (a := (decide (v4.1 = (1 : Int)))) (fun _ => rfl) (s_selJ (p := (v4.1 = (1 : Int))) (G := fun (a : (List Char)) => [.vl (Sv.mk .io (eDrw v4.2)), .vl (isv v2), .vl (sv (eS a))]) rfl (s_last (s_asg (c_frz (c_two (c_pure (v_str str_5) (c_grd (by first | rfl | (unfold mk; repeat (first | rfl | split))) (c_pure (v_sh rfl) (c_catS (fun v5 => (c_ok (a := (sv (eS v5))) (fun _ => rfl) (s_st rfl rfl (s_end (G := fun (a : (List Char)) => [.vl (Sv.mk .io (eDrw v4.2)), .vl (isv v2), .vl (sv (eS a))]) (by exact ⟨rfl, ⟨rfl, ⟨rfl, trivial⟩⟩⟩))))))))))))) (s_end (G := fun (a : (List Char)) => [.vl (Sv.mk .io (eDrw v4.2)), .vl (isv v2), .vl (sv (eS a))]) (by exact ⟨rfl, ⟨rfl, ⟨rfl, trivial⟩⟩⟩)) (fun q1 => (s_ret (c_sl (c_pure (v_sh rfl) (c_grd (by first | rfl | (unfold mk; repeat (first | rfl | split))) (c_pure v_noP (c_part (c_pure (v_sh rfl) (c_int (c_slS (fun v6 => (r_ret (rt_l_long (x := v6) (o := v4.2) rfl rfl rfl)))))))))))))))))))))))))))))))))))))))))))))) (⟨_, _, rfl, rfl, ⟨_, _, rfl, rfl, ⟨_, _, rfl, rfl, rfl⟩⟩⟩) fall_no
abbrev su_l_due : Sur Empty Unit (List Vl) := surF [.bor] true (fun _ => []) (eL eV)
theorem rt_l_due {Γ : List Sl} {x : (List Vl)} {o : Unit} {s : Sv} (h1 : s.d = (eL eV) x) (h2 : resOk true s = true) (h : outsG [.bor] 0 Γ = some ((fun _ => []) o)) : ∀ ρ, EnvR Γ ρ → su_l_due.rt x o s ρ := rtf h1 h2 h
theorem tr_l_due (text1 : (List Char)) : FOk (fun _ => []) (eL eV) (t_l_due_v3 text1) (fn_l_due [eS text1]) := by
  unfold t_l_due_v3
  exact fok_run (pm := [.bor]) (rm := true) (eo := (fun _ => [])) (er := (eL eV)) (ν := Empty) (Γ := [.vl (sv (eS text1)), .no, .no, .no]) (P := PF) (s_if (c_not (c_tst (c_join (v := fun (x : Bool) => isb x) (G := fun _ => [.vl (sv (eS text1)), .no, .no, .no]) (c_chain (c_pure v_c (c_int (c_one (c_pure (v_sh rfl) (c_lenS (fun v1 => (c_int (c_sel (p := ((1 : Int) ≤ v1)) rfl (c_pure v_c (c_int (c_val (v := fun (x : Bool) => isb x) (a := (decide (v1 ≤ (6 : Int)))) (by exact ⟨rfl, ⟨trivial, ⟨trivial, ⟨trivial, trivial⟩⟩⟩⟩)))) (c_val (v := fun (x : Bool) => isb x) (a := false) (by exact ⟨rfl, ⟨trivial, ⟨trivial, ⟨trivial, trivial⟩⟩⟩⟩))))))))))) (fun j1 => (c_ok (a := j1) (fun _ => rfl) (s_selA (p := (¬ (j1 = true))) (not_dec (bt _)) (s_ret (c_lst (c_aEx (c_pure (v_str str_6) (c_grd (by first | rfl | (unfold mk; repeat (first | rfl | split))) (c_aEx (c_frz (c_one (c_pure (v_sh rfl) (c_lenS (fun v2 => (c_ok (a := (isv v2)) (fun _ => rfl) (c_grd (by first | rfl | (unfold mk; repeat (first | rfl | split))) (c_pure v_aN (c_ok (a := (Sv.mk .own ((eL eV) [(eS ['s', 'i', 'z', 'e']), (eI v2)]))) (fun _ => rfl) (r_ret (rt_l_due (x := [(eS ['s', 'i', 'z', 'e']), (eI v2)]) (o := ()) rfl rfl rfl))))))))))))))))) (s_nil (s_asg (c_pure v_c (s_st rfl rfl (s_for (c_r1 (c_one (c_pure (v_sh rfl) (c_lenS (fun v3 => (c_int (c_rng (fun r1 => (c_grd0 (s_loop (v := fun (x : Int) => (isv x)) (G := (fun (a : Int) => [.vl (sv (eS text1)), .vl (isv a), .jk, .jk])) (by exact ⟨rfl, ⟨rfl, ⟨trivial, ⟨trivial, trivial⟩⟩⟩⟩) (t_nm (i := 2) (v := fun x => (isv x)) (fun _ => rfl) (fun _ => rfl)) (fun gap1 s1 => (s_asg (c_frz (c_str1 (c_pure (v_str str_1) (c_strV (c_two (c_pure (v_sh rfl) (c_grd (by first | rfl | (unfold mk; repeat (first | rfl | split))) (c_pure (v_sh rfl) (c_ixS (fun v4 => (c_ok (a := (isv (findC ['a', 'b', 'c', 'd', 'e', 'f'] v4))) k_find (c_ok (a := (isv (findC ['a', 'b', 'c', 'd', 'e', 'f'] v4))) (fun _ => rfl) (s_let (v := fun (x : Int) => (isv x)) (x := (findC ['a', 'b', 'c', 'd', 'e', 'f'] v4)) rfl (fun _ => rfl) (fun spot1 => (s_if (c_pure (v_or (v_tst (v_two (u := (isb (decide (spot1 < (0 : Int))))) (v_sh rfl) v_c rfl (fun _ => rfl))) (v_tst (v_two (u := (isb (decide (s1 < spot1)))) (v_sh rfl) (v_sh rfl) rfl (fun _ => rfl)))) (s_selA (p := ((spot1 < (0 : Int)) ∨ (s1 < spot1))) rfl (s_ret (c_pure (v_lst (u := (Sv.mk .own ((eL eV) [(eS ['c', 'o', 'a', 't']), (eI gap1)]))) (v_aE (v_str str_7) rfl (v_aE (v_sh rfl) rfl v_aN)) (fun _ => rfl)) (r_ret (rt_l_due (x := [(eS ['c', 'o', 'a', 't']), (eI gap1)]) (o := ()) rfl rfl rfl)))) (s_nil (s_last (s_if (c_pure (v_tst (v_two (u := (isb (decide (spot1 = s1)))) (v_sh rfl) (v_sh rfl) rfl (k_eq (x := spot1) (y := s1) eqt_I))) (s_selC (p := (spot1 = s1)) rfl (s_asg (c_pure (v_frz (v_two (u := (isv (s1 + (1 : Int)))) (v_sh rfl) v_c rfl (fun _ => rfl)) (fun _ => rfl)) (s_let (v := fun (x : Int) => (isv x)) (x := (s1 + (1 : Int))) rfl (fun _ => rfl) (fun used1 => (s_end (G := (fun (a : Int) => [.vl (sv (eS text1)), .vl (isv a), .jk, .jk])) (by exact ⟨rfl, ⟨rfl, ⟨trivial, ⟨trivial, trivial⟩⟩⟩⟩)))))) (s_nil (s_end (G := (fun (a : Int) => [.vl (sv (eS text1)), .vl (isv a), .jk, .jk])) (by exact ⟨rfl, ⟨rfl, ⟨trivial, ⟨trivial, trivial⟩⟩⟩⟩))))))))))))))))))))))))))) (fun s2 => (s_ret (c_pure (v_lst (u := (Sv.mk .own ((eL eS) [['m', 'a', 'd', 'e']]))) (v_aE (v_str str_8) rfl v_aN) (fun _ => rfl)) (r_ret (rt_l_due (x := [(eS ['m', 'a', 'd', 'e'])]) (o := ()) rfl rfl rfl))))))))))))))))))))))))))) (⟨_, _, rfl, rfl, ⟨_, _, rfl, rfl, ⟨_, _, rfl, rfl, ⟨_, _, rfl, rfl, rfl⟩⟩⟩⟩) fall_no
abbrev su_check_text : Sur Empty Unit Unit := surF [.bor] true (fun _ => []) eU
theorem x_check_text {Γ : List Sl} {o : Unit} (h : outsG [.bor] 0 Γ = some ((fun _ => []) o)) : ∀ ρ, EnvR Γ ρ → su_check_text.ex o ρ := xf h
theorem tr_check_text (text1 : (List Char)) : FOk (fun _ => []) eU (t_check_text text1) (fn_check_text [eS text1]) := by
  unfold t_check_text
  exact fok_run (pm := [.bor]) (rm := true) (eo := (fun _ => [])) (er := eU) (ν := Unit) (Γ := [.vl (sv (eS text1)), .no, .no, .no]) (P := (PN (fun (a : Unit) => [.jk, .jk, .jk, .jk]))) (s_if (c_not (c_tst (c_join (v := fun (x : Bool) => isb x) (G := fun _ => [.vl (sv (eS text1)), .no, .no, .no]) (c_chain (c_pure v_c (c_int (c_one (c_pure (v_sh rfl) (c_lenS (fun v1 => (c_int (c_sel (p := ((1 : Int) ≤ v1)) rfl (c_one (c_pure (v_str str_1) (c_lenS (fun v2 => (c_int (c_val (v := fun (x : Bool) => isb x) (a := (decide (v1 ≤ v2))) (by exact ⟨rfl, ⟨trivial, ⟨trivial, ⟨trivial, trivial⟩⟩⟩⟩))))))) (c_val (v := fun (x : Bool) => isb x) (a := false) (by exact ⟨rfl, ⟨trivial, ⟨trivial, ⟨trivial, trivial⟩⟩⟩⟩))))))))))) (fun j1 => (c_ok (a := j1) (fun _ => rfl) (s_selA (p := (¬ (j1 = true))) (not_dec (bt _)) (s_raise (c_aEx (c_frz (c_one (c_pure (v_sh rfl) (c_lenS (fun v3 => (c_ok (a := (isv v3)) (fun _ => rfl) (c_grd (by first | rfl | (unfold mk; repeat (first | rfl | split))) (c_pure v_aN (r_raise rfl rfl (x_check_text (o := ()) rfl)))))))))))) (s_nil (s_asg (c_pure v_c (s_st rfl rfl (s_last (s_for (c_src (c_pure (v_sh rfl) (c_ok (a := (true, (enmT (text1.map fun ch => [ch])).map fun x => (Sv.mk .shr ((e2 eI eS) x)))) k_itES (c_grd0 (s_loop (v := fun (x : (Int × (List Char))) => (Sv.mk .shr ((e2 eI eS) x))) (G := (fun (a : Int) => [.vl (sv (eS text1)), .vl (isv a), .jk, .jk])) (by exact ⟨rfl, ⟨rfl, ⟨trivial, ⟨trivial, trivial⟩⟩⟩⟩) (t_tp (is := [2, 3]) (v := fun x => (Sv.mk .shr ((e2 eI eS) x))) (ds := fun x => [eI x.1, eS x.2]) (m := .shr) (fun _ => rfl) (.inr rfl) (fun _ _ => rfl)) (fun p1 s1 => (s_last (s_if (c_tst (c_two (c_pure (v_sh rfl) (c_grd (by first | rfl | (unfold mk; repeat (first | rfl | split))) (c_two (c_pure (v_str str_1) (c_grd (by first | rfl | (unfold mk; repeat (first | rfl | split))) (c_pure (v_sh rfl) (c_ixS (fun v4 => (c_ok (a := (isb (decide (p1.2 = v4)))) (k_eq (x := p1.2) (y := v4) eqt_S) (c_ok (a := (decide (p1.2 = v4))) (fun _ => rfl) (s_selC (p := (p1.2 = v4)) rfl (s_asg (c_pure (v_frz (v_two (u := (isv (s1 + (1 : Int)))) (v_sh rfl) v_c rfl (fun _ => rfl)) (fun _ => rfl)) (s_let (v := fun (x : Int) => (isv x)) (x := (s1 + (1 : Int))) rfl (fun _ => rfl) (fun used1 => (s_end (G := (fun (a : Int) => [.vl (sv (eS text1)), .vl (isv a), .jk, .jk])) (by exact ⟨rfl, ⟨rfl, ⟨trivial, ⟨trivial, trivial⟩⟩⟩⟩)))))) (s_if (c_tst (c_two (c_pure (v_sh rfl) (c_grd (by first | rfl | (unfold mk; repeat (first | rfl | split))) (c_sl (c_pure (v_str str_1) (c_grd (by first | rfl | (unfold mk; repeat (first | rfl | split))) (c_pure v_noP (c_part (c_pure (v_sh rfl) (c_int (c_slS (fun v5 => (c_ok (a := (isb (decide (inC p1.2 v5 ≠ true)))) k_ninS (c_ok (a := (decide (inC p1.2 v5 ≠ true))) (fun _ => rfl) (s_selA (p := (inC p1.2 v5 ≠ true)) rfl (s_raise (c_pure (v_aS rfl v_aN) (r_raise rfl rfl (x_check_text (o := ()) rfl)))) (s_nil (s_end (G := (fun (a : Int) => [.vl (sv (eS text1)), .vl (isv a), .jk, .jk])) (by exact ⟨rfl, ⟨rfl, ⟨trivial, ⟨trivial, trivial⟩⟩⟩⟩)))))))))))))))))))))))))))))))))))) (fun s2 => (s_end (G := (fun (a : Unit) => [.jk, .jk, .jk, .jk])) (by exact ⟨trivial, ⟨trivial, ⟨trivial, ⟨trivial, trivial⟩⟩⟩⟩))))))))))))))))))))) (⟨_, _, rfl, rfl, ⟨_, _, rfl, rfl, ⟨_, _, rfl, rfl, ⟨_, _, rfl, rfl, rfl⟩⟩⟩⟩) (fall_end (fun _ => rfl))
abbrev su_before_of_text : Sur Empty Unit (List Int) := surF [.bor] true (fun _ => []) (eL eI)
theorem rt_before_of_text {Γ : List Sl} {x : (List Int)} {o : Unit} {s : Sv} (h1 : s.d = (eL eI) x) (h2 : resOk true s = true) (h : outsG [.bor] 0 Γ = some ((fun _ => []) o)) : ∀ ρ, EnvR Γ ρ → su_before_of_text.rt x o s ρ := rtf h1 h2 h
theorem tr_before_of_text (text1 : (List Char)) : FOk (fun _ => []) (eL eI) (t_before_of_text text1) (fn_before_of_text [eS text1]) := by
  unfold t_before_of_text
  exact fok_run (pm := [.bor]) (rm := true) (eo := (fun _ => [])) (er := (eL eI)) (ν := Empty) (Γ := [.vl (sv (eS text1)), .no, .no, .no, .no]) (P := PF) (s_asg (c_pure (v_lst (u := (Sv.mk .own ((eL eV) ([] : List Vl)))) v_aN (fun _ => rfl)) (s_let (v := fun (x : (List Int)) => (Sv.mk .own ((eL eI) x))) (x := ([] : List Int)) rfl (fun _ => rfl) (fun before1 => (s_for (c_r2 (c_pure v_c (c_int (c_one (c_pure (v_sh rfl) (c_lenS (fun v1 => (c_int (c_rng (fun r1 => (c_grd0 (s_loop (v := fun (x : Int) => (isv x)) (G := (fun (a : (List Int)) => [.vl (sv (eS text1)), .vl (Sv.mk .own ((eL eI) a)), .jk, .jk, .jk])) (by exact ⟨rfl, ⟨rfl, ⟨trivial, ⟨trivial, ⟨trivial, trivial⟩⟩⟩⟩⟩) (t_nm (i := 2) (v := fun x => (isv x)) (fun _ => rfl) (fun _ => rfl)) (fun gap1 s1 => (s_asg (c_pure (v_one (u := (isv (-(1 : Int)))) v_c (fun _ => rfl)) (s_let (v := fun (x : Int) => (isv x)) (x := (-(1 : Int))) rfl (fun _ => rfl) (fun nearest1 => (s_for (c_r1 (c_pure (v_sh rfl) (c_int (c_rng (fun r2 => (c_grd0 (s_loop (v := fun (x : Int) => (isv x)) (G := (fun (a : Int) => [.vl (sv (eS text1)), .vl (Sv.mk .own ((eL eI) s1)), .vl (isv gap1), .vl (isv a), .jk])) (by exact ⟨rfl, ⟨rfl, ⟨rfl, ⟨rfl, ⟨trivial, trivial⟩⟩⟩⟩⟩) (t_nm (i := 4) (v := fun x => (isv x)) (fun _ => rfl) (fun _ => rfl)) (fun earlier1 s2 => (s_last (s_if (c_tst (c_two (c_two (c_pure (v_sh rfl) (c_grd (by first | rfl | (unfold mk; repeat (first | rfl | split))) (c_pure (v_sh rfl) (c_ixS (fun v2 => (c_grd (by first | rfl | (unfold mk; repeat (first | rfl | split))) (c_two (c_pure (v_sh rfl) (c_grd (by first | rfl | (unfold mk; repeat (first | rfl | split))) (c_pure (v_sh rfl) (c_ixS (fun v3 => (c_ok (a := (isb (decide (v2 = v3)))) (k_eq (x := v2) (y := v3) eqt_S) (c_ok (a := (decide (v2 = v3))) (fun _ => rfl) (s_selC (p := (v2 = v3)) rfl (s_asg (c_pure (v_sh rfl) (s_st rfl rfl (s_end (G := (fun (a : Int) => [.vl (sv (eS text1)), .vl (Sv.mk .own ((eL eI) s1)), .vl (isv gap1), .vl (isv a), .jk])) (by exact ⟨rfl, ⟨rfl, ⟨rfl, ⟨rfl, ⟨trivial, trivial⟩⟩⟩⟩⟩))))) (s_nil (s_end (G := (fun (a : Int) => [.vl (sv (eS text1)), .vl (Sv.mk .own ((eL eI) s1)), .vl (isv gap1), .vl (isv a), .jk])) (by exact ⟨rfl, ⟨rfl, ⟨rfl, ⟨rfl, ⟨trivial, trivial⟩⟩⟩⟩⟩)))))))))))))))))))))))) (fun s3 => (s_last (s_expr (c_app rfl (c_pure (v_sh rfl) (c_grd rfl (c_push (e := eI) (x := s3) rfl rfl (fun before2 => (s_end (G := (fun (a : (List Int)) => [.vl (sv (eS text1)), .vl (Sv.mk .own ((eL eI) a)), .jk, .jk, .jk])) (by exact ⟨rfl, ⟨rfl, ⟨trivial, ⟨trivial, ⟨trivial, trivial⟩⟩⟩⟩⟩))))))))))))))))))))))) (fun s4 => (s_ret (c_mv rfl rfl (r_ret (rt_before_of_text (x := s4) (o := ()) rfl rfl rfl)))))))))))))))))))))) (⟨_, _, rfl, rfl, ⟨_, _, rfl, rfl, ⟨_, _, rfl, rfl, ⟨_, _, rfl, rfl, ⟨_, _, rfl, rfl, rfl⟩⟩⟩⟩⟩) fall_no
abbrev su_Coat___init__ : Sur Empty Unit C_Coat := surI [.io, .shr] e_Coat
theorem x_Coat___init__ {Γ : List Sl} {d : Vl} (h : outsG [.io, .shr] 0 Γ = some [d]) : ∀ ρ, EnvR Γ ρ → su_Coat___init__.ex () ρ := xi h
theorem tr_Coat___init__ (text1 : (List Char)) : FOkI e_Coat (t_Coat___init__ text1) (fn_Coat___init__ [.ins "Coat" [], eS text1]) := by
  unfold t_Coat___init__
  exact foki_run (er := e_Coat) (pm := [.io, .shr]) (ν := C_Coat) (Γ := [.vl ⟨.io, .ins "Coat" []⟩, .vl (sv (eS text1))]) (P := (PN (fun (a : C_Coat) => [.vl (Sv.mk .io (e_Coat a)), .jk]))) (s_expr (c_call (c_pure (v_aS rfl v_aN) (c_kcall (tr_check_text text1) rfl rfl rfl (x_Coat___init__ rfl) (fun x => (sv (eU x))) (fun _ => rfl) (fun v1 => (s_fld (c_pure (v_sh rfl) (c_grd rfl (c_fld (d := eS text1) rfl (by first | decide | rfl) rfl (s_last (s_fld (c_frz (c_one (c_call (c_pure (v_aS rfl v_aN) (c_kcall (tr_before_of_text text1) rfl rfl rfl (x_Coat___init__ rfl) (fun x => (Sv.mk .own ((eL eI) x))) (fun _ => rfl) (fun v2 => (c_ok (a := (Sv.mk .shr ((eT eI) v2))) (k_tupL rfl) (c_ok (a := (Sv.mk .shr ((eT eI) v2))) (fun _ => rfl) (c_grd rfl (c_fld (d := (eT eI) v2) rfl (by first | decide | rfl) rfl (s_end (G := (fun (a : C_Coat) => [.vl (Sv.mk .io (e_Coat a)), .jk])) ⟨rfl, ⟨trivial, trivial⟩⟩)))))))))))))))))))))) (⟨_, _, rfl, rfl, ⟨_, _, rfl, rfl, rfl⟩⟩) (fall_init (fun _ => rfl))
abbrev su_l_made : Sur Empty Unit (List Vl) := surF [.shr] true (fun _ => []) (eL eV)
theorem x_l_made {Γ : List Sl} {o : Unit} (h : outsG [.shr] 0 Γ = some ((fun _ => []) o)) : ∀ ρ, EnvR Γ ρ → su_l_made.ex o ρ := xf h
theorem rt_l_made {Γ : List Sl} {x : (List Vl)} {o : Unit} {s : Sv} (h1 : s.d = (eL eV) x) (h2 : resOk true s = true) (h : outsG [.shr] 0 Γ = some ((fun _ => []) o)) : ∀ ρ, EnvR Γ ρ → su_l_made.rt x o s ρ := rtf h1 h2 h
theorem tr_l_made (text1 : (List Char)) : FOk (fun _ => []) (eL eV) (t_l_made_v3 text1) (fn_l_made [eS text1]) := by
  unfold t_l_made_v3
  exact fok_run (pm := [.shr]) (rm := true) (eo := (fun _ => [])) (er := (eL eV)) (ν := Empty) (Γ := [.vl (sv (eS text1)), .no]) (P := PF) (s_then (G := (fun (a : Unit) => [.vl (sv (eS text1)), .jk])) (s_try (g := (fun o => ())) (Gx := (fun (a : Unit) => [.vl (sv (eS text1)), .no])) pn_ne (s_last (s_expr (c_make (c_pure (v_aS rfl v_aN) (c_kmake (tr_Coat___init__ text1) rfl rfl (xtry (by exact ⟨rfl, ⟨trivial, trivial⟩⟩)) (fun v1 => (s_end (G := (fun (a : Unit) => [.vl (sv (eS text1)), .jk])) (by exact ⟨rfl, ⟨trivial, trivial⟩⟩)))))))) (fun c1 fs1 o1 => (h_as rfl pn_ne (hn_N (fun _ => (.inl rfl))) hl_0 (RS.ofF (s_ret (c_two (c_lst (c_aEx (c_pure (v_str str_6) (c_grd (by first | rfl | (unfold mk; repeat (first | rfl | split))) (c_aEx (c_xfI (fun v2 => (c_grd (by first | rfl | (unfold mk; repeat (first | rfl | split))) (c_pure v_aN (c_ok (a := (Sv.mk .own ((eL eV) [(eS ['s', 'i', 'z', 'e']), (eI v2)]))) (fun _ => rfl) (c_grd (by first | rfl | (unfold mk; repeat (first | rfl | split))) (c_two (c_pure (v_lst (u := (Sv.mk .own ((eL eS) [['o', 'd', 'd']]))) (v_aE (v_str str_9) rfl v_aN) (fun _ => rfl)) (c_grd (by first | rfl | (unfold mk; repeat (first | rfl | split))) (c_pure (v_one (u := (isv (if (List.contains ([] : List Str) c1) then 1 else 0))) (v_isx) (fun _ => rfl)) (c_rep rfl (fun v3 => (c_catV rfl rfl (fun v4 => (r_ret (rt_l_made (x := v4) (o := ()) rfl rfl rfl)))))))))))))))))))))))) (h_as rfl pn_ne (hn_N (fun _ => (.inl rfl))) hl_0 (RS.ofF (s_ret (c_two (c_lst (c_aEx (c_pure (v_str str_7) (c_grd (by first | rfl | (unfold mk; repeat (first | rfl | split))) (c_aEx (c_xfI (fun v5 => (c_grd (by first | rfl | (unfold mk; repeat (first | rfl | split))) (c_pure v_aN (c_ok (a := (Sv.mk .own ((eL eV) [(eS ['c', 'o', 'a', 't']), (eI v5)]))) (fun _ => rfl) (c_grd (by first | rfl | (unfold mk; repeat (first | rfl | split))) (c_two (c_pure (v_lst (u := (Sv.mk .own ((eL eS) [['o', 'd', 'd']]))) (v_aE (v_str str_9) rfl v_aN) (fun _ => rfl)) (c_grd (by first | rfl | (unfold mk; repeat (first | rfl | split))) (c_pure (v_one (u := (isv (if (List.contains ([] : List Str) c1) then 1 else 0))) (v_isx) (fun _ => rfl)) (c_rep rfl (fun v6 => (c_catV rfl rfl (fun v7 => (r_ret (rt_l_made (x := v7) (o := ()) rfl rfl rfl)))))))))))))))))))))))) (h_end (x_l_made (o := ()) rfl)))))) (fun q1 => (s_ret (c_pure (v_lst (u := (Sv.mk .own ((eL eS) [['m', 'a', 'd', 'e']]))) (v_aE (v_str str_8) rfl v_aN) (fun _ => rfl)) (r_ret (rt_l_made (x := [(eS ['m', 'a', 'd', 'e'])]) (o := ()) rfl rfl rfl)))))) (⟨_, _, rfl, rfl, ⟨_, _, rfl, rfl, rfl⟩⟩) fall_no
abbrev su_l_numbers : Sur Empty Unit Bool := surF [.shr] true (fun _ => []) eB
theorem rt_l_numbers {Γ : List Sl} {x : Bool} {o : Unit} {s : Sv} (h1 : s.d = eB x) (h2 : resOk true s = true) (h : outsG [.shr] 0 Γ = some ((fun _ => []) o)) : ∀ ρ, EnvR Γ ρ → su_l_numbers.rt x o s ρ := rtf h1 h2 h
theorem tr_l_numbers (row1 : (List Vl)) : FOk (fun _ => []) eB (t_l_numbers_v8 row1) (fn_l_numbers [(eL eV) row1]) := by
  unfold t_l_numbers_v8
  exact fok_run (pm := [.shr]) (rm := true) (eo := (fun _ => [])) (er := eB) (ν := Empty) (Γ := [.vl (Sv.mk .shr ((eL eV) row1)), .no]) (P := PF) (s_for (c_src (c_pure (v_sl (u := (Sv.mk .own ((eL eV) (cutD row1 (some (1 : Int)) none)))) (v_sh rfl) rfl (v_part v_c) v_noP (k_sl rfl)) (c_ok (a := (true, ((cutD row1 (some (1 : Int)) none)).map fun x => (Sv.mk .shr (eV x)))) k_itLO (c_grd0 (s_loop (v := fun (x : Vl) => (Sv.mk .shr (eV x))) (G := (fun (a : Unit) => [.vl (Sv.mk .shr ((eL eV) row1)), .jk])) (by exact ⟨rfl, ⟨trivial, trivial⟩⟩) (t_nm (i := 1) (v := fun x => (Sv.mk .shr (eV x))) (fun _ => rfl) (fun x => by first | exact rfl | exact mkb_sto _)) (fun value1 s1 => (s_last (s_if (c_joinB (v := fun b => b) (G := fun _ => [.vl (Sv.mk .shr ((eL eV) row1)), .vl (Sv.mk .shr (eV value1))]) (c_or (c_not (c_tru (c_one (c_pure (v_sh rfl) (c_isiO (fun b1 => (c_ktru (b := b1) rfl (c_sel (p := (¬ (b1 = true))) (not_dec (bt _)) (c_valB (v := fun b => b) (a := true) (by exact ⟨rfl, ⟨rfl, trivial⟩⟩)) (c_tru (c_one (c_pure (v_sh rfl) (c_isiO (fun b2 => (c_ktru (b := b2) rfl (c_valB (v := fun b => b) (a := b2) (by exact ⟨rfl, ⟨rfl, trivial⟩⟩))))))))))))))))) (fun t1 => (s_selA (p := (t1 = true)) (bt _) (s_ret (c_pure v_c (r_ret (rt_l_numbers (x := false) (o := ()) rfl rfl rfl)))) (s_nil (s_end (G := (fun (a : Unit) => [.vl (Sv.mk .shr ((eL eV) row1)), .jk])) (by exact ⟨rfl, ⟨trivial, trivial⟩⟩))))))))) (fun s2 => (s_ret (c_pure v_c (r_ret (rt_l_numbers (x := true) (o := ()) rfl rfl rfl))))))))))) (⟨_, _, rfl, rfl, ⟨_, _, rfl, rfl, rfl⟩⟩) fall_no
abbrev su_l_base : Sur Empty Unit Bool := surF [.shr] true (fun _ => []) eB
theorem x_l_base {Γ : List Sl} {o : Unit} (h : outsG [.shr] 0 Γ = some ((fun _ => []) o)) : ∀ ρ, EnvR Γ ρ → su_l_base.ex o ρ := xf h
theorem rt_l_base {Γ : List Sl} {x : Bool} {o : Unit} {s : Sv} (h1 : s.d = eB x) (h2 : resOk true s = true) (h : outsG [.shr] 0 Γ = some ((fun _ => []) o)) : ∀ ρ, EnvR Γ ρ → su_l_base.rt x o s ρ := rtf h1 h2 h
theorem tr_l_base (text1 : (List Char)) : FOk (fun _ => []) eB (t_l_base_v16 text1) (fn_l_base [eS text1]) := by
  unfold t_l_base_v16
  exact fok_run (pm := [.shr]) (rm := true) (eo := (fun _ => [])) (er := eB) (ν := Empty) (Γ := [.vl (sv (eS text1)), .no]) (P := PF) (s_then (G := (fun (a : Unit) => [.vl (sv (eS text1)), .jk])) (s_try (g := (fun o => ())) (Gx := (fun (a : Unit) => [.vl (sv (eS text1)), .no])) pn_ne (s_last (s_expr (c_make (c_pure (v_aS rfl v_aN) (c_kmake (tr_Coat___init__ text1) rfl rfl (xtry (by exact ⟨rfl, ⟨trivial, trivial⟩⟩)) (fun v1 => (s_end (G := (fun (a : Unit) => [.vl (sv (eS text1)), .jk])) (by exact ⟨rfl, ⟨trivial, trivial⟩⟩)))))))) (fun c1 fs1 o1 => (h_as rfl pn_ne (hn_N (fun _ => (.inl rfl))) hl_0 (RS.ofF (s_ret (c_pure (v_isx) (r_ret (rt_l_base (x := (List.contains (["BadSize", "BadCoat"] : List Str) c1)) (o := ()) rfl rfl rfl))))) (h_end (x_l_base (o := ()) rfl))))) (fun q1 => (s_ret (c_pure v_c (r_ret (rt_l_base (x := false) (o := ()) rfl rfl rfl)))))) (⟨_, _, rfl, rfl, ⟨_, _, rfl, rfl, rfl⟩⟩) fall_no
abbrev su_Coat_text : Sur Empty Unit (List Char) := surF [.bor] false (fun _ => []) eS
theorem rt_Coat_text {Γ : List Sl} {x : (List Char)} {o : Unit} {s : Sv} (h1 : s.d = eS x) (h2 : resOk false s = true) (h : outsG [.bor] 0 Γ = some ((fun _ => []) o)) : ∀ ρ, EnvR Γ ρ → su_Coat_text.rt x o s ρ := rtf h1 h2 h
theorem tr_Coat_text (self1 : C_Coat) : FOk (fun _ => []) eS (t_Coat_text self1) (fn_Coat_text [e_Coat self1]) := by
  unfold t_Coat_text
  exact fok_run (pm := [.bor]) (rm := false) (eo := (fun _ => [])) (er := eS) (ν := Empty) (Γ := [.vl (Sv.mk .bor (e_Coat self1))]) (P := PF) (s_ret (c_pure (v_one (u := (sv (eS self1.1))) (v_bo rfl) fl_0) (r_ret (rt_Coat_text (x := self1.1) (o := ()) rfl rfl rfl)))) (⟨_, _, rfl, rfl, rfl⟩) fall_no
abbrev su_Coat_places : Sur Empty Unit Int := surF [.bor] true (fun _ => []) eI
theorem rt_Coat_places {Γ : List Sl} {x : Int} {o : Unit} {s : Sv} (h1 : s.d = eI x) (h2 : resOk true s = true) (h : outsG [.bor] 0 Γ = some ((fun _ => []) o)) : ∀ ρ, EnvR Γ ρ → su_Coat_places.rt x o s ρ := rtf h1 h2 h
theorem tr_Coat_places (self1 : C_Coat) : FOk (fun _ => []) eI (t_Coat_places self1) (fn_Coat_places [e_Coat self1]) := by
  unfold t_Coat_places
  exact fok_run (pm := [.bor]) (rm := true) (eo := (fun _ => [])) (er := eI) (ν := Empty) (Γ := [.vl (Sv.mk .bor (e_Coat self1))]) (P := PF) (s_ret (c_pure (v_one (u := (isv (self1.2.length : Int))) (v_one (u := (Sv.mk .bor ((eT eI) self1.2))) (v_bo rfl) fl_1) k_lenT) (r_ret (rt_Coat_places (x := (self1.2.length : Int)) (o := ()) rfl rfl rfl)))) (⟨_, _, rfl, rfl, rfl⟩) fall_no
abbrev su_count_in : Sur Empty Unit Int := surF [.bor, .bor, .bor] false (fun _ => []) eI
theorem rt_count_in {Γ : List Sl} {x : Int} {o : Unit} {s : Sv} (h1 : s.d = eI x) (h2 : resOk false s = true) (h : outsG [.bor, .bor, .bor] 0 Γ = some ((fun _ => []) o)) : ∀ ρ, EnvR Γ ρ → su_count_in.rt x o s ρ := rtf h1 h2 h
theorem tr_count_in (before1 : (List Int)) (begin1 : Int) (end1 : Int) : FOk (fun _ => []) eI (t_count_in before1 begin1 end1) (fn_count_in [(eT eI) before1, eI begin1, eI end1]) := by
  unfold t_count_in
  exact fok_run (pm := [.bor, .bor, .bor]) (rm := false) (eo := (fun _ => [])) (er := eI) (ν := Empty) (Γ := [.vl (Sv.mk .bor ((eT eI) before1)), .vl (isv begin1), .vl (isv end1), .no, .no]) (P := PF) (s_asg (c_pure v_c (s_st rfl rfl (s_for (c_r2 (c_pure (v_two (u := (isv (begin1 + (1 : Int)))) (v_sh rfl) v_c rfl (fun _ => rfl)) (c_int (c_pure (v_two (u := (isv (end1 + (1 : Int)))) (v_sh rfl) v_c rfl (fun _ => rfl)) (c_int (c_rng (fun r1 => (c_grd0 (s_loop (v := fun (x : Int) => (isv x)) (G := (fun (a : Int) => [.vl (Sv.mk .bor ((eT eI) before1)), .vl (isv begin1), .vl (isv end1), .vl (isv a), .jk])) (by exact ⟨rfl, ⟨rfl, ⟨rfl, ⟨rfl, ⟨trivial, trivial⟩⟩⟩⟩⟩) (t_nm (i := 4) (v := fun x => (isv x)) (fun _ => rfl) (fun _ => rfl)) (fun gap1 s1 => (s_last (s_if (c_tst (c_two (c_two (c_pure (v_bo rfl) (c_grd (by first | rfl | (unfold mk; repeat (first | rfl | split))) (c_pure (v_two (u := (isv (gap1 - (1 : Int)))) (v_sh rfl) v_c rfl (fun _ => rfl)) (c_ixT (fun x => (isv x)) (fun _ => rfl) (fun v1 => (c_grd (by first | rfl | (unfold mk; repeat (first | rfl | split))) (c_pure (v_sh rfl) (c_ok (a := (isb (decide (v1 < begin1)))) (fun _ => rfl) (c_ok (a := (decide (v1 < begin1))) (fun _ => rfl) (s_selC (p := (v1 < begin1)) rfl (s_asg (c_pure (v_frz (v_two (u := (isv (s1 + (1 : Int)))) (v_sh rfl) v_c rfl (fun _ => rfl)) (fun _ => rfl)) (s_let (v := fun (x : Int) => (isv x)) (x := (s1 + (1 : Int))) rfl (fun _ => rfl) (fun new1 => (s_end (G := (fun (a : Int) => [.vl (Sv.mk .bor ((eT eI) before1)), .vl (isv begin1), .vl (isv end1), .vl (isv a), .jk])) (by exact ⟨rfl, ⟨rfl, ⟨rfl, ⟨rfl, ⟨trivial, trivial⟩⟩⟩⟩⟩)))))) (s_nil (s_end (G := (fun (a : Int) => [.vl (Sv.mk .bor ((eT eI) before1)), .vl (isv begin1), .vl (isv end1), .vl (isv a), .jk])) (by exact ⟨rfl, ⟨rfl, ⟨rfl, ⟨rfl, ⟨trivial, trivial⟩⟩⟩⟩⟩))))))))))))))))))) (fun s2 => (s_ret (c_pure (v_sh rfl) (r_ret (rt_count_in (x := s2) (o := ()) rfl rfl rfl)))))))))))))))))) (⟨_, _, rfl, rfl, ⟨_, _, rfl, rfl, ⟨_, _, rfl, rfl, ⟨_, _, rfl, rfl, ⟨_, _, rfl, rfl, rfl⟩⟩⟩⟩⟩) fall_no
abbrev su_Coat_colours : Sur Empty Unit Int := surF [.bor] true (fun _ => []) eI
theorem x_Coat_colours {Γ : List Sl} {o : Unit} (h : outsG [.bor] 0 Γ = some ((fun _ => []) o)) : ∀ ρ, EnvR Γ ρ → su_Coat_colours.ex o ρ := xf h
theorem rt_Coat_colours {Γ : List Sl} {x : Int} {o : Unit} {s : Sv} (h1 : s.d = eI x) (h2 : resOk true s = true) (h : outsG [.bor] 0 Γ = some ((fun _ => []) o)) : ∀ ρ, EnvR Γ ρ → su_Coat_colours.rt x o s ρ := rtf h1 h2 h
theorem tr_Coat_colours (self1 : C_Coat) : FOk (fun _ => []) eI (t_Coat_colours self1) (fn_Coat_colours [e_Coat self1]) := by
  unfold t_Coat_colours
  exact fok_run (pm := [.bor]) (rm := true) (eo := (fun _ => [])) (er := eI) (ν := Empty) (Γ := [.vl (Sv.mk .bor (e_Coat self1))]) (P := PF) (s_ret (c_two (c_call (c_pure (v_aE (v_one (u := (Sv.mk .bor ((eT eI) self1.2))) (v_bo rfl) fl_1) rfl (v_aE v_c rfl (v_aE (v_one (u := (isv (self1.2.length : Int))) (v_one (u := (Sv.mk .bor ((eT eI) self1.2))) (v_bo rfl) fl_1) k_lenT) rfl v_aN))) (c_kcall (tr_count_in self1.2 (0 : Int) (self1.2.length : Int)) rfl rfl rfl (x_Coat_colours (o := ()) rfl) (fun x => (isv x)) (fun _ => rfl) (fun v1 => (c_grd (by first | rfl | (unfold mk; repeat (first | rfl | split))) (c_pure v_c (c_ok (a := (isv (v1 + (1 : Int)))) (fun _ => rfl) (r_ret (rt_Coat_colours (x := (v1 + (1 : Int))) (o := ()) rfl rfl rfl))))))))))) (⟨_, _, rfl, rfl, rfl⟩) fall_no
abbrev su_l_face : Sur Empty Unit Bool := surF [.bor, .bor] true (fun _ => []) eB
theorem x_l_face {Γ : List Sl} {o : Unit} (h : outsG [.bor, .bor] 0 Γ = some ((fun _ => []) o)) : ∀ ρ, EnvR Γ ρ → su_l_face.ex o ρ := xf h
theorem rt_l_face {Γ : List Sl} {x : Bool} {o : Unit} {s : Sv} (h1 : s.d = eB x) (h2 : resOk true s = true) (h : outsG [.bor, .bor] 0 Γ = some ((fun _ => []) o)) : ∀ ρ, EnvR Γ ρ → su_l_face.rt x o s ρ := rtf h1 h2 h
theorem tr_l_face (coat1 : C_Coat) (text1 : (List Char)) : FOk (fun _ => []) eB (t_l_face coat1 text1) (fn_l_face [e_Coat coat1, eS text1]) := by
  unfold t_l_face
  exact fok_run (pm := [.bor, .bor]) (rm := true) (eo := (fun _ => [])) (er := eB) (ν := Empty) (Γ := [.vl (Sv.mk .bor (e_Coat coat1)), .vl (sv (eS text1)), .no, .no, .no, .no]) (P := PF) (s_if (c_joinB (v := fun b => b) (G := fun _ => [.vl (Sv.mk .bor (e_Coat coat1)), .vl (sv (eS text1)), .no, .no, .no, .no]) (c_or (c_pure (v_not (v_bp (v_tru (v_one (u := (isb true)) (v_bo rfl) (fun _ => rfl)) rfl))) (c_sel (p := (¬ (true = true))) rfl (c_valB (v := fun b => b) (a := true) (by exact ⟨rfl, ⟨rfl, ⟨trivial, ⟨trivial, ⟨trivial, ⟨trivial, trivial⟩⟩⟩⟩⟩⟩)) (c_not (c_tru (c_one (c_meth (c_pure (v_rSl rfl) (c_cls rfl rfl rfl rfl (c_pure v_aN (c_kcall (tr_Coat_text coat1) rfl rfl rfl (x_l_face (o := ()) rfl) (fun x => (sv (eS x))) (fun _ => rfl) (fun v1 => (c_ok (a := (isb true)) (fun _ => rfl) (c_ktru (b := true) rfl (c_valB (v := fun b => b) (a := (!true)) (by exact ⟨rfl, ⟨rfl, ⟨trivial, ⟨trivial, ⟨trivial, ⟨trivial, trivial⟩⟩⟩⟩⟩⟩)))))))))))))))) (fun t1 => (s_selA (p := (t1 = true)) (bt _) (s_ret (c_pure v_c (r_ret (rt_l_face (x := false) (o := ()) rfl rfl rfl)))) (s_nil (s_asg (c_frz (c_lst (c_aEx (c_pure (v_str str_10) (c_grd (by first | rfl | (unfold mk; repeat (first | rfl | split))) (c_aEx (c_prop (c_pure (v_rSl rfl) (c_cls rfl rfl rfl rfl (c_kprop (tr_Coat_places coat1) rfl (fun x => (isv x)) (fun _ => rfl) (fun v2 => (c_grd (by first | rfl | (unfold mk; repeat (first | rfl | split))) (c_aEx (c_prop (c_pure (v_rSl rfl) (c_cls rfl rfl rfl rfl (c_kprop (tr_Coat_colours coat1) rfl (fun x => (isv x)) (fun _ => rfl) (fun v3 => (c_grd (by first | rfl | (unfold mk; repeat (first | rfl | split))) (c_aEx (c_pure (v_frz (v_one (u := (isv (coat1.2.length : Int))) (v_bo rfl) (k_lenOT rfl rfl)) (fun _ => rfl)) (c_grd (by first | rfl | (unfold mk; repeat (first | rfl | split))) (c_aEx (c_pure v_c (c_grd (by first | rfl | (unfold mk; repeat (first | rfl | split))) (c_pure v_aN (c_ok (a := (Sv.mk .own ((eL eV) [(eS ['f', 'a', 'c', 'e']), (eI v2), (eI v3), (eI (coat1.2.length : Int)), (eI (5 : Int))]))) (fun _ => rfl) (c_ok (a := (Sv.mk .shr ((eL eV) [(eS ['f', 'a', 'c', 'e']), (eI v2), (eI v3), (eI (coat1.2.length : Int)), (eI (5 : Int))]))) (fun _ => rfl) (s_let (v := fun (x : (List Vl)) => (Sv.mk .shr ((eL eV) x))) (x := [(eS ['f', 'a', 'c', 'e']), (eI v2), (eI v3), (eI (coat1.2.length : Int)), (eI (5 : Int))]) rfl (fun _ => rfl) (fun told1 => (s_asg (c_frz (c_lst (c_aEx (c_pure (v_str str_10) (c_grd (by first | rfl | (unfold mk; repeat (first | rfl | split))) (c_aEx (c_frz (c_two (c_one (c_pure (v_sh rfl) (c_lenS (fun v4 => (c_grd (by first | rfl | (unfold mk; repeat (first | rfl | split))) (c_pure v_c (c_ok (a := (isv (v4 - (1 : Int)))) (fun _ => rfl) (c_ok (a := (isv (v4 - (1 : Int)))) (fun _ => rfl) (c_grd (by first | rfl | (unfold mk; repeat (first | rfl | split))) (c_aEx (c_frz (c_one (c_pure (v_sh rfl) (c_lenSet (fun v5 => (c_ok (a := (isv v5)) (fun _ => rfl) (c_grd (by first | rfl | (unfold mk; repeat (first | rfl | split))) (c_aEx (c_frz (c_two (c_one (c_pure (v_sh rfl) (c_lenS (fun v6 => (c_grd (by first | rfl | (unfold mk; repeat (first | rfl | split))) (c_pure v_c (c_ok (a := (isv (v6 - (1 : Int)))) (fun _ => rfl) (c_ok (a := (isv (v6 - (1 : Int)))) (fun _ => rfl) (c_grd (by first | rfl | (unfold mk; repeat (first | rfl | split))) (c_aEx (c_pure v_c (c_grd (by first | rfl | (unfold mk; repeat (first | rfl | split))) (c_pure v_aN (c_ok (a := (Sv.mk .own ((eL eV) [(eS ['f', 'a', 'c', 'e']), (eI (v4 - (1 : Int))), (eI v5), (eI (v6 - (1 : Int))), (eI (5 : Int))]))) (fun _ => rfl) (c_ok (a := (Sv.mk .shr ((eL eV) [(eS ['f', 'a', 'c', 'e']), (eI (v4 - (1 : Int))), (eI v5), (eI (v6 - (1 : Int))), (eI (5 : Int))]))) (fun _ => rfl) (s_let (v := fun (x : (List Vl)) => (Sv.mk .shr ((eL eV) x))) (x := [(eS ['f', 'a', 'c', 'e']), (eI (v4 - (1 : Int))), (eI v5), (eI (v6 - (1 : Int))), (eI (5 : Int))]) rfl (fun _ => rfl) (fun due_here1 => (s_asg (c_frz (c_lc (c_src (c_pure (v_bo rfl) (c_ok (a := (true, (coat1.1.map fun ch => [ch]).map fun x => (sv (eS x)))) (k_itOS rfl rfl) (c_lmP (f := fun letter1 => letter1) rfl eS rfl (t_nmC (n := 5) (v := fun x => (sv (eS x))) rfl (fun _ => rfl)) (fun _ => rfl) (fun letter1 => (v_sh rfl)) (fun l1 => (c_ok (a := (Sv.mk .shr ((eL eS) l1))) (fun _ => rfl) (s_st rfl rfl (s_if (c_joinB (v := fun b => b) (G := fun _ => [.vl (Sv.mk .bor (e_Coat coat1)), .vl (sv (eS text1)), .vl (Sv.mk .shr ((eL eV) told1)), .vl (Sv.mk .shr ((eL eV) due_here1)), .vl (Sv.mk .shr ((eL eS) l1)), .no]) (c_or (c_not (c_tru (c_call (c_pure (v_aS rfl v_aN) (c_kcall (tr_l_numbers told1) rfl rfl rfl (x_l_face (o := ()) rfl) (fun x => (isb x)) (fun _ => rfl) (fun v7 => (c_ktru (b := v7) rfl (c_sel (p := (¬ (v7 = true))) (not_dec (bt _)) (c_valB (v := fun b => b) (a := true) (by exact ⟨rfl, ⟨rfl, ⟨rfl, ⟨rfl, ⟨rfl, ⟨trivial, trivial⟩⟩⟩⟩⟩⟩)) (c_tst (c_two (c_pure (v_sh rfl) (c_grd (by first | rfl | (unfold mk; repeat (first | rfl | split))) (c_pure (v_sh rfl) (c_neO (fun b1 => (c_ok (a := b1) (fun _ => rfl) (c_valB (v := fun b => b) (a := b1) (by exact ⟨rfl, ⟨rfl, ⟨rfl, ⟨rfl, ⟨rfl, ⟨trivial, trivial⟩⟩⟩⟩⟩⟩))))))))))))))))))) (fun t2 => (s_selA (p := (t2 = true)) (bt _) (s_ret (c_pure v_c (r_ret (rt_l_face (x := false) (o := ()) rfl rfl rfl)))) (s_nil (s_ret (c_join (v := fun (x : Bool) => (isb x)) (G := fun _ => [.vl (Sv.mk .bor (e_Coat coat1)), .vl (sv (eS text1)), .vl (Sv.mk .shr ((eL eV) told1)), .vl (Sv.mk .shr ((eL eV) due_here1)), .vl (Sv.mk .shr ((eL eS) l1)), .no]) (c_andV (c_two (c_meth (c_pure (v_rSl rfl) (c_cls rfl rfl rfl rfl (c_pure v_aN (c_kcall (tr_Coat_text coat1) rfl rfl rfl (x_l_face (o := ()) rfl) (fun x => (sv (eS x))) (fun _ => rfl) (fun v8 => (c_grd (by first | rfl | (unfold mk; repeat (first | rfl | split))) (c_pure (v_sh rfl) (c_ok (a := (isb (decide (v8 = text1)))) (k_eq (x := v8) (y := text1) eqt_S) (c_ok (fun _ => rfl) (c_sel (p := (v8 = text1)) rfl (c_two (c_pure (v_sh rfl) (c_grd (by first | rfl | (unfold mk; repeat (first | rfl | split))) (c_lc (c_src (c_pure (v_sh rfl) (c_ok (a := (true, (text1.map fun ch => [ch]).map fun x => (sv (eS x)))) k_itS (c_lmP (f := fun letter2 => letter2) rfl eS rfl (t_nmC (n := 5) (v := fun x => (sv (eS x))) rfl (fun _ => rfl)) (fun _ => rfl) (fun letter2 => (v_sh rfl)) (fun l2 => (c_ok (a := (isb (decide (l1 = l2)))) (k_eq (x := l1) (y := l2) (eqt_L eqt_S)) (c_val (v := fun (x : Bool) => (isb x)) (a := (decide (l1 = l2))) (by exact ⟨rfl, ⟨rfl, ⟨rfl, ⟨rfl, ⟨rfl, ⟨trivial, trivial⟩⟩⟩⟩⟩⟩)))))))))))) (c_val (v := fun (x : Bool) => (isb x)) (a := false) (by exact ⟨rfl, ⟨rfl, ⟨rfl, ⟨rfl, ⟨rfl, ⟨trivial, trivial⟩⟩⟩⟩⟩⟩))))))))))))))) (fun j1 => (r_ret (rt_l_face (x := j1) (o := ()) rfl rfl rfl)))))))))))))))))))))))))))))))))))))))))))))))))))))))))))))))))))))))))))))))))))))))))))))))))))))) (⟨_, _, rfl, rfl, ⟨_, _, rfl, rfl, ⟨_, _, rfl, rfl, ⟨_, _, rfl, rfl, ⟨_, _, rfl, rfl, ⟨_, _, rfl, rfl, rfl⟩⟩⟩⟩⟩⟩) fall_no
abbrev su_Coat_same : Sur Empty Unit Bool := surF [.bor, .shr, .shr] true (fun _ => []) eB
theorem x_Coat_same {Γ : List Sl} {o : Unit} (h : outsG [.bor, .shr, .shr] 0 Γ = some ((fun _ => []) o)) : ∀ ρ, EnvR Γ ρ → su_Coat_same.ex o ρ := xf h
theorem rt_Coat_same {Γ : List Sl} {x : Bool} {o : Unit} {s : Sv} (h1 : s.d = eB x) (h2 : resOk true s = true) (h : outsG [.bor, .shr, .shr] 0 Γ = some ((fun _ => []) o)) : ∀ ρ, EnvR Γ ρ → su_Coat_same.rt x o s ρ := rtf h1 h2 h
theorem tr_Coat_same (self1 : C_Coat) (first1 : Int) (second1 : Int) : FOk (fun _ => []) eB (t_Coat_same self1 first1 second1) (fn_Coat_same [e_Coat self1, eI first1, eI second1]) := by
  unfold t_Coat_same
  exact fok_run (pm := [.bor, .shr, .shr]) (rm := true) (eo := (fun _ => [])) (er := eB) (ν := Empty) (Γ := [.vl (Sv.mk .bor (e_Coat self1)), .vl (isv first1), .vl (isv second1), .no]) (P := PF) (s_for (c_src (c_pure (v_lst (u := (Sv.mk .own ((eL eI) [first1, second1]))) (v_aE (v_sh rfl) rfl (v_aE (v_sh rfl) rfl v_aN)) (fun _ => rfl)) (c_ok (a := (true, ([first1, second1]).map fun x => (isv x))) k_itL (c_grd0 (s_loop (v := fun (x : Int) => (isv x)) (G := (fun (a : Unit) => [.vl (Sv.mk .bor (e_Coat self1)), .vl (isv first1), .vl (isv second1), .jk])) (by exact ⟨rfl, ⟨rfl, ⟨rfl, ⟨trivial, trivial⟩⟩⟩⟩) (t_nm (i := 3) (v := fun x => (isv x)) (fun _ => rfl) (fun _ => rfl)) (fun gap1 s1 => (s_last (s_if (c_pure (v_not (v_tst (v_chain (q := ((0 : Int) ≤ gap1)) (q' := (gap1 ≤ (self1.2.length : Int))) v_c (v_sh rfl) (v_one (u := (isv (self1.2.length : Int))) (v_one (u := (Sv.mk .bor ((eT eI) self1.2))) (v_bo rfl) fl_1) k_lenT) rfl rfl))) (s_selA (p := (¬ (((0 : Int) ≤ gap1) ∧ (gap1 ≤ (self1.2.length : Int))))) rfl (s_raise (c_pure (v_aS rfl v_aN) (r_raise rfl rfl (x_Coat_same (o := ()) rfl)))) (s_nil (s_end (G := (fun (a : Unit) => [.vl (Sv.mk .bor (e_Coat self1)), .vl (isv first1), .vl (isv second1), .jk])) (by exact ⟨rfl, ⟨rfl, ⟨rfl, ⟨trivial, trivial⟩⟩⟩⟩)))))))) (fun s2 => (s_ret (c_two (c_two (c_pure (v_one (u := (sv (eS self1.1))) (v_bo rfl) fl_0) (c_grd (by first | rfl | (unfold mk; repeat (first | rfl | split))) (c_pure (v_sh rfl) (c_ixS (fun v1 => (c_grd (by first | rfl | (unfold mk; repeat (first | rfl | split))) (c_two (c_pure (v_one (u := (sv (eS self1.1))) (v_bo rfl) fl_0) (c_grd (by first | rfl | (unfold mk; repeat (first | rfl | split))) (c_pure (v_sh rfl) (c_ixS (fun v2 => (c_ok (a := (isb (decide (v1 = v2)))) (k_eq (x := v1) (y := v2) eqt_S) (r_ret (rt_Coat_same (x := (decide (v1 = v2))) (o := ()) rfl rfl rfl))))))))))))))))))))))))) (⟨_, _, rfl, rfl, ⟨_, _, rfl, rfl, ⟨_, _, rfl, rfl, ⟨_, _, rfl, rfl, rfl⟩⟩⟩⟩) fall_no
abbrev su_l_alike : Sur Empty Unit (List Vl) := surF [.bor, .bor, .bor] true (fun _ => []) (eL eV)
theorem x_l_alike {Γ : List Sl} {o : Unit} (h : outsG [.bor, .bor, .bor] 0 Γ = some ((fun _ => []) o)) : ∀ ρ, EnvR Γ ρ → su_l_alike.ex o ρ := xf h
theorem rt_l_alike {Γ : List Sl} {x : (List Vl)} {o : Unit} {s : Sv} (h1 : s.d = (eL eV) x) (h2 : resOk true s = true) (h : outsG [.bor, .bor, .bor] 0 Γ = some ((fun _ => []) o)) : ∀ ρ, EnvR Γ ρ → su_l_alike.rt x o s ρ := rtf h1 h2 h
theorem tr_l_alike (coat1 : C_Coat) (first1 : Int) (second1 : Int) : FOk (fun _ => []) (eL eV) (t_l_alike coat1 first1 second1) (fn_l_alike [e_Coat coat1, eI first1, eI second1]) := by
  unfold t_l_alike
  exact fok_run (pm := [.bor, .bor, .bor]) (rm := true) (eo := (fun _ => [])) (er := (eL eV)) (ν := Empty) (Γ := [.vl (Sv.mk .bor (e_Coat coat1)), .vl (isv first1), .vl (isv second1), .no]) (P := PF) (s_last (s_stop (s_try (g := (fun o => ())) (Gx := (fun (a : Unit) => [.vl (Sv.mk .bor (e_Coat coat1)), .vl (isv first1), .vl (isv second1), .no])) pf_ne (s_ret (c_lst (c_aEx (c_pure (v_str str_11) (c_grd (by first | rfl | (unfold mk; repeat (first | rfl | split))) (c_aEx (c_frz (c_meth (c_pure (v_rSl rfl) (c_cls rfl rfl rfl rfl (c_pure (v_aS rfl (v_aS rfl v_aN)) (c_kcall (tr_Coat_same coat1 first1 second1) rfl rfl rfl (xtry (by exact ⟨rfl, ⟨rfl, ⟨rfl, ⟨trivial, trivial⟩⟩⟩⟩)) (fun x => (isb x)) (fun _ => rfl) (fun v1 => (c_ok (a := (isb v1)) (fun _ => rfl) (c_grd (by first | rfl | (unfold mk; repeat (first | rfl | split))) (c_pure v_aN (c_ok (a := (Sv.mk .own ((eL eV) [(eS ['s', 'a', 'm', 'e']), (eB v1)]))) (fun _ => rfl) (r_ret (rt_l_alike (x := [(eS ['s', 'a', 'm', 'e']), (eB v1)]) (o := ()) rfl rfl rfl))))))))))))))))))) (fun c1 fs1 o1 => (h_as rfl pf_ne hn_F hl_0 (s_ret (c_lst (c_aEx (c_pure (v_str str_12) (c_grd (by first | rfl | (unfold mk; repeat (first | rfl | split))) (c_aEx (c_xfI (fun v2 => (c_grd (by first | rfl | (unfold mk; repeat (first | rfl | split))) (c_pure v_aN (c_ok (a := (Sv.mk .own ((eL eV) [(eS ['n', 'u', 'm', 'b', 'e', 'r']), (eI v2)]))) (fun _ => rfl) (r_ret (rt_l_alike (x := [(eS ['n', 'u', 'm', 'b', 'e', 'r']), (eI v2)]) (o := ()) rfl rfl rfl))))))))))))) (h_end (x_l_alike (o := ()) rfl))))))) (⟨_, _, rfl, rfl, ⟨_, _, rfl, rfl, ⟨_, _, rfl, rfl, ⟨_, _, rfl, rfl, rfl⟩⟩⟩⟩) fall_no
abbrev su_l_alike_due : Sur Empty Unit (List Vl) := surF [.bor, .shr, .shr] true (fun _ => []) (eL eV)
theorem rt_l_alike_due {Γ : List Sl} {x : (List Vl)} {o : Unit} {s : Sv} (h1 : s.d = (eL eV) x) (h2 : resOk true s = true) (h : outsG [.bor, .shr, .shr] 0 Γ = some ((fun _ => []) o)) : ∀ ρ, EnvR Γ ρ → su_l_alike_due.rt x o s ρ := rtf h1 h2 h
theorem tr_l_alike_due (text1 : (List Char)) (first1 : Int) (second1 : Int) : FOk (fun _ => []) (eL eV) (t_l_alike_due text1 first1 second1) (fn_l_alike_due [eS text1, eI first1, eI second1]) := by
  unfold t_l_alike_due
  exact fok_run (pm := [.bor, .shr, .shr]) (rm := true) (eo := (fun _ => [])) (er := (eL eV)) (ν := Empty) (Γ := [.vl (sv (eS text1)), .vl (isv first1), .vl (isv second1), .no]) (P := PF) (s_for (c_src (c_pure (v_lst (u := (Sv.mk .own ((eL eI) [first1, second1]))) (v_aE (v_sh rfl) rfl (v_aE (v_sh rfl) rfl v_aN)) (fun _ => rfl)) (c_ok (a := (true, ([first1, second1]).map fun x => (isv x))) k_itL (c_grd0 (s_loop (v := fun (x : Int) => (isv x)) (G := (fun (a : Unit) => [.vl (sv (eS text1)), .vl (isv first1), .vl (isv second1), .jk])) (by exact ⟨rfl, ⟨rfl, ⟨rfl, ⟨trivial, trivial⟩⟩⟩⟩) (t_nm (i := 3) (v := fun x => (isv x)) (fun _ => rfl) (fun _ => rfl)) (fun gap1 s1 => (s_last (s_if (c_not (c_tst (c_join (v := fun (x : Bool) => isb x) (G := fun _ => [.vl (sv (eS text1)), .vl (isv first1), .vl (isv second1), .vl (isv gap1)]) (c_chain (c_pure v_c (c_int (c_pure (v_sh rfl) (c_int (c_sel (p := ((0 : Int) ≤ gap1)) rfl (c_one (c_pure (v_sh rfl) (c_lenS (fun v1 => (c_int (c_val (v := fun (x : Bool) => isb x) (a := (decide (gap1 < v1))) (by exact ⟨rfl, ⟨rfl, ⟨rfl, ⟨rfl, trivial⟩⟩⟩⟩))))))) (c_val (v := fun (x : Bool) => isb x) (a := false) (by exact ⟨rfl, ⟨rfl, ⟨rfl, ⟨rfl, trivial⟩⟩⟩⟩)))))))) (fun j1 => (c_ok (a := j1) (fun _ => rfl) (s_selA (p := (¬ (j1 = true))) (not_dec (bt _)) (s_ret (c_pure (v_lst (u := (Sv.mk .own ((eL eV) [(eS ['n', 'u', 'm', 'b', 'e', 'r']), (eI gap1)]))) (v_aE (v_str str_12) rfl (v_aE (v_sh rfl) rfl v_aN)) (fun _ => rfl)) (r_ret (rt_l_alike_due (x := [(eS ['n', 'u', 'm', 'b', 'e', 'r']), (eI gap1)]) (o := ()) rfl rfl rfl)))) (s_nil (s_end (G := (fun (a : Unit) => [.vl (sv (eS text1)), .vl (isv first1), .vl (isv second1), .jk])) (by exact ⟨rfl, ⟨rfl, ⟨rfl, ⟨trivial, trivial⟩⟩⟩⟩)))))))))))) (fun s2 => (s_ret (c_lst (c_aEx (c_pure (v_str str_11) (c_grd (by first | rfl | (unfold mk; repeat (first | rfl | split))) (c_aEx (c_two (c_two (c_pure (v_sh rfl) (c_grd (by first | rfl | (unfold mk; repeat (first | rfl | split))) (c_pure (v_sh rfl) (c_ixS (fun v2 => (c_grd (by first | rfl | (unfold mk; repeat (first | rfl | split))) (c_two (c_pure (v_sh rfl) (c_grd (by first | rfl | (unfold mk; repeat (first | rfl | split))) (c_pure (v_sh rfl) (c_ixS (fun v3 => (c_ok (a := (isb (decide (v2 = v3)))) (k_eq (x := v2) (y := v3) eqt_S) (c_grd (by first | rfl | (unfold mk; repeat (first | rfl | split))) (c_pure v_aN (c_ok (a := (Sv.mk .own ((eL eV) [(eS ['s', 'a', 'm', 'e']), (eB (decide (v2 = v3)))]))) (fun _ => rfl) (r_ret (rt_l_alike_due (x := [(eS ['s', 'a', 'm', 'e']), (eB (decide (v2 = v3)))]) (o := ()) rfl rfl rfl))))))))))))))))))))))))))))))))) (⟨_, _, rfl, rfl, ⟨_, _, rfl, rfl, ⟨_, _, rfl, rfl, ⟨_, _, rfl, rfl, rfl⟩⟩⟩⟩) fall_no
abbrev su_l_gaps : Sur Empty Unit Bool := surF [.bor, .bor] true (fun _ => []) eB
theorem x_l_gaps {Γ : List Sl} {o : Unit} (h : outsG [.bor, .bor] 0 Γ = some ((fun _ => []) o)) : ∀ ρ, EnvR Γ ρ → su_l_gaps.ex o ρ := xf h
theorem rt_l_gaps {Γ : List Sl} {x : Bool} {o : Unit} {s : Sv} (h1 : s.d = eB x) (h2 : resOk true s = true) (h : outsG [.bor, .bor] 0 Γ = some ((fun _ => []) o)) : ∀ ρ, EnvR Γ ρ → su_l_gaps.rt x o s ρ := rtf h1 h2 h
theorem tr_l_gaps (coat1 : C_Coat) (text1 : (List Char)) : FOk (fun _ => []) eB (t_l_gaps_v2 coat1 text1) (fn_l_gaps [e_Coat coat1, eS text1]) := by
  unfold t_l_gaps_v2
  exact fok_run (pm := [.bor, .bor]) (rm := true) (eo := (fun _ => [])) (er := eB) (ν := Empty) (Γ := [.vl (Sv.mk .bor (e_Coat coat1)), .vl (sv (eS text1)), .no, .no, .no, .no]) (P := PF) (s_for (c_r2 (c_pure (v_one (u := (isv (-(1 : Int)))) v_c (fun _ => rfl)) (c_int (c_two (c_one (c_pure (v_sh rfl) (c_lenS (fun v1 => (c_grd (by first | rfl | (unfold mk; repeat (first | rfl | split))) (c_pure v_c (c_ok (a := (isv (v1 + (1 : Int)))) (fun _ => rfl) (c_int (c_rng (fun r1 => (c_grd0 (s_loop (v := fun (x : Int) => (isv x)) (G := (fun (a : Unit) => [.vl (Sv.mk .bor (e_Coat coat1)), .vl (sv (eS text1)), .jk, .jk, .jk, .jk])) (by exact ⟨rfl, ⟨rfl, ⟨trivial, ⟨trivial, ⟨trivial, ⟨trivial, trivial⟩⟩⟩⟩⟩⟩) (t_nm (i := 2) (v := fun x => (isv x)) (fun _ => rfl) (fun _ => rfl)) (fun first1 s1 => (s_last (s_for (c_r2 (c_pure (v_one (u := (isv (-(1 : Int)))) v_c (fun _ => rfl)) (c_int (c_two (c_one (c_pure (v_sh rfl) (c_lenS (fun v2 => (c_grd (by first | rfl | (unfold mk; repeat (first | rfl | split))) (c_pure v_c (c_ok (a := (isv (v2 + (1 : Int)))) (fun _ => rfl) (c_int (c_rng (fun r2 => (c_grd0 (s_loop (v := fun (x : Int) => (isv x)) (G := (fun (a : Unit) => [.vl (Sv.mk .bor (e_Coat coat1)), .vl (sv (eS text1)), .vl (isv first1), .jk, .jk, .jk])) (by exact ⟨rfl, ⟨rfl, ⟨rfl, ⟨trivial, ⟨trivial, ⟨trivial, trivial⟩⟩⟩⟩⟩⟩) (t_nm (i := 3) (v := fun x => (isv x)) (fun _ => rfl) (fun _ => rfl)) (fun second1 s2 => (s_asg (c_frz (c_call (c_pure (v_aS rfl (v_aS rfl (v_aS rfl v_aN))) (c_kcall (tr_l_alike coat1 first1 second1) rfl rfl rfl (x_l_gaps (o := ()) rfl) (fun x => (Sv.mk .own ((eL eV) x))) (fun _ => rfl) (fun v3 => (c_ok (a := (Sv.mk .shr ((eL eV) v3))) (fun _ => rfl) (s_st rfl rfl (s_asg (c_frz (c_call (c_pure (v_aS rfl (v_aS rfl (v_aS rfl v_aN))) (c_kcall (tr_l_alike_due text1 first1 second1) rfl rfl rfl (x_l_gaps (o := ()) rfl) (fun x => (Sv.mk .own ((eL eV) x))) (fun _ => rfl) (fun v4 => (c_ok (a := (Sv.mk .shr ((eL eV) v4))) (fun _ => rfl) (s_st rfl rfl (s_last (s_if (c_joinB (v := fun b => b) (G := fun _ => [.vl (Sv.mk .bor (e_Coat coat1)), .vl (sv (eS text1)), .vl (isv first1), .vl (isv second1), .vl (Sv.mk .shr ((eL eV) v3)), .vl (Sv.mk .shr ((eL eV) v4))]) (c_or (c_tst (c_two (c_pure (v_sh rfl) (c_grd (by first | rfl | (unfold mk; repeat (first | rfl | split))) (c_pure (v_sh rfl) (c_neO (fun b1 => (c_ok (a := b1) (fun _ => rfl) (c_sel (p := (b1 = true)) (bt _) (c_valB (v := fun b => b) (a := true) (by exact ⟨rfl, ⟨rfl, ⟨rfl, ⟨rfl, ⟨rfl, ⟨rfl, trivial⟩⟩⟩⟩⟩⟩)) (c_tst (c_two (c_one (c_two (c_pure (v_sh rfl) (c_grd (by first | rfl | (unfold mk; repeat (first | rfl | split))) (c_pure v_c (c_ix (fun x => (Sv.mk .shr (eV x))) (fun _ => mk_shr) (fun v5 => (c_isiO (fun b2 => (c_grd (by first | rfl | (unfold mk; repeat (first | rfl | split))) (c_one (c_two (c_pure (v_sh rfl) (c_grd (by first | rfl | (unfold mk; repeat (first | rfl | split))) (c_pure v_c (c_ix (fun x => (Sv.mk .shr (eV x))) (fun _ => mk_shr) (fun v6 => (c_isiO (fun b3 => (c_ok (a := (isb (decide (b2 ≠ b3)))) (k_ne (x := b2) (y := b3) eqt_B) (c_ok (a := (decide (b2 ≠ b3))) (fun _ => rfl) (c_valB (v := fun b => b) (a := (decide (b2 ≠ b3))) (by exact ⟨rfl, ⟨rfl, ⟨rfl, ⟨rfl, ⟨rfl, ⟨rfl, trivial⟩⟩⟩⟩⟩⟩))))))))))))))))))))))))))))))))))) (fun t1 => (s_selA (p := (t1 = true)) (bt _) (s_ret (c_pure v_c (r_ret (rt_l_gaps (x := false) (o := ()) rfl rfl rfl)))) (s_nil (s_end (G := (fun (a : Unit) => [.vl (Sv.mk .bor (e_Coat coat1)), .vl (sv (eS text1)), .vl (isv first1), .jk, .jk, .jk])) (by exact ⟨rfl, ⟨rfl, ⟨rfl, ⟨trivial, ⟨trivial, ⟨trivial, trivial⟩⟩⟩⟩⟩⟩))))))))))))))))))))))))) (fun s3 => (s_end (G := (fun (a : Unit) => [.vl (Sv.mk .bor (e_Coat coat1)), .vl (sv (eS text1)), .jk, .jk, .jk, .jk])) (by exact ⟨rfl, ⟨rfl, ⟨trivial, ⟨trivial, ⟨trivial, ⟨trivial, trivial⟩⟩⟩⟩⟩⟩)))))))))))))))))))))) (fun s4 => (s_ret (c_pure v_c (r_ret (rt_l_gaps (x := true) (o := ()) rfl rfl rfl)))))))))))))))))))))) (⟨_, _, rfl, rfl, ⟨_, _, rfl, rfl, ⟨_, _, rfl, rfl, ⟨_, _, rfl, rfl, ⟨_, _, rfl, rfl, ⟨_, _, rfl, rfl, rfl⟩⟩⟩⟩⟩⟩) fall_no
abbrev su_check_stretch : Sur Empty Unit Unit := surF [.shr, .shr] true (fun _ => []) eU
theorem x_check_stretch {Γ : List Sl} {o : Unit} (h : outsG [.shr, .shr] 0 Γ = some ((fun _ => []) o)) : ∀ ρ, EnvR Γ ρ → su_check_stretch.ex o ρ := xf h
theorem tr_check_stretch (begin1 : Int) (end1 : Int) : FOk (fun _ => []) eU (t_check_stretch begin1 end1) (fn_check_stretch [eI begin1, eI end1]) := by
  unfold t_check_stretch
  exact fok_run (pm := [.shr, .shr]) (rm := true) (eo := (fun _ => [])) (er := eU) (ν := Unit) (Γ := [.vl (isv begin1), .vl (isv end1)]) (P := (PN (fun (a : Unit) => [.jk, .jk]))) (s_last (s_if (c_pure (v_tst (v_two (u := (isb (decide (end1 < begin1)))) (v_sh rfl) (v_sh rfl) rfl (fun _ => rfl))) (s_selA (p := (end1 < begin1)) rfl (s_raise (c_pure (v_aS rfl (v_aS rfl v_aN)) (r_raise rfl rfl (x_check_stretch (o := ()) rfl)))) (s_nil (s_end (G := (fun (a : Unit) => [.jk, .jk])) (by exact ⟨trivial, ⟨trivial, trivial⟩⟩))))))) (⟨_, _, rfl, rfl, ⟨_, _, rfl, rfl, rfl⟩⟩) (fall_end (fun _ => rfl))
abbrev su_Coat_count : Sur Empty Unit Int := surF [.bor, .shr, .shr] false (fun _ => []) eI
theorem x_Coat_count {Γ : List Sl} {o : Unit} (h : outsG [.bor, .shr, .shr] 0 Γ = some ((fun _ => []) o)) : ∀ ρ, EnvR Γ ρ → su_Coat_count.ex o ρ := xf h
theorem rt_Coat_count {Γ : List Sl} {x : Int} {o : Unit} {s : Sv} (h1 : s.d = eI x) (h2 : resOk false s = true) (h : outsG [.bor, .shr, .shr] 0 Γ = some ((fun _ => []) o)) : ∀ ρ, EnvR Γ ρ → su_Coat_count.rt x o s ρ := rtf h1 h2 h
theorem tr_Coat_count (self1 : C_Coat) (begin1 : Int) (end1 : Int) : FOk (fun _ => []) eI (t_Coat_count self1 begin1 end1) (fn_Coat_count [e_Coat self1, eI begin1, eI end1]) := by
  unfold t_Coat_count
  exact fok_run (pm := [.bor, .shr, .shr]) (rm := false) (eo := (fun _ => [])) (er := eI) (ν := Empty) (Γ := [.vl (Sv.mk .bor (e_Coat self1)), .vl (isv begin1), .vl (isv end1)]) (P := PF) (s_expr (c_call (c_pure (v_aS rfl (v_aS rfl v_aN)) (c_kcall (tr_check_stretch begin1 end1) rfl rfl rfl (x_Coat_count (o := ()) rfl) (fun x => (sv (eU x))) (fun _ => rfl) (fun v1 => (s_if (c_pure (v_or (v_tst (v_two (u := (isb (decide (begin1 < (0 : Int))))) (v_sh rfl) v_c rfl (fun _ => rfl))) (v_tst (v_two (u := (isb (decide ((self1.2.length : Int) < end1)))) (v_sh rfl) (v_one (u := (isv (self1.2.length : Int))) (v_one (u := (Sv.mk .bor ((eT eI) self1.2))) (v_bo rfl) fl_1) k_lenT) rfl (fun _ => rfl)))) (s_selA (p := ((begin1 < (0 : Int)) ∨ ((self1.2.length : Int) < end1))) rfl (s_raise (c_pure (v_aS rfl (v_aS rfl v_aN)) (r_raise rfl rfl (x_Coat_count (o := ()) rfl)))) (s_nil (s_ret (c_frz (c_call (c_pure (v_aE (v_one (u := (Sv.mk .bor ((eT eI) self1.2))) (v_bo rfl) fl_1) rfl (v_aS rfl (v_aS rfl v_aN))) (c_kcall (tr_count_in self1.2 begin1 end1) rfl rfl rfl (x_Coat_count (o := ()) rfl) (fun x => (isv x)) (fun _ => rfl) (fun v2 => (c_ok (a := (isv v2)) (fun _ => rfl) (r_ret (rt_Coat_count (x := v2) (o := ()) rfl rfl rfl)))))))))))))))))) (⟨_, _, rfl, rfl, ⟨_, _, rfl, rfl, ⟨_, _, rfl, rfl, rfl⟩⟩⟩) fall_no
abbrev su_l_counted : Sur Empty Unit (List Vl) := surF [.bor, .bor, .bor] true (fun _ => []) (eL eV)
theorem x_l_counted {Γ : List Sl} {o : Unit} (h : outsG [.bor, .bor, .bor] 0 Γ = some ((fun _ => []) o)) : ∀ ρ, EnvR Γ ρ → su_l_counted.ex o ρ := xf h
theorem rt_l_counted {Γ : List Sl} {x : (List Vl)} {o : Unit} {s : Sv} (h1 : s.d = (eL eV) x) (h2 : resOk true s = true) (h : outsG [.bor, .bor, .bor] 0 Γ = some ((fun _ => []) o)) : ∀ ρ, EnvR Γ ρ → su_l_counted.rt x o s ρ := rtf h1 h2 h
theorem tr_l_counted (coat1 : C_Coat) (begin_here1 : Int) (end1 : Int) : FOk (fun _ => []) (eL eV) (t_l_counted_v2 coat1 begin_here1 end1) (fn_l_counted [e_Coat coat1, eI begin_here1, eI end1]) := by
  unfold t_l_counted_v2
  exact fok_run (pm := [.bor, .bor, .bor]) (rm := true) (eo := (fun _ => [])) (er := (eL eV)) (ν := Empty) (Γ := [.vl (Sv.mk .bor (e_Coat coat1)), .vl (isv begin_here1), .vl (isv end1), .no]) (P := PF) (s_last (s_stop (s_try (g := (fun o => ())) (Gx := (fun (a : Unit) => [.vl (Sv.mk .bor (e_Coat coat1)), .vl (isv begin_here1), .vl (isv end1), .no])) pf_ne (s_ret (c_lst (c_aEx (c_pure (v_str str_13) (c_grd (by first | rfl | (unfold mk; repeat (first | rfl | split))) (c_aEx (c_frz (c_meth (c_pure (v_rSl rfl) (c_cls rfl rfl rfl rfl (c_pure (v_aS rfl (v_aS rfl v_aN)) (c_kcall (tr_Coat_count coat1 begin_here1 end1) rfl rfl rfl (xtry (by exact ⟨rfl, ⟨rfl, ⟨rfl, ⟨trivial, trivial⟩⟩⟩⟩)) (fun x => (isv x)) (fun _ => rfl) (fun v1 => (c_ok (a := (isv v1)) (fun _ => rfl) (c_grd (by first | rfl | (unfold mk; repeat (first | rfl | split))) (c_pure v_aN (c_ok (a := (Sv.mk .own ((eL eV) [(eS ['c', 'o', 'u', 'n', 't']), (eI v1)]))) (fun _ => rfl) (r_ret (rt_l_counted (x := [(eS ['c', 'o', 'u', 'n', 't']), (eI v1)]) (o := ()) rfl rfl rfl))))))))))))))))))) (fun c1 fs1 o1 => (h_as rfl pf_ne hn_F hl_0 (s_ret (c_two (c_lst (c_aEx (c_pure (v_str str_14) (c_grd (by first | rfl | (unfold mk; repeat (first | rfl | split))) (c_aEx (c_xfI (fun v2 => (c_grd (by first | rfl | (unfold mk; repeat (first | rfl | split))) (c_aEx (c_xfI (fun v3 => (c_grd (by first | rfl | (unfold mk; repeat (first | rfl | split))) (c_pure v_aN (c_ok (a := (Sv.mk .own ((eL eV) [(eS ['s', 't', 'r', 'e', 't', 'c', 'h']), (eI v2), (eI v3)]))) (fun _ => rfl) (c_grd (by first | rfl | (unfold mk; repeat (first | rfl | split))) (c_two (c_pure (v_lst (u := (Sv.mk .own ((eL eS) [['o', 'd', 'd']]))) (v_aE (v_str str_9) rfl v_aN) (fun _ => rfl)) (c_grd (by first | rfl | (unfold mk; repeat (first | rfl | split))) (c_pure (v_one (u := (isv (if (List.contains ([] : List Str) c1) then 1 else 0))) (v_isx) (fun _ => rfl)) (c_rep rfl (fun v4 => (c_catV rfl rfl (fun v5 => (r_ret (rt_l_counted (x := v5) (o := ()) rfl rfl rfl))))))))))))))))))))))))))) (h_as rfl pf_ne hn_F hl_0 (s_ret (c_two (c_lst (c_aEx (c_pure (v_str str_15) (c_grd (by first | rfl | (unfold mk; repeat (first | rfl | split))) (c_aEx (c_xfI (fun v6 => (c_grd (by first | rfl | (unfold mk; repeat (first | rfl | split))) (c_aEx (c_xfI (fun v7 => (c_grd (by first | rfl | (unfold mk; repeat (first | rfl | split))) (c_pure v_aN (c_ok (a := (Sv.mk .own ((eL eV) [(eS ['w', 'i', 'n', 'd', 'o', 'w']), (eI v6), (eI v7)]))) (fun _ => rfl) (c_grd (by first | rfl | (unfold mk; repeat (first | rfl | split))) (c_two (c_pure (v_lst (u := (Sv.mk .own ((eL eS) [['o', 'd', 'd']]))) (v_aE (v_str str_9) rfl v_aN) (fun _ => rfl)) (c_grd (by first | rfl | (unfold mk; repeat (first | rfl | split))) (c_pure (v_one (u := (isv (if (List.contains ([] : List Str) c1) then 1 else 0))) (v_isx) (fun _ => rfl)) (c_rep rfl (fun v8 => (c_catV rfl rfl (fun v9 => (r_ret (rt_l_counted (x := v9) (o := ()) rfl rfl rfl))))))))))))))))))))))))))) (h_end (x_l_counted (o := ()) rfl)))))))) (⟨_, _, rfl, rfl, ⟨_, _, rfl, rfl, ⟨_, _, rfl, rfl, ⟨_, _, rfl, rfl, rfl⟩⟩⟩⟩) fall_no
abbrev su_l_count_due : Sur Empty Unit (List Vl) := surF [.bor, .shr, .shr] true (fun _ => []) (eL eV)
theorem rt_l_count_due {Γ : List Sl} {x : (List Vl)} {o : Unit} {s : Sv} (h1 : s.d = (eL eV) x) (h2 : resOk true s = true) (h : outsG [.bor, .shr, .shr] 0 Γ = some ((fun _ => []) o)) : ∀ ρ, EnvR Γ ρ → su_l_count_due.rt x o s ρ := rtf h1 h2 h
theorem tr_l_count_due (text1 : (List Char)) (begin_here1 : Int) (end1 : Int) : FOk (fun _ => []) (eL eV) (t_l_count_due text1 begin_here1 end1) (fn_l_count_due [eS text1, eI begin_here1, eI end1]) := by
  unfold t_l_count_due
  exact fok_run (pm := [.bor, .shr, .shr]) (rm := true) (eo := (fun _ => [])) (er := (eL eV)) (ν := Empty) (Γ := [.vl (sv (eS text1)), .vl (isv begin_here1), .vl (isv end1)]) (P := PF) (s_if (c_pure (v_tst (v_two (u := (isb (decide (end1 < begin_here1)))) (v_sh rfl) (v_sh rfl) rfl (fun _ => rfl))) (s_selA (p := (end1 < begin_here1)) rfl (s_ret (c_pure (v_lst (u := (Sv.mk .own ((eL eV) [(eS ['s', 't', 'r', 'e', 't', 'c', 'h']), (eI begin_here1), (eI end1)]))) (v_aE (v_str str_14) rfl (v_aE (v_sh rfl) rfl (v_aE (v_sh rfl) rfl v_aN))) (fun _ => rfl)) (r_ret (rt_l_count_due (x := [(eS ['s', 't', 'r', 'e', 't', 'c', 'h']), (eI begin_here1), (eI end1)]) (o := ()) rfl rfl rfl)))) (s_nil (s_if (c_joinB (v := fun b => b) (G := fun _ => [.vl (sv (eS text1)), .vl (isv begin_here1), .vl (isv end1)]) (c_or (c_pure (v_tst (v_two (u := (isb (decide (begin_here1 < (0 : Int))))) (v_sh rfl) v_c rfl (fun _ => rfl))) (c_sel (p := (begin_here1 < (0 : Int))) rfl (c_valB (v := fun b => b) (a := true) (by exact ⟨rfl, ⟨rfl, ⟨rfl, trivial⟩⟩⟩)) (c_tst (c_two (c_pure (v_sh rfl) (c_grd (by first | rfl | (unfold mk; repeat (first | rfl | split))) (c_one (c_pure (v_sh rfl) (c_lenS (fun v1 => (c_ok (a := (isb (decide (v1 ≤ end1)))) (fun _ => rfl) (c_ok (a := (decide (v1 ≤ end1))) (fun _ => rfl) (c_valB (v := fun b => b) (a := (decide (v1 ≤ end1))) (by exact ⟨rfl, ⟨rfl, ⟨rfl, trivial⟩⟩⟩))))))))))))))) (fun t1 => (s_selA (p := (t1 = true)) (bt _) (s_ret (c_pure (v_lst (u := (Sv.mk .own ((eL eV) [(eS ['w', 'i', 'n', 'd', 'o', 'w']), (eI begin_here1), (eI end1)]))) (v_aE (v_str str_15) rfl (v_aE (v_sh rfl) rfl (v_aE (v_sh rfl) rfl v_aN))) (fun _ => rfl)) (r_ret (rt_l_count_due (x := [(eS ['w', 'i', 'n', 'd', 'o', 'w']), (eI begin_here1), (eI end1)]) (o := ()) rfl rfl rfl)))) (s_nil (s_ret (c_lst (c_aEx (c_pure (v_str str_13) (c_grd (by first | rfl | (unfold mk; repeat (first | rfl | split))) (c_aEx (c_frz (c_two (c_one (c_sl (c_pure (v_sh rfl) (c_grd (by first | rfl | (unfold mk; repeat (first | rfl | split))) (c_part (c_pure (v_sh rfl) (c_int (c_part (c_pure (v_two (u := (isv (end1 + (1 : Int)))) (v_sh rfl) v_c rfl (fun _ => rfl)) (c_int (c_slS (fun v2 => (c_lenSet (fun v3 => (c_grd (by first | rfl | (unfold mk; repeat (first | rfl | split))) (c_pure v_c (c_ok (a := (isv (v3 - (1 : Int)))) (fun _ => rfl) (c_ok (a := (isv (v3 - (1 : Int)))) (fun _ => rfl) (c_grd (by first | rfl | (unfold mk; repeat (first | rfl | split))) (c_pure v_aN (c_ok (a := (Sv.mk .own ((eL eV) [(eS ['c', 'o', 'u', 'n', 't']), (eI (v3 - (1 : Int)))]))) (fun _ => rfl) (r_ret (rt_l_count_due (x := [(eS ['c', 'o', 'u', 'n', 't']), (eI (v3 - (1 : Int)))]) (o := ()) rfl rfl rfl)))))))))))))))))))))))))))))))))))))))) (⟨_, _, rfl, rfl, ⟨_, _, rfl, rfl, ⟨_, _, rfl, rfl, rfl⟩⟩⟩) fall_no
abbrev su_l_stretches : Sur Empty Unit Bool := surF [.bor, .bor, .shr] true (fun _ => []) eB
theorem x_l_stretches {Γ : List Sl} {o : Unit} (h : outsG [.bor, .bor, .shr] 0 Γ = some ((fun _ => []) o)) : ∀ ρ, EnvR Γ ρ → su_l_stretches.ex o ρ := xf h
theorem rt_l_stretches {Γ : List Sl} {x : Bool} {o : Unit} {s : Sv} (h1 : s.d = eB x) (h2 : resOk true s = true) (h : outsG [.bor, .bor, .shr] 0 Γ = some ((fun _ => []) o)) : ∀ ρ, EnvR Γ ρ → su_l_stretches.rt x o s ρ := rtf h1 h2 h
theorem tr_l_stretches (coat1 : C_Coat) (text1 : (List Char)) (far1 : (List Int)) : FOk (fun _ => []) eB (t_l_stretches coat1 text1 far1) (fn_l_stretches [e_Coat coat1, eS text1, (eL eI) far1]) := by
  unfold t_l_stretches
  exact fok_run (pm := [.bor, .bor, .shr]) (rm := true) (eo := (fun _ => [])) (er := eB) (ν := Empty) (Γ := [.vl (Sv.mk .bor (e_Coat coat1)), .vl (sv (eS text1)), .vl (Sv.mk .shr ((eL eI) far1)), .no, .no, .no, .no, .no]) (P := PF) (s_asg (c_lst (c_aEx (c_pure (v_sh rfl) (c_grd (by first | rfl | (unfold mk; repeat (first | rfl | split))) (c_aEx (c_frz (c_lst (c_aEx (c_two (c_pure (v_sh rfl) (c_grd (by first | rfl | (unfold mk; repeat (first | rfl | split))) (c_pure v_c (c_ix (fun x => (isv x)) (fun _ => rfl) (fun v1 => (c_grd (by first | rfl | (unfold mk; repeat (first | rfl | split))) (c_aEx (c_two (c_pure (v_sh rfl) (c_grd (by first | rfl | (unfold mk; repeat (first | rfl | split))) (c_pure v_c (c_ix (fun x => (isv x)) (fun _ => rfl) (fun v2 => (c_grd (by first | rfl | (unfold mk; repeat (first | rfl | split))) (c_pure v_aN (c_ok (a := (Sv.mk .own ((eL eI) [v1, v2]))) (fun _ => rfl) (c_ok (a := (Sv.mk .shr ((eL eI) [v1, v2]))) (fun _ => rfl) (c_grd (by first | rfl | (unfold mk; repeat (first | rfl | split))) (c_pure v_aN (c_ok (a := (Sv.mk .own ((eL (eL eI)) [far1, [v1, v2]]))) (fun _ => rfl) (s_let (v := fun (x : (List (List Int))) => (Sv.mk .own ((eL (eL eI)) x))) (x := [far1, [v1, v2]]) rfl (fun _ => rfl) (fun stretches_here1 => (s_for (c_r2 (c_pure (v_one (u := (isv (-(2 : Int)))) v_c (fun _ => rfl)) (c_int (c_two (c_one (c_pure (v_sh rfl) (c_lenS (fun v3 => (c_grd (by first | rfl | (unfold mk; repeat (first | rfl | split))) (c_pure v_c (c_ok (a := (isv (v3 + (2 : Int)))) (fun _ => rfl) (c_int (c_rng (fun r1 => (c_grd0 (s_loop (v := fun (x : Int) => (isv x)) (G := (fun (a : (List (List Int))) => [.vl (Sv.mk .bor (e_Coat coat1)), .vl (sv (eS text1)), .vl (Sv.mk .shr ((eL eI) far1)), .vl (Sv.mk .own ((eL (eL eI)) a)), .jk, .jk, .no, .no])) (by exact ⟨rfl, ⟨rfl, ⟨rfl, ⟨rfl, ⟨trivial, ⟨trivial, ⟨trivial, ⟨trivial, trivial⟩⟩⟩⟩⟩⟩⟩⟩) (t_nm (i := 4) (v := fun x => (isv x)) (fun _ => rfl) (fun _ => rfl)) (fun begin_here1 s1 => (s_last (s_for (c_r2 (c_pure (v_one (u := (isv (-(2 : Int)))) v_c (fun _ => rfl)) (c_int (c_two (c_one (c_pure (v_sh rfl) (c_lenS (fun v4 => (c_grd (by first | rfl | (unfold mk; repeat (first | rfl | split))) (c_pure v_c (c_ok (a := (isv (v4 + (2 : Int)))) (fun _ => rfl) (c_int (c_rng (fun r2 => (c_grd0 (s_loop (v := fun (x : Int) => (isv x)) (G := (fun (a : (List (List Int))) => [.vl (Sv.mk .bor (e_Coat coat1)), .vl (sv (eS text1)), .vl (Sv.mk .shr ((eL eI) far1)), .vl (Sv.mk .own ((eL (eL eI)) a)), .vl (isv begin_here1), .jk, .no, .no])) (by exact ⟨rfl, ⟨rfl, ⟨rfl, ⟨rfl, ⟨rfl, ⟨trivial, ⟨trivial, ⟨trivial, trivial⟩⟩⟩⟩⟩⟩⟩⟩) (t_nm (i := 5) (v := fun x => (isv x)) (fun _ => rfl) (fun _ => rfl)) (fun end1 s2 => (s_last (s_expr (c_app rfl (c_pure (v_frz (v_lst (u := (Sv.mk .own ((eL eI) [begin_here1, end1]))) (v_aE (v_sh rfl) rfl (v_aE (v_sh rfl) rfl v_aN)) (fun _ => rfl)) (fun _ => rfl)) (c_grd rfl (c_push (e := (eL eI)) (x := [begin_here1, end1]) rfl rfl (fun stretches_here2 => (s_end (G := (fun (a : (List (List Int))) => [.vl (Sv.mk .bor (e_Coat coat1)), .vl (sv (eS text1)), .vl (Sv.mk .shr ((eL eI) far1)), .vl (Sv.mk .own ((eL (eL eI)) a)), .vl (isv begin_here1), .jk, .no, .no])) (by exact ⟨rfl, ⟨rfl, ⟨rfl, ⟨rfl, ⟨rfl, ⟨trivial, ⟨trivial, ⟨trivial, trivial⟩⟩⟩⟩⟩⟩⟩⟩)))))))))) (fun s3 => (s_end (G := (fun (a : (List (List Int))) => [.vl (Sv.mk .bor (e_Coat coat1)), .vl (sv (eS text1)), .vl (Sv.mk .shr ((eL eI) far1)), .vl (Sv.mk .own ((eL (eL eI)) a)), .jk, .jk, .no, .no])) (by exact ⟨rfl, ⟨rfl, ⟨rfl, ⟨rfl, ⟨trivial, ⟨trivial, ⟨trivial, ⟨trivial, trivial⟩⟩⟩⟩⟩⟩⟩⟩)))))))))))))))))))))) (fun s4 => (s_fz rfl (s_for (c_src (c_pure (v_sh rfl) (c_ok (a := (true, (s4).map fun x => (Sv.mk .shr ((eL eI) x)))) k_itL (c_grd0 (s_loop (v := fun (x : (List Int)) => (Sv.mk .shr ((eL eI) x))) (G := (fun (a : Unit) => [.vl (Sv.mk .bor (e_Coat coat1)), .vl (sv (eS text1)), .vl (Sv.mk .shr ((eL eI) far1)), .vl (Sv.mk .shr ((eL (eL eI)) s4)), .jk, .jk, .jk, .jk])) (by exact ⟨rfl, ⟨rfl, ⟨rfl, ⟨rfl, ⟨trivial, ⟨trivial, ⟨trivial, ⟨trivial, trivial⟩⟩⟩⟩⟩⟩⟩⟩) (t_nm (i := 6) (v := fun x => (Sv.mk .shr ((eL eI) x))) (fun _ => rfl) (fun _ => rfl)) (fun stretch1 s5 => (s_asg (c_frz (c_call (c_aSl rfl (c_aEx (c_two (c_pure (v_sh rfl) (c_grd (by first | rfl | (unfold mk; repeat (first | rfl | split))) (c_pure v_c (c_ix (fun x => (isv x)) (fun _ => rfl) (fun v5 => (c_grd (by first | rfl | (unfold mk; repeat (first | rfl | split))) (c_aEx (c_two (c_pure (v_sh rfl) (c_grd (by first | rfl | (unfold mk; repeat (first | rfl | split))) (c_pure v_c (c_ix (fun x => (isv x)) (fun _ => rfl) (fun v6 => (c_grd (by first | rfl | (unfold mk; repeat (first | rfl | split))) (c_pure v_aN (c_kcall (tr_l_counted coat1 v5 v6) rfl rfl rfl (x_l_stretches (o := ()) rfl) (fun x => (Sv.mk .own ((eL eV) x))) (fun _ => rfl) (fun v7 => (c_ok (a := (Sv.mk .shr ((eL eV) v7))) (fun _ => rfl) (s_st rfl rfl (s_last (s_if (c_joinB (v := fun b => b) (G := fun _ => [.vl (Sv.mk .bor (e_Coat coat1)), .vl (sv (eS text1)), .vl (Sv.mk .shr ((eL eI) far1)), .vl (Sv.mk .shr ((eL (eL eI)) s4)), .jk, .jk, .vl (Sv.mk .shr ((eL eI) stretch1)), .vl (Sv.mk .shr ((eL eV) v7))]) (c_or (c_tst (c_two (c_pure (v_sh rfl) (c_grd (by first | rfl | (unfold mk; repeat (first | rfl | split))) (c_call (c_aSl rfl (c_aEx (c_two (c_pure (v_sh rfl) (c_grd (by first | rfl | (unfold mk; repeat (first | rfl | split))) (c_pure v_c (c_ix (fun x => (isv x)) (fun _ => rfl) (fun v8 => (c_grd (by first | rfl | (unfold mk; repeat (first | rfl | split))) (c_aEx (c_two (c_pure (v_sh rfl) (c_grd (by first | rfl | (unfold mk; repeat (first | rfl | split))) (c_pure v_c (c_ix (fun x => (isv x)) (fun _ => rfl) (fun v9 => (c_grd (by first | rfl | (unfold mk; repeat (first | rfl | split))) (c_pure v_aN (c_kcall (tr_l_count_due text1 v8 v9) rfl rfl rfl (x_l_stretches (o := ()) rfl) (fun x => (Sv.mk .own ((eL eV) x))) (fun _ => rfl) (fun v10 => (c_neO (fun b1 => (c_ok (a := b1) (fun _ => rfl) (c_sel (p := (b1 = true)) (bt _) (c_valB (v := fun b => b) (a := true) (by exact ⟨rfl, ⟨rfl, ⟨rfl, ⟨rfl, ⟨trivial, ⟨trivial, ⟨rfl, ⟨rfl, trivial⟩⟩⟩⟩⟩⟩⟩⟩)) (c_not (c_tru (c_call (c_pure (v_aS rfl v_aN) (c_kcall (tr_l_numbers v7) rfl rfl rfl (x_l_stretches (o := ()) rfl) (fun x => (isb x)) (fun _ => rfl) (fun v11 => (c_ktru (b := v11) rfl (c_valB (v := fun b => b) (a := (!v11)) (by exact ⟨rfl, ⟨rfl, ⟨rfl, ⟨rfl, ⟨trivial, ⟨trivial, ⟨rfl, ⟨rfl, trivial⟩⟩⟩⟩⟩⟩⟩⟩))))))))))))))))))))))))))))))))))))))) (fun t1 => (s_selA (p := (t1 = true)) (bt _) (s_ret (c_pure v_c (r_ret (rt_l_stretches (x := false) (o := ()) rfl rfl rfl)))) (s_nil (s_end (G := (fun (a : Unit) => [.vl (Sv.mk .bor (e_Coat coat1)), .vl (sv (eS text1)), .vl (Sv.mk .shr ((eL eI) far1)), .vl (Sv.mk .shr ((eL (eL eI)) s4)), .jk, .jk, .jk, .jk])) (by exact ⟨rfl, ⟨rfl, ⟨rfl, ⟨rfl, ⟨trivial, ⟨trivial, ⟨trivial, ⟨trivial, trivial⟩⟩⟩⟩⟩⟩⟩⟩)))))))))))))))))))))))))))))))))) (fun s6 => (s_ret (c_pure v_c (r_ret (rt_l_stretches (x := true) (o := ()) rfl rfl rfl)))))))))))))))))))))))))))))))))))))))))))))))))))))))))))))) (⟨_, _, rfl, rfl, ⟨_, _, rfl, rfl, ⟨_, _, rfl, rfl, ⟨_, _, rfl, rfl, ⟨_, _, rfl, rfl, ⟨_, _, rfl, rfl, ⟨_, _, rfl, rfl, ⟨_, _, rfl, rfl, rfl⟩⟩⟩⟩⟩⟩⟩⟩) fall_no
abbrev su_Coat___eq__ : Sur Empty Unit Bool := surF [.bor, .bor] true (fun _ => []) eB
theorem rt_Coat___eq__ {Γ : List Sl} {x : Bool} {o : Unit} {s : Sv} (h1 : s.d = eB x) (h2 : resOk true s = true) (h : outsG [.bor, .bor] 0 Γ = some ((fun _ => []) o)) : ∀ ρ, EnvR Γ ρ → su_Coat___eq__.rt x o s ρ := rtf h1 h2 h
theorem tr_Coat___eq__ (self1 : C_Coat) (other1 : C_Coat) : FOk (fun _ => []) eB (t_Coat___eq__ self1 other1) (fn_Coat___eq__ [e_Coat self1, e_Coat other1]) := by
  unfold t_Coat___eq__
  exact fok_run (pm := [.bor, .bor]) (rm := true) (eo := (fun _ => [])) (er := eB) (ν := Empty) (Γ := [.vl (Sv.mk .bor (e_Coat self1)), .vl (Sv.mk .bor (e_Coat other1))]) (P := PF) (s_ret (c_pure (v_andV (v_bpV (v_one (u := (isb true)) (v_bo rfl) (fun _ => rfl))) (v_two (u := (isb (decide (self1.1 = other1.1)))) (v_one (u := (sv (eS self1.1))) (v_bo rfl) fl_0) (v_one (u := (sv (eS other1.1))) (v_bo rfl) fl_0) rfl (k_eq (x := self1.1) (y := other1.1) eqt_S))) (r_ret (rt_Coat___eq__ (x := (decide ((true = true) ∧ (self1.1 = other1.1)))) (o := ()) rfl rfl rfl)))) (⟨_, _, rfl, rfl, ⟨_, _, rfl, rfl, rfl⟩⟩) fall_no
abbrev su_l_equal : Sur Empty Unit Bool := surF [.bor, .bor, .bor] true (fun _ => []) eB
theorem x_l_equal {Γ : List Sl} {o : Unit} (h : outsG [.bor, .bor, .bor] 0 Γ = some ((fun _ => []) o)) : ∀ ρ, EnvR Γ ρ → su_l_equal.ex o ρ := xf h
theorem rt_l_equal {Γ : List Sl} {x : Bool} {o : Unit} {s : Sv} (h1 : s.d = eB x) (h2 : resOk true s = true) (h : outsG [.bor, .bor, .bor] 0 Γ = some ((fun _ => []) o)) : ∀ ρ, EnvR Γ ρ → su_l_equal.rt x o s ρ := rtf h1 h2 h
theorem tr_l_equal (first1 : C_Coat) (second1 : C_Coat) (due_here1 : Bool) : FOk (fun _ => []) eB (t_l_equal first1 second1 due_here1) (fn_l_equal [e_Coat first1, e_Coat second1, eB due_here1]) := by
  unfold t_l_equal
  exact fok_run (pm := [.bor, .bor, .bor]) (rm := true) (eo := (fun _ => [])) (er := eB) (ν := Empty) (Γ := [.vl (Sv.mk .bor (e_Coat first1)), .vl (Sv.mk .bor (e_Coat second1)), .vl (isb due_here1), .no]) (P := PF) (s_asg (c_chT (ch_cls rfl) (c_op2 (c_pure (v_rSl rfl) (c_grd (by first | rfl | (unfold mk; repeat (first | rfl | split))) (c_pure (v_rSl rfl) (c_cls rfl rfl rfl rfl (c_cls rfl rfl rfl rfl (c_kcall (tr_Coat___eq__ first1 second1) rfl rfl rfl (x_l_equal (o := ()) rfl) (fun x => (isb x)) (fun _ => rfl) (fun v1 => (s_st rfl rfl (s_ret (c_pure (v_andV (v_bpV (v_one (u := (isb true)) (v_sh rfl) (fun _ => rfl))) (v_two (u := (isb (decide (v1 = due_here1)))) (v_sh rfl) (v_sh rfl) rfl (k_eq (x := v1) (y := due_here1) eqt_B))) (r_ret (rt_l_equal (x := (decide ((true = true) ∧ (v1 = due_here1)))) (o := ()) rfl rfl rfl))))))))))))))) (⟨_, _, rfl, rfl, ⟨_, _, rfl, rfl, ⟨_, _, rfl, rfl, ⟨_, _, rfl, rfl, rfl⟩⟩⟩⟩) fall_no
abbrev su_Coat___eq___i2 : Sur Empty Unit Bool := surF [.bor, .bor] true (fun _ => []) eB
theorem rt_Coat___eq___i2 {Γ : List Sl} {x : Bool} {o : Unit} {s : Sv} (h1 : s.d = eB x) (h2 : resOk true s = true) (h : outsG [.bor, .bor] 0 Γ = some ((fun _ => []) o)) : ∀ ρ, EnvR Γ ρ → su_Coat___eq___i2.rt x o s ρ := rtf h1 h2 h
theorem tr_Coat___eq___i2 (self1 : C_Coat) (other1 : (List Char)) : FOk (fun _ => []) eB (t_Coat___eq___v2 self1 other1) (fn_Coat___eq__ [e_Coat self1, eS other1]) := by
  unfold t_Coat___eq___v2
  exact fok_run (pm := [.bor, .bor]) (rm := true) (eo := (fun _ => [])) (er := eB) (ν := Empty) (Γ := [.vl (Sv.mk .bor (e_Coat self1)), .vl (sv (eS other1))]) (P := PF) (s_ret (c_pure (v_andVF (v_one (u := (isb false)) (v_sh rfl) (fun _ => rfl))) (r_ret (rt_Coat___eq___i2 (x := false) (o := ()) rfl rfl rfl)))) (⟨_, _, rfl, rfl, ⟨_, _, rfl, rfl, rfl⟩⟩) fall_no
abbrev su_l_equal_i2 : Sur Empty Unit Bool := surF [.bor, .bor, .bor] true (fun _ => []) eB
theorem x_l_equal_i2 {Γ : List Sl} {o : Unit} (h : outsG [.bor, .bor, .bor] 0 Γ = some ((fun _ => []) o)) : ∀ ρ, EnvR Γ ρ → su_l_equal_i2.ex o ρ := xf h
theorem rt_l_equal_i2 {Γ : List Sl} {x : Bool} {o : Unit} {s : Sv} (h1 : s.d = eB x) (h2 : resOk true s = true) (h : outsG [.bor, .bor, .bor] 0 Γ = some ((fun _ => []) o)) : ∀ ρ, EnvR Γ ρ → su_l_equal_i2.rt x o s ρ := rtf h1 h2 h
theorem tr_l_equal_i2 (first1 : C_Coat) (second1 : (List Char)) (due_here1 : Bool) : FOk (fun _ => []) eB (t_l_equal_v2 first1 second1 due_here1) (fn_l_equal [e_Coat first1, eS second1, eB due_here1]) := by
  unfold t_l_equal_v2
  exact fok_run (pm := [.bor, .bor, .bor]) (rm := true) (eo := (fun _ => [])) (er := eB) (ν := Empty) (Γ := [.vl (Sv.mk .bor (e_Coat first1)), .vl (sv (eS second1)), .vl (isb due_here1), .no]) (P := PF) (s_asg (c_chF (ch_clsS rfl) (c_op2S (c_pure (v_rSl rfl) (c_grd (by first | rfl | (unfold mk; repeat (first | rfl | split))) (c_pure (v_rSl rfl) (c_cls rfl rfl rfl rfl (c_str2 rfl rfl (c_kcall (tr_Coat___eq___i2 first1 second1) rfl rfl rfl (x_l_equal_i2 (o := ()) rfl) (fun x => (isb x)) (fun _ => rfl) (fun v1 => (s_st rfl rfl (s_ret (c_pure (v_andV (v_bpV (v_one (u := (isb true)) (v_sh rfl) (fun _ => rfl))) (v_two (u := (isb (decide (v1 = due_here1)))) (v_sh rfl) (v_sh rfl) rfl (k_eq (x := v1) (y := due_here1) eqt_B))) (r_ret (rt_l_equal_i2 (x := (decide ((true = true) ∧ (v1 = due_here1)))) (o := ()) rfl rfl rfl))))))))))))))) (⟨_, _, rfl, rfl, ⟨_, _, rfl, rfl, ⟨_, _, rfl, rfl, ⟨_, _, rfl, rfl, rfl⟩⟩⟩⟩) fall_no
abbrev su_l_asked : Sur Empty Unit Bool := surF [.bor, .bor, .bor, .shr] true (fun _ => []) eB
theorem x_l_asked {Γ : List Sl} {o : Unit} (h : outsG [.bor, .bor, .bor, .shr] 0 Γ = some ((fun _ => []) o)) : ∀ ρ, EnvR Γ ρ → su_l_asked.ex o ρ := xf h
theorem rt_l_asked {Γ : List Sl} {x : Bool} {o : Unit} {s : Sv} (h1 : s.d = eB x) (h2 : resOk true s = true) (h : outsG [.bor, .bor, .bor, .shr] 0 Γ = some ((fun _ => []) o)) : ∀ ρ, EnvR Γ ρ → su_l_asked.rt x o s ρ := rtf h1 h2 h
theorem tr_l_asked (coat1 : C_Coat) (text1 : (List Char)) (words1 : (List (List Char))) (far1 : (List Int)) : FOk (fun _ => []) eB (t_l_asked_v7 coat1 text1 words1 far1) (fn_l_asked [e_Coat coat1, eS text1, (eL eS) words1, (eL eI) far1]) := by
  unfold t_l_asked_v7
  exact fok_run (pm := [.bor, .bor, .bor, .shr]) (rm := true) (eo := (fun _ => [])) (er := eB) (ν := Empty) (Γ := [.vl (Sv.mk .bor (e_Coat coat1)), .vl (sv (eS text1)), .vl (Sv.mk .bor ((eL eS) words1)), .vl (Sv.mk .shr ((eL eI) far1)), .no]) (P := PF) (s_if (c_joinB (v := fun b => b) (G := fun _ => [.vl (Sv.mk .bor (e_Coat coat1)), .vl (sv (eS text1)), .vl (Sv.mk .bor ((eL eS) words1)), .vl (Sv.mk .shr ((eL eI) far1)), .no]) (c_or (c_not (c_tru (c_call (c_pure (v_aS rfl (v_aS rfl v_aN)) (c_kcall (tr_l_face coat1 text1) rfl rfl rfl (x_l_asked (o := ()) rfl) (fun x => (isb x)) (fun _ => rfl) (fun v1 => (c_ktru (b := v1) rfl (c_sel (p := (¬ (v1 = true))) (not_dec (bt _)) (c_valB (v := fun b => b) (a := true) (by exact ⟨rfl, ⟨rfl, ⟨rfl, ⟨rfl, ⟨trivial, trivial⟩⟩⟩⟩⟩)) (c_not (c_tru (c_call (c_pure (v_aS rfl (v_aS rfl v_aN)) (c_kcall (tr_l_gaps coat1 text1) rfl rfl rfl (x_l_asked (o := ()) rfl) (fun x => (isb x)) (fun _ => rfl) (fun v2 => (c_ktru (b := v2) rfl (c_valB (v := fun b => b) (a := (!v2)) (by exact ⟨rfl, ⟨rfl, ⟨rfl, ⟨rfl, ⟨trivial, trivial⟩⟩⟩⟩⟩)))))))))))))))))) (fun t1 => (s_selA (p := (t1 = true)) (bt _) (s_ret (c_pure v_c (r_ret (rt_l_asked (x := false) (o := ()) rfl rfl rfl)))) (s_nil (s_if (c_not (c_tru (c_call (c_pure (v_aS rfl (v_aS rfl (v_aS rfl v_aN))) (c_kcall (tr_l_stretches coat1 text1 far1) rfl rfl rfl (x_l_asked (o := ()) rfl) (fun x => (isb x)) (fun _ => rfl) (fun v3 => (c_ktru (b := v3) rfl (s_selA (p := (¬ (v3 = true))) (not_dec (bt _)) (s_ret (c_pure v_c (r_ret (rt_l_asked (x := false) (o := ()) rfl rfl rfl)))) (s_nil (s_for (c_src (c_pure (v_bo rfl) (c_ok (a := (true, (words1).map fun x => (sv (eS x)))) k_itL (c_grd0 (s_loop (v := fun (x : (List Char)) => (sv (eS x))) (G := (fun (a : Unit) => [.vl (Sv.mk .bor (e_Coat coat1)), .vl (sv (eS text1)), .vl (Sv.mk .bor ((eL eS) words1)), .vl (Sv.mk .shr ((eL eI) far1)), .jk])) (by exact ⟨rfl, ⟨rfl, ⟨rfl, ⟨rfl, ⟨trivial, trivial⟩⟩⟩⟩⟩) (t_nm (i := 4) (v := fun x => (sv (eS x))) (fun _ => rfl) (fun _ => rfl)) (fun word1 s1 => (s_last (s_if (c_not (c_tru (c_call (c_aSl rfl (c_aEx (c_make (c_pure (v_aS rfl v_aN) (c_kmake (tr_Coat___init__ word1) rfl rfl (x_l_asked (o := ()) rfl) (fun v4 => (c_grd (by first | rfl | (unfold mk; repeat (first | rfl | split))) (c_aEx (c_pure (v_two (u := (isb (decide (word1 = text1)))) (v_sh rfl) (v_sh rfl) rfl (k_eq (x := word1) (y := text1) eqt_S)) (c_grd (by first | rfl | (unfold mk; repeat (first | rfl | split))) (c_pure v_aN (c_kcall (tr_l_equal coat1 v4 (decide (word1 = text1))) rfl rfl rfl (x_l_asked (o := ()) rfl) (fun x => (isb x)) (fun _ => rfl) (fun v5 => (c_ktru (b := v5) rfl (s_selA (p := (¬ (v5 = true))) (not_dec (bt _)) (s_ret (c_pure v_c (r_ret (rt_l_asked (x := false) (o := ()) rfl rfl rfl)))) (s_nil (s_end (G := (fun (a : Unit) => [.vl (Sv.mk .bor (e_Coat coat1)), .vl (sv (eS text1)), .vl (Sv.mk .bor ((eL eS) words1)), .vl (Sv.mk .shr ((eL eI) far1)), .jk])) (by exact ⟨rfl, ⟨rfl, ⟨rfl, ⟨rfl, ⟨trivial, trivial⟩⟩⟩⟩⟩)))))))))))))))))))))))) (fun s2 => (s_ret (c_call (c_pure (v_aS rfl (v_aS rfl (v_aE v_c rfl v_aN))) (c_kcall (tr_l_equal_i2 coat1 text1 false) rfl rfl rfl (x_l_asked (o := ()) rfl) (fun x => (isb x)) (fun _ => rfl) (fun v6 => (r_ret (rt_l_asked (x := v6) (o := ()) rfl rfl rfl))))))))))))))))))))))))))))) (⟨_, _, rfl, rfl, ⟨_, _, rfl, rfl, ⟨_, _, rfl, rfl, ⟨_, _, rfl, rfl, ⟨_, _, rfl, rfl, rfl⟩⟩⟩⟩⟩) fall_no
abbrev su_law : Sur Empty Unit Bool := surF [.bor] true (fun _ => []) eB
theorem x_law {Γ : List Sl} {o : Unit} (h : outsG [.bor] 0 Γ = some ((fun _ => []) o)) : ∀ ρ, EnvR Γ ρ → su_law.ex o ρ := xf h
theorem rt_law {Γ : List Sl} {x : Bool} {o : Unit} {s : Sv} (h1 : s.d = eB x) (h2 : resOk true s = true) (h : outsG [.bor] 0 Γ = some ((fun _ => []) o)) : ∀ ρ, EnvR Γ ρ → su_law.rt x o s ρ := rtf h1 h2 h
theorem tr_law (script1 : (List Int)) : FOk (fun _ => []) eB (t_law_v38 script1) (fn_law [Vl.scr script1]) := by
  unfold t_law_v38
  exact fok_run (pm := [.bor]) (rm := true) (eo := (fun _ => [])) (er := eB) (ν := Empty) (Γ := [.vl (Sv.mk .bor (Vl.scr script1)), .no, .no, .no, .no, .no, .no, .no, .no, .no, .no, .no, .no]) (P := PF) (s_asg (c_call (c_pure (v_aS rfl v_aN) (c_kcall (tr_l_begin script1) rfl rfl rfl (x_law (o := ()) rfl) (fun x => (Sv.mk .own (eDrw x))) (fun _ => rfl) (fun v1 => (s_st rfl rfl (s_asg (c_frz (c_call (c_pure (v_aS rfl (v_aE v_c rfl v_aN)) (c_kcallJ [1] (fun (o : Drw) => [.vl (Sv.mk .bor (Vl.scr script1)), .vl (Sv.mk .own (eDrw o)), .no, .no, .no, .no, .no, .no, .no, .no, .no, .no, .no]) (tr_l_draw v1 (8 : Int)) rfl rfl rfl rfl (fun _ => rfl) (fun o => (x_law (o := ()) rfl)) (fun x => (isv x)) (fun _ => rfl) (fun v2 => (c_ok (a := (isv v2.1)) (fun _ => rfl) (s_st rfl rfl (s_asg (c_frz (c_call (c_aSl rfl (c_aEx (c_two (c_pure (v_lst (u := (Sv.mk .own ((eL eI) [(3 : Int), (5 : Int), (4 : Int), (2 : Int), (1 : Int), (0 : Int)]))) (v_aE v_c rfl (v_aE v_c rfl (v_aE v_c rfl (v_aE v_c rfl (v_aE v_c rfl (v_aE v_c rfl v_aN)))))) (fun _ => rfl)) (c_grd (by first | rfl | (unfold mk; repeat (first | rfl | split))) (c_call (c_pure (v_aS rfl (v_aE v_c rfl v_aN)) (c_kcallJ [1] (fun (o : Drw) => [.vl (Sv.mk .bor (Vl.scr script1)), .vl (Sv.mk .own (eDrw o)), .vl (isv v2.1), .no, .no, .no, .no, .no, .no, .no, .no, .no, .no]) (tr_l_draw v2.2 (6 : Int)) rfl rfl rfl rfl (fun _ => rfl) (fun o => (x_law (o := ()) rfl)) (fun x => (isv x)) (fun _ => rfl) (fun v3 => (c_ix (fun x => (isv x)) (fun _ => rfl) (fun v4 => (c_grd (by first | rfl | (unfold mk; repeat (first | rfl | split))) (c_aEx (c_pure v_c (c_grd (by first | rfl | (unfold mk; repeat (first | rfl | split))) (c_pure v_aN (c_kcallJ [1] (fun (o : Drw) => [.vl (Sv.mk .bor (Vl.scr script1)), .vl (Sv.mk .own (eDrw o)), .vl (isv v2.1), .no, .no, .no, .no, .no, .no, .no, .no, .no, .no]) (tr_l_coat_text v3.2 v4 (0 : Int)) rfl rfl rfl rfl (fun _ => rfl) (fun o => (x_law (o := ()) rfl)) (fun x => (sv (eS x))) (fun _ => rfl) (fun v5 => (c_ok (a := (sv (eS v5.1))) (fun _ => rfl) (s_st rfl rfl (s_if (c_pure (v_or (v_tst (v_two (u := (isb (decide (v2.1 = (4 : Int))))) (v_sh rfl) v_c rfl (k_eq (x := v2.1) (y := (4 : Int)) eqt_I))) (v_tst (v_two (u := (isb (decide (v2.1 = (5 : Int))))) (v_sh rfl) v_c rfl (k_eq (x := v2.1) (y := (5 : Int)) eqt_I)))) (s_selJ (p := ((v2.1 = (4 : Int)) ∨ (v2.1 = (5 : Int)))) (G := fun (a : (Drw × (List Char))) => [.vl (Sv.mk .bor (Vl.scr script1)), .vl (Sv.mk .own (eDrw a.1)), .vl (isv v2.1), .vl (sv (eS a.2)), .no, .no, .no, .no, .no, .no, .no, .no, .no]) rfl (s_last (s_asg (c_frz (c_call (c_pure (v_aS rfl (v_aS rfl v_aN)) (c_kcallJ [1] (fun (o : Drw) => [.vl (Sv.mk .bor (Vl.scr script1)), .vl (Sv.mk .own (eDrw o)), .vl (isv v2.1), .vl (sv (eS v5.1)), .no, .no, .no, .no, .no, .no, .no, .no, .no]) (tr_l_spoilt v5.2 v5.1) rfl rfl rfl rfl (fun _ => rfl) (fun o => (x_law (o := ()) rfl)) (fun x => (sv (eS x))) (fun _ => rfl) (fun v6 => (c_ok (a := (sv (eS v6.1))) (fun _ => rfl) (s_st rfl rfl (s_end (G := fun (a : (Drw × (List Char))) => [.vl (Sv.mk .bor (Vl.scr script1)), .vl (Sv.mk .own (eDrw a.1)), .vl (isv v2.1), .vl (sv (eS a.2)), .no, .no, .no, .no, .no, .no, .no, .no, .no]) (by exact ⟨rfl, ⟨rfl, ⟨rfl, ⟨rfl, ⟨trivial, ⟨trivial, ⟨trivial, ⟨trivial, ⟨trivial, ⟨trivial, ⟨trivial, ⟨trivial, ⟨trivial, trivial⟩⟩⟩⟩⟩⟩⟩⟩⟩⟩⟩⟩⟩))))))))))) (s_end (G := fun (a : (Drw × (List Char))) => [.vl (Sv.mk .bor (Vl.scr script1)), .vl (Sv.mk .own (eDrw a.1)), .vl (isv v2.1), .vl (sv (eS a.2)), .no, .no, .no, .no, .no, .no, .no, .no, .no]) (by exact ⟨rfl, ⟨rfl, ⟨rfl, ⟨rfl, ⟨trivial, ⟨trivial, ⟨trivial, ⟨trivial, ⟨trivial, ⟨trivial, ⟨trivial, ⟨trivial, ⟨trivial, trivial⟩⟩⟩⟩⟩⟩⟩⟩⟩⟩⟩⟩⟩)) (fun q1 => (s_if (c_pure (v_tst (v_two (u := (isb (decide (v2.1 = (6 : Int))))) (v_sh rfl) v_c rfl (k_eq (x := v2.1) (y := (6 : Int)) eqt_I))) (s_selJ (p := (v2.1 = (6 : Int))) (G := fun (a : (Drw × (List Char))) => [.vl (Sv.mk .bor (Vl.scr script1)), .vl (Sv.mk .own (eDrw a.1)), .vl (isv v2.1), .vl (sv (eS a.2)), .no, .no, .no, .no, .no, .no, .no, .no, .no]) rfl (s_last (s_asg (c_frz (c_call (c_pure (v_aS rfl v_aN) (c_kcallJ [1] (fun (o : Drw) => [.vl (Sv.mk .bor (Vl.scr script1)), .vl (Sv.mk .own (eDrw o)), .vl (isv v2.1), .vl (sv (eS q1.2)), .no, .no, .no, .no, .no, .no, .no, .no, .no]) (tr_l_free q1.1) rfl rfl rfl rfl (fun _ => rfl) (fun o => (x_law (o := ()) rfl)) (fun x => (sv (eS x))) (fun _ => rfl) (fun v7 => (c_ok (a := (sv (eS v7.1))) (fun _ => rfl) (s_st rfl rfl (s_end (G := fun (a : (Drw × (List Char))) => [.vl (Sv.mk .bor (Vl.scr script1)), .vl (Sv.mk .own (eDrw a.1)), .vl (isv v2.1), .vl (sv (eS a.2)), .no, .no, .no, .no, .no, .no, .no, .no, .no]) (by exact ⟨rfl, ⟨rfl, ⟨rfl, ⟨rfl, ⟨trivial, ⟨trivial, ⟨trivial, ⟨trivial, ⟨trivial, ⟨trivial, ⟨trivial, ⟨trivial, ⟨trivial, trivial⟩⟩⟩⟩⟩⟩⟩⟩⟩⟩⟩⟩⟩))))))))))) (s_end (G := fun (a : (Drw × (List Char))) => [.vl (Sv.mk .bor (Vl.scr script1)), .vl (Sv.mk .own (eDrw a.1)), .vl (isv v2.1), .vl (sv (eS a.2)), .no, .no, .no, .no, .no, .no, .no, .no, .no]) (by exact ⟨rfl, ⟨rfl, ⟨rfl, ⟨rfl, ⟨trivial, ⟨trivial, ⟨trivial, ⟨trivial, ⟨trivial, ⟨trivial, ⟨trivial, ⟨trivial, ⟨trivial, trivial⟩⟩⟩⟩⟩⟩⟩⟩⟩⟩⟩⟩⟩)) (fun q2 => (s_if (c_pure (v_tst (v_two (u := (isb (decide (v2.1 = (7 : Int))))) (v_sh rfl) v_c rfl (k_eq (x := v2.1) (y := (7 : Int)) eqt_I))) (s_selJ (p := (v2.1 = (7 : Int))) (G := fun (a : (Drw × (List Char))) => [.vl (Sv.mk .bor (Vl.scr script1)), .vl (Sv.mk .own (eDrw a.1)), .vl (isv v2.1), .vl (sv (eS a.2)), .no, .no, .no, .no, .no, .no, .no, .no, .no]) rfl (s_last (s_asg (c_frz (c_call (c_pure (v_aS rfl v_aN) (c_kcallJ [1] (fun (o : Drw) => [.vl (Sv.mk .bor (Vl.scr script1)), .vl (Sv.mk .own (eDrw o)), .vl (isv v2.1), .vl (sv (eS q2.2)), .no, .no, .no, .no, .no, .no, .no, .no, .no]) (tr_l_long q2.1) rfl rfl rfl rfl (fun _ => rfl) (fun o => (x_law (o := ()) rfl)) (fun x => (sv (eS x))) (fun _ => rfl) (fun v8 => (c_ok (a := (sv (eS v8.1))) (fun _ => rfl) (s_st rfl rfl (s_end (G := fun (a : (Drw × (List Char))) => [.vl (Sv.mk .bor (Vl.scr script1)), .vl (Sv.mk .own (eDrw a.1)), .vl (isv v2.1), .vl (sv (eS a.2)), .no, .no, .no, .no, .no, .no, .no, .no, .no]) (by exact ⟨rfl, ⟨rfl, ⟨rfl, ⟨rfl, ⟨trivial, ⟨trivial, ⟨trivial, ⟨trivial, ⟨trivial, ⟨trivial, ⟨trivial, ⟨trivial, ⟨trivial, trivial⟩⟩⟩⟩⟩⟩⟩⟩⟩⟩⟩⟩⟩))))))))))) (s_end (G := fun (a : (Drw × (List Char))) => [.vl (Sv.mk .bor (Vl.scr script1)), .vl (Sv.mk .own (eDrw a.1)), .vl (isv v2.1), .vl (sv (eS a.2)), .no, .no, .no, .no, .no, .no, .no, .no, .no]) (by exact ⟨rfl, ⟨rfl, ⟨rfl, ⟨rfl, ⟨trivial, ⟨trivial, ⟨trivial, ⟨trivial, ⟨trivial, ⟨trivial, ⟨trivial, ⟨trivial, ⟨trivial, trivial⟩⟩⟩⟩⟩⟩⟩⟩⟩⟩⟩⟩⟩)) (fun q3 => (s_asg (c_frz (c_call (c_aSl rfl (c_aEx (c_two (c_pure (v_lst (u := (Sv.mk .own ((eL eI) [(4 : Int), (3 : Int), (5 : Int), (0 : Int), (2 : Int), (1 : Int)]))) (v_aE v_c rfl (v_aE v_c rfl (v_aE v_c rfl (v_aE v_c rfl (v_aE v_c rfl (v_aE v_c rfl v_aN)))))) (fun _ => rfl)) (c_grd (by first | rfl | (unfold mk; repeat (first | rfl | split))) (c_call (c_pure (v_aS rfl (v_aE v_c rfl v_aN)) (c_kcallJ [1] (fun (o : Drw) => [.vl (Sv.mk .bor (Vl.scr script1)), .vl (Sv.mk .own (eDrw o)), .vl (isv v2.1), .vl (sv (eS q3.2)), .no, .no, .no, .no, .no, .no, .no, .no, .no]) (tr_l_draw q3.1 (6 : Int)) rfl rfl rfl rfl (fun _ => rfl) (fun o => (x_law (o := ()) rfl)) (fun x => (isv x)) (fun _ => rfl) (fun v9 => (c_ix (fun x => (isv x)) (fun _ => rfl) (fun v10 => (c_grd (by first | rfl | (unfold mk; repeat (first | rfl | split))) (c_aEx (c_pure v_c (c_grd (by first | rfl | (unfold mk; repeat (first | rfl | split))) (c_pure v_aN (c_kcallJ [1] (fun (o : Drw) => [.vl (Sv.mk .bor (Vl.scr script1)), .vl (Sv.mk .own (eDrw o)), .vl (isv v2.1), .vl (sv (eS q3.2)), .no, .no, .no, .no, .no, .no, .no, .no, .no]) (tr_l_coat_text v9.2 v10 (1 : Int)) rfl rfl rfl rfl (fun _ => rfl) (fun o => (x_law (o := ()) rfl)) (fun x => (sv (eS x))) (fun _ => rfl) (fun v11 => (c_ok (a := (sv (eS v11.1))) (fun _ => rfl) (s_st rfl rfl (s_asg (c_lst (c_aEx (c_frz (c_two (c_two (c_one (c_two (c_call (c_pure (v_aS rfl (v_aE v_c rfl v_aN)) (c_kcallJ [1] (fun (o : Drw) => [.vl (Sv.mk .bor (Vl.scr script1)), .vl (Sv.mk .own (eDrw o)), .vl (isv v2.1), .vl (sv (eS q3.2)), .vl (sv (eS v11.1)), .no, .no, .no, .no, .no, .no, .no, .no]) (tr_l_draw v11.2 (2001 : Int)) rfl rfl rfl rfl (fun _ => rfl) (fun o => (x_law (o := ()) rfl)) (fun x => (isv x)) (fun _ => rfl) (fun v12 => (c_grd (by first | rfl | (unfold mk; repeat (first | rfl | split))) (c_pure v_c (c_ok (a := (isv (v12.1 + (997 : Int)))) (fun _ => rfl) (c_ok (a := (isv (v12.1 + (997 : Int)))) (fun _ => rfl) (c_grd (by first | rfl | (unfold mk; repeat (first | rfl | split))) (c_pure v_c (c_ok (a := (isv ((v12.1 + (997 : Int)) % (2001 : Int)))) (k_modc (by decide)) (c_grd (by first | rfl | (unfold mk; repeat (first | rfl | split))) (c_pure v_c (c_ok (a := (isv (((v12.1 + (997 : Int)) % (2001 : Int)) - (1000 : Int)))) (fun _ => rfl) (c_ok (a := (isv (((v12.1 + (997 : Int)) % (2001 : Int)) - (1000 : Int)))) (fun _ => rfl) (c_grd (by first | rfl | (unfold mk; repeat (first | rfl | split))) (c_pure v_aN (c_ok (a := (Sv.mk .own ((eL eI) [(((v12.1 + (997 : Int)) % (2001 : Int)) - (1000 : Int))]))) (fun _ => rfl) (s_let (v := fun (x : (List Int)) => (Sv.mk .own ((eL eI) x))) (x := [(((v12.1 + (997 : Int)) % (2001 : Int)) - (1000 : Int))]) rfl (fun _ => rfl) (fun far1 => (s_expr (c_app rfl (c_frz (c_two (c_two (c_one (c_two (c_call (c_pure (v_aS rfl (v_aE v_c rfl v_aN)) (c_kcallJ [1] (fun (o : Drw) => [.vl (Sv.mk .bor (Vl.scr script1)), .vl (Sv.mk .own (eDrw o)), .vl (isv v2.1), .vl (sv (eS q3.2)), .vl (sv (eS v11.1)), .vl (Sv.mk .own ((eL eI) far1)), .no, .no, .no, .no, .no, .no, .no]) (tr_l_draw v12.2 (2001 : Int)) rfl rfl rfl rfl (fun _ => rfl) (fun o => (x_law (o := ()) rfl)) (fun x => (isv x)) (fun _ => rfl) (fun v13 => (c_grd (by first | rfl | (unfold mk; repeat (first | rfl | split))) (c_pure v_c (c_ok (a := (isv (v13.1 + (1007 : Int)))) (fun _ => rfl) (c_ok (a := (isv (v13.1 + (1007 : Int)))) (fun _ => rfl) (c_grd (by first | rfl | (unfold mk; repeat (first | rfl | split))) (c_pure v_c (c_ok (a := (isv ((v13.1 + (1007 : Int)) % (2001 : Int)))) (k_modc (by decide)) (c_grd (by first | rfl | (unfold mk; repeat (first | rfl | split))) (c_pure v_c (c_ok (a := (isv (((v13.1 + (1007 : Int)) % (2001 : Int)) - (1000 : Int)))) (fun _ => rfl) (c_ok (a := (isv (((v13.1 + (1007 : Int)) % (2001 : Int)) - (1000 : Int)))) (fun _ => rfl) (c_grd rfl (c_push (e := eI) (x := (((v13.1 + (1007 : Int)) % (2001 : Int)) - (1000 : Int))) rfl rfl (fun far2 => (s_asg (c_frz (c_call (c_pure (v_aS rfl v_aN) (c_kcall (tr_l_due q3.2) rfl rfl rfl (x_law (o := ()) rfl) (fun x => (Sv.mk .own ((eL eV) x))) (fun _ => rfl) (fun v14 => (c_ok (a := (Sv.mk .shr ((eL eV) v14))) (fun _ => rfl) (s_st rfl rfl (s_asg (c_frz (c_call (c_pure (v_aS rfl v_aN) (c_kcall (tr_l_made q3.2) rfl rfl rfl (x_law (o := ()) rfl) (fun x => (Sv.mk .own ((eL eV) x))) (fun _ => rfl) (fun v15 => (c_ok (a := (Sv.mk .shr ((eL eV) v15))) (fun _ => rfl) (s_st rfl rfl (s_if (c_joinB (v := fun b => b) (G := fun _ => [.vl (Sv.mk .bor (Vl.scr script1)), .vl (Sv.mk .own (eDrw v13.2)), .vl (isv v2.1), .vl (sv (eS q3.2)), .vl (sv (eS v11.1)), .vl (Sv.mk .own ((eL eI) far2)), .vl (Sv.mk .shr ((eL eV) v14)), .vl (Sv.mk .shr ((eL eV) v15)), .no, .no, .no, .no, .no]) (c_or (c_tst (c_two (c_pure (v_sh rfl) (c_grd (by first | rfl | (unfold mk; repeat (first | rfl | split))) (c_pure (v_sh rfl) (c_neO (fun b1 => (c_ok (a := b1) (fun _ => rfl) (c_sel (p := (b1 = true)) (bt _) (c_valB (v := fun b => b) (a := true) (by exact ⟨rfl, ⟨rfl, ⟨rfl, ⟨rfl, ⟨rfl, ⟨rfl, ⟨rfl, ⟨rfl, ⟨trivial, ⟨trivial, ⟨trivial, ⟨trivial, ⟨trivial, trivial⟩⟩⟩⟩⟩⟩⟩⟩⟩⟩⟩⟩⟩)) (c_not (c_tru (c_call (c_pure (v_aS rfl v_aN) (c_kcall (tr_l_numbers v15) rfl rfl rfl (x_law (o := ()) rfl) (fun x => (isb x)) (fun _ => rfl) (fun v16 => (c_ktru (b := v16) rfl (c_valB (v := fun b => b) (a := (!v16)) (by exact ⟨rfl, ⟨rfl, ⟨rfl, ⟨rfl, ⟨rfl, ⟨rfl, ⟨rfl, ⟨rfl, ⟨trivial, ⟨trivial, ⟨trivial, ⟨trivial, ⟨trivial, trivial⟩⟩⟩⟩⟩⟩⟩⟩⟩⟩⟩⟩⟩))))))))))))))))))) (fun t1 => (s_selA (p := (t1 = true)) (bt _) (s_ret (c_pure v_c (r_ret (rt_law (x := false) (o := ()) rfl rfl rfl)))) (s_nil (s_asg (c_pure (v_frz (v_lst (u := (Sv.mk .own ((eL eS) [v11.1, q3.2]))) (v_aE (v_sh rfl) rfl (v_aE (v_sh rfl) rfl v_aN)) (fun _ => rfl)) (fun _ => rfl)) (s_let (v := fun (x : (List (List Char))) => (Sv.mk .shr ((eL eS) x))) (x := [v11.1, q3.2]) rfl (fun _ => rfl) (fun words1 => (s_if (c_tst (c_two (c_pure (v_sh rfl) (c_grd (by first | rfl | (unfold mk; repeat (first | rfl | split))) (c_pure (v_lst (u := (Sv.mk .own ((eL eS) [['m', 'a', 'd', 'e']]))) (v_aE (v_str str_8) rfl v_aN) (fun _ => rfl)) (c_neO (fun b2 => (c_ok (a := b2) (fun _ => rfl) (s_selJ (p := (b2 = true)) (G := fun (a : (List (List Char))) => [.vl (Sv.mk .bor (Vl.scr script1)), .vl (Sv.mk .own (eDrw v13.2)), .vl (isv v2.1), .vl (sv (eS q3.2)), .vl (sv (eS v11.1)), .vl (Sv.mk .own ((eL eI) far2)), .vl (Sv.mk .shr ((eL eV) v14)), .vl (Sv.mk .shr ((eL eV) v15)), .vl (Sv.mk .shr ((eL eS) a)), .no, .no, .no, .no]) (bt _) (s_asg (c_pure (v_frz (v_lst (u := (Sv.mk .own ((eL eS) [v11.1]))) (v_aE (v_sh rfl) rfl v_aN) (fun _ => rfl)) (fun _ => rfl)) (s_let (v := fun (x : (List (List Char))) => (Sv.mk .shr ((eL eS) x))) (x := [v11.1]) rfl (fun _ => rfl) (fun words2 => (s_last (s_if (c_not (c_tru (c_call (c_pure (v_aS rfl v_aN) (c_kcall (tr_l_base q3.2) rfl rfl rfl (x_law (o := ()) rfl) (fun x => (isb x)) (fun _ => rfl) (fun v17 => (c_ktru (b := v17) rfl (s_selA (p := (¬ (v17 = true))) (not_dec (bt _)) (s_ret (c_pure v_c (r_ret (rt_law (x := false) (o := ()) rfl rfl rfl)))) (s_nil (s_end (G := fun (a : (List (List Char))) => [.vl (Sv.mk .bor (Vl.scr script1)), .vl (Sv.mk .own (eDrw v13.2)), .vl (isv v2.1), .vl (sv (eS q3.2)), .vl (sv (eS v11.1)), .vl (Sv.mk .own ((eL eI) far2)), .vl (Sv.mk .shr ((eL eV) v14)), .vl (Sv.mk .shr ((eL eV) v15)), .vl (Sv.mk .shr ((eL eS) a)), .no, .no, .no, .no]) (by exact ⟨rfl, ⟨rfl, ⟨rfl, ⟨rfl, ⟨rfl, ⟨rfl, ⟨rfl, ⟨rfl, ⟨rfl, ⟨trivial, ⟨trivial, ⟨trivial, ⟨trivial, trivial⟩⟩⟩⟩⟩⟩⟩⟩⟩⟩⟩⟩⟩))))))))))))))))) (s_end (G := fun (a : (List (List Char))) => [.vl (Sv.mk .bor (Vl.scr script1)), .vl (Sv.mk .own (eDrw v13.2)), .vl (isv v2.1), .vl (sv (eS q3.2)), .vl (sv (eS v11.1)), .vl (Sv.mk .own ((eL eI) far2)), .vl (Sv.mk .shr ((eL eV) v14)), .vl (Sv.mk .shr ((eL eV) v15)), .vl (Sv.mk .shr ((eL eS) a)), .no, .no, .no, .no]) (by exact ⟨rfl, ⟨rfl, ⟨rfl, ⟨rfl, ⟨rfl, ⟨rfl, ⟨rfl, ⟨rfl, ⟨rfl, ⟨trivial, ⟨trivial, ⟨trivial, ⟨trivial, trivial⟩⟩⟩⟩⟩⟩⟩⟩⟩⟩⟩⟩⟩)) (fun q4 => (s_asg (c_frz (c_lc (c_src (c_pure (v_sh rfl) (c_ok (a := (true, (q4).map fun x => (sv (eS x)))) k_itL (c_comp (te := fun word1 => (callO () (t_Coat___init__ word1)).bind fun v21 =>
  .next (some v21)) rfl e_Coat rfl (t_nmC (n := 10) (v := fun x => (sv (eS x))) rfl (fun _ => rfl)) (fun _ => rfl) (fun word1 => (e_yes (c_frz (c_make (c_pure (v_aS rfl v_aN) (c_kmake (tr_Coat___init__ word1) rfl rfl xE (fun v21 => (c_ok (a := (Sv.mk .shr (e_Coat v21))) (fun _ => rfl) (e_some (by exact (by exact ⟨rfl, ⟨rfl, ⟨rfl, ⟨rfl, ⟨rfl, ⟨rfl, ⟨rfl, ⟨rfl, ⟨rfl, ⟨trivial, ⟨rfl, ⟨trivial, ⟨trivial, trivial⟩⟩⟩⟩⟩⟩⟩⟩⟩⟩⟩⟩⟩))))))))))) (fun l1 => (c_ok (a := (Sv.mk .shr ((eL e_Coat) l1))) (fun _ => rfl) (s_st rfl rfl (s_fz rfl (s_for (c_r1 (c_pure v_c (c_int (c_rngc (by decide) (c_grd0 (s_loop (v := fun (x : Int) => (isv x)) (G := (fun (a : (List Int)) => [.vl (Sv.mk .bor (Vl.scr script1)), .vl (Sv.mk .own (eDrw v13.2)), .vl (isv v2.1), .vl (sv (eS q3.2)), .vl (sv (eS v11.1)), .vl (Sv.mk .shr ((eL eI) a)), .vl (Sv.mk .shr ((eL eV) v14)), .vl (Sv.mk .shr ((eL eV) v15)), .vl (Sv.mk .shr ((eL eS) q4)), .vl (Sv.mk .shr ((eL e_Coat) l1)), .no, .jk, .jk])) (by exact ⟨rfl, ⟨rfl, ⟨rfl, ⟨rfl, ⟨rfl, ⟨rfl, ⟨rfl, ⟨rfl, ⟨rfl, ⟨rfl, ⟨trivial, ⟨trivial, ⟨trivial, trivial⟩⟩⟩⟩⟩⟩⟩⟩⟩⟩⟩⟩⟩) (t_nm (i := 11) (v := fun x => (isv x)) (fun _ => rfl) (fun _ => rfl)) (fun turn1 s1 => (s_last (s_fz0 rfl (s_for (c_r1 (c_pure (v_one (u := (isv (q4.length : Int))) (v_sh rfl) k_len) (c_int (c_rng (fun r1 => (c_grd0 (s_loop (v := fun (x : Int) => (isv x)) (G := (fun (a : (List Int)) => [.vl (Sv.mk .bor (Vl.scr script1)), .vl (Sv.mk .own (eDrw v13.2)), .vl (isv v2.1), .vl (sv (eS q3.2)), .vl (sv (eS v11.1)), .vl (Sv.mk .shr ((eL eI) a)), .vl (Sv.mk .shr ((eL eV) v14)), .vl (Sv.mk .shr ((eL eV) v15)), .vl (Sv.mk .shr ((eL eS) q4)), .vl (Sv.mk .shr ((eL e_Coat) l1)), .no, .vl (isv turn1), .jk])) (by exact ⟨rfl, ⟨rfl, ⟨rfl, ⟨rfl, ⟨rfl, ⟨rfl, ⟨rfl, ⟨rfl, ⟨rfl, ⟨rfl, ⟨trivial, ⟨rfl, ⟨trivial, trivial⟩⟩⟩⟩⟩⟩⟩⟩⟩⟩⟩⟩⟩) (t_nm (i := 12) (v := fun x => (isv x)) (fun _ => rfl) (fun _ => rfl)) (fun number1 s2 => (s_last (s_fz0 rfl (s_if (c_not (c_tru (c_call (c_aEx (c_two (c_pure (v_sh rfl) (c_grd (by first | rfl | (unfold mk; repeat (first | rfl | split))) (c_pure (v_sh rfl) (c_ix (fun x => (Sv.mk .shr (e_Coat x))) (fun _ => rfl) (fun v18 => (c_grd (by first | rfl | (unfold mk; repeat (first | rfl | split))) (c_aEx (c_two (c_pure (v_sh rfl) (c_grd (by first | rfl | (unfold mk; repeat (first | rfl | split))) (c_pure (v_sh rfl) (c_ix (fun x => (sv (eS x))) (fun _ => rfl) (fun v19 => (c_grd (by first | rfl | (unfold mk; repeat (first | rfl | split))) (c_aSl rfl (c_aSl rfl (c_pure v_aN (c_kcall (tr_l_asked v18 v19 q4 s2) rfl rfl rfl (x_law (o := ()) rfl) (fun x => (isb x)) (fun _ => rfl) (fun v20 => (c_ktru (b := v20) rfl (s_selA (p := (¬ (v20 = true))) (not_dec (bt _)) (s_ret (c_pure v_c (r_ret (rt_law (x := false) (o := ()) rfl rfl rfl)))) (s_nil (s_end (G := (fun (a : (List Int)) => [.vl (Sv.mk .bor (Vl.scr script1)), .vl (Sv.mk .own (eDrw v13.2)), .vl (isv v2.1), .vl (sv (eS q3.2)), .vl (sv (eS v11.1)), .vl (Sv.mk .shr ((eL eI) a)), .vl (Sv.mk .shr ((eL eV) v14)), .vl (Sv.mk .shr ((eL eV) v15)), .vl (Sv.mk .shr ((eL eS) q4)), .vl (Sv.mk .shr ((eL e_Coat) l1)), .no, .vl (isv turn1), .jk])) (by exact ⟨rfl, ⟨rfl, ⟨rfl, ⟨rfl, ⟨rfl, ⟨rfl, ⟨rfl, ⟨rfl, ⟨rfl, ⟨rfl, ⟨trivial, ⟨rfl, ⟨trivial, trivial⟩⟩⟩⟩⟩⟩⟩⟩⟩⟩⟩⟩⟩))))))))))))))))))))))))))))))))) (fun s3 => (s_end (G := (fun (a : (List Int)) => [.vl (Sv.mk .bor (Vl.scr script1)), .vl (Sv.mk .own (eDrw v13.2)), .vl (isv v2.1), .vl (sv (eS q3.2)), .vl (sv (eS v11.1)), .vl (Sv.mk .shr ((eL eI) a)), .vl (Sv.mk .shr ((eL eV) v14)), .vl (Sv.mk .shr ((eL eV) v15)), .vl (Sv.mk .shr ((eL eS) q4)), .vl (Sv.mk .shr ((eL e_Coat) l1)), .no, .jk, .jk])) (by exact ⟨rfl, ⟨rfl, ⟨rfl, ⟨rfl, ⟨rfl, ⟨rfl, ⟨rfl, ⟨rfl, ⟨rfl, ⟨rfl, ⟨trivial, ⟨trivial, ⟨trivial, trivial⟩⟩⟩⟩⟩⟩⟩⟩⟩⟩⟩⟩⟩)))))))))))))) (fun s4 => (s_ret (c_pure v_c (r_ret (rt_law (x := true) (o := ()) rfl rfl rfl)))))))))))))))))))))))))))))))))))))))))))))))))))))))))))))))))))))))))))))))))))))))))))))))))))))))))))))))))))))))))))))))))))))))))))))))))))))))))))))))))))))))))))))))))))))))) (⟨_, _, rfl, rfl, ⟨_, _, rfl, rfl, ⟨_, _, rfl, rfl, ⟨_, _, rfl, rfl, ⟨_, _, rfl, rfl, ⟨_, _, rfl, rfl, ⟨_, _, rfl, rfl, ⟨_, _, rfl, rfl, ⟨_, _, rfl, rfl, ⟨_, _, rfl, rfl, ⟨_, _, rfl, rfl, ⟨_, _, rfl, rfl, ⟨_, _, rfl, rfl, rfl⟩⟩⟩⟩⟩⟩⟩⟩⟩⟩⟩⟩⟩) fall_no
theorem main_of {ns : List Int} (h : t_law_v38 ns = .ret true ()) : fn_law [.scr ns] = .ret (.bl true) [] := by
  have := (tr_law ns).go
  rw [h] at this
  exact this
end MV
theorem PySem.Challenge.cw_datelessrolls_k48_coat_counts_holds : PySem.Challenge.rw_datelessrolls_k48_coat_counts.Holds := by
  exact law_holds_of fun _ h => MV.main_of (MV.law_ok h)
