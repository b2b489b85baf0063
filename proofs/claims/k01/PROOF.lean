import PyProof.Rows.All
import Wide.All
import OpenK.AllK
import Wide.FinOn
import HandS.ForMost
import HandS.Exc
import HandS.ExcOwn
import HandS.Walk
import HandS.Zip
import HandS.Wide
import HandS.TupAny
import HandS.TupMul
import HandS.Style
import HandS.Deep
import HandS.Conv
import KE.GoesEnum
import KE.GoesMore
import HandS.TryOnly
import HandS.WordsExc
import PyProof.ReprRoads
import PyProof.CallFns
import HandS.Ends
import HandS.HeadEnd
import HandS.Defaults
import HandS.IsInst
import HandS.Codes
import HandS.HeadHook4
import HandS.FStrTup
import HandS.Head0
import HandS.Head1
import HandS.Head2
import KE.KStateDown
import Lean
import PySem.Challenge.RW_linearmapsaid_k01_whole_greatest_common
set_option Elab.async false
set_option linter.all false
set_option maxRecDepth 100000
set_option maxHeartbeats 2000000
namespace Fx
open PySem PySem.Spec PyProof.Rows L2

/-! ### data as values of the heap; F: the lists that are never written any more -/
/-- a list of ints that no one may write (the script): told as a dict of one odd key, so that no rule for lists takes it -/
def roK (ns : List Int) : List (PyData × PyData) := [(.none, .list (ns.map .int))]
def RoL (K : PySem.W.Frag) (H : Hp) (a : Addr) (xs : List V) : Prop := (∃ o, H a = some (.frz o (.lst xs))) ∨
  ∃ (o : Obj) (its : Array Value) (n : Nat), K.lookup a = some o ∧ o.cls = .type "list" ∧ o.dict = none ∧ o.data = .seq its n ∧ its.size ≤ sizeLine ∧ Vals xs its.toList
theorem RoL.sq {K : PySem.W.Frag} {H : Hp} {a : Addr} {xs : List V} (h : RoL K H a xs) : SqL K H a xs := by
  rcases h with ⟨o, h⟩ | h
  · exact .inl (.inr ⟨o, h⟩)
  · exact .inr h
mutual
def Dt (K : PySem.W.Frag) (H : Hp) (F : Addr → Prop) : PyData → V → Prop
  | .none, v => v = .non
  | .bool b, v => v = .bl b
  | .int i, v => v = .int i
  | .str x, v => v = .str x
  | .tuple ds, v => ∃ a vs, v = .ref a ∧ SqT K H a vs ∧ DtA K H F ds vs
  | .list ds, v => ∃ a vs, v = .ref a ∧ F a ∧ H a = some (.lst vs) ∧ DtA K H F ds vs
  | .dict kvs, v => ∃ a ns, kvs = roK ns ∧ v = .ref a ∧ RoL K H a (ns.map V.int)
def DtA (K : PySem.W.Frag) (H : Hp) (F : Addr → Prop) : List PyData → List V → Prop
  | [], vs => vs = []
  | d :: ds, vs => ∃ v r, vs = v :: r ∧ Dt K H F d v ∧ DtA K H F ds r
end
structure Gr (H : Hp) (F : Addr → Prop) (H' : Hp) (F' : Addr → Prop) : Prop where
  tup : ∀ a xs, H a = some (.tup xs) → H' a = some (.tup xs)
  frz : ∀ a o u, H a = some (.frz o u) → H' a = some (.frz o u)
  lst : ∀ a xs, F a → H a = some (.lst xs) → H' a = some (.lst xs)
  fz : ∀ a, F a → F' a
section
variable {K : PySem.W.Frag} {H H' H1 H2 : Hp} {F F' F1 F2 : Addr → Prop}
theorem Gr.refl : Gr H F H F := ⟨fun _ _ h => h, fun _ _ _ h => h, fun _ _ _ h => h, fun _ h => h⟩
theorem Gr.trans (a : Gr H F H1 F1) (b : Gr H1 F1 H2 F2) : Gr H F H2 F2 :=
  ⟨fun x xs h => b.tup x xs (a.tup x xs h), fun x o u h => b.frz x o u (a.frz x o u h), fun x xs f h => b.lst x xs (a.fz x f) (a.lst x xs f h), fun x f => b.fz x (a.fz x f)⟩
theorem Gr.sqT (g : Gr H F H' F') {a : Addr} {xs : List V} (h : SqT K H a xs) : SqT K H' a xs := by
  rcases h with (h | ⟨o, h⟩) | h
  · exact .inl (.inl (g.tup _ _ h))
  · exact .inl (.inr ⟨o, g.frz _ _ _ h⟩)
  · exact .inr h
theorem Gr.ro (g : Gr H F H' F') {a : Addr} {xs : List V} (h : RoL K H a xs) : RoL K H' a xs := by
  rcases h with ⟨o, h⟩ | h
  · exact .inl ⟨o, g.frz _ _ _ h⟩
  · exact .inr h
mutual
theorem Dt.mono (g : Gr H F H' F') : ∀ (d : PyData) (v : V), Dt K H F d v → Dt K H' F' d v
  | .none, _, h => h
  | .bool _, _, h => h
  | .int _, _, h => h
  | .str _, _, h => h
  | .tuple ds, v, h => by
    rw [Dt] at h ⊢
    obtain ⟨a, vs, e, s, r⟩ := h
    exact ⟨a, vs, e, g.sqT s, DtA.mono g ds vs r⟩
  | .list ds, v, h => by
    rw [Dt] at h ⊢
    obtain ⟨a, vs, e, f, s, r⟩ := h
    exact ⟨a, vs, e, g.fz _ f, g.lst _ _ f s, DtA.mono g ds vs r⟩
  | .dict _, _, h => by
    rw [Dt] at h ⊢
    obtain ⟨a, ns, e, f, r⟩ := h
    exact ⟨a, ns, e, f, g.ro r⟩
theorem DtA.mono (g : Gr H F H' F') : ∀ (ds : List PyData) (vs : List V), DtA K H F ds vs → DtA K H' F' ds vs
  | [], _, h => h
  | d :: ds, vs, h => by
    rw [DtA] at h ⊢
    obtain ⟨v, r, e, h1, h2⟩ := h
    exact ⟨v, r, e, Dt.mono g d v h1, DtA.mono g ds r h2⟩
end
mutual
theorem Dt.dp : ∀ (d : PyData) (v : V), d.hasDict = false → Dt K H F d v → Dp K H v d
  | .none, _, _, h => by rw [Dt] at h; subst h; exact .non
  | .bool _, _, _, h => by rw [Dt] at h; subst h; exact .bl _
  | .int _, _, _, h => by rw [Dt] at h; subst h; exact .int _
  | .str _, _, _, h => by rw [Dt] at h; subst h; exact .str _
  | .tuple ds, v, n, h => by
    rw [Dt] at h
    obtain ⟨a, vs, e, s, r⟩ := h
    subst e
    exact .tup s (DtA.dp ds vs (by unfold PyData.hasDict at n; exact n) r)
  | .list ds, v, n, h => by
    rw [Dt] at h
    obtain ⟨a, vs, e, f, s, r⟩ := h
    subst e
    exact .lst (SqL.of s) (DtA.dp ds vs (by unfold PyData.hasDict at n; exact n) r)
  | .dict _, _, n, _ => by unfold PyData.hasDict at n; cases n
theorem DtA.dp : ∀ (ds : List PyData) (vs : List V), PyData.hasDictAll ds = false → DtA K H F ds vs → DpAll K H vs ds
  | [], _, _, h => by rw [DtA] at h; subst h; exact .nil
  | d :: ds, vs, n, h => by
    rw [DtA] at h
    obtain ⟨v, r, e, h1, h2⟩ := h
    subst e
    unfold PyData.hasDictAll at n
    obtain ⟨n1, n2⟩ := Bool.or_eq_false_iff.mp n
    exact .cons (Dt.dp d v n1 h1) (DtA.dp ds r n2 h2)
end
theorem DtA.nil : DtA K H F [] [] := by rw [DtA]
theorem DtA.cons {d : PyData} {v : V} {ds : List PyData} {vs : List V} (h : Dt K H F d v) (t : DtA K H F ds vs) : DtA K H F (d :: ds) (v :: vs) := by
  rw [DtA]; exact ⟨v, vs, rfl, h, t⟩
theorem DtA.uncons {d : PyData} {v : V} {ds : List PyData} {vs : List V} (h : DtA K H F (d :: ds) (v :: vs)) : Dt K H F d v ∧ DtA K H F ds vs := by
  rw [DtA] at h
  obtain ⟨v', r, e, h1, h2⟩ := h
  cases e
  exact ⟨h1, h2⟩
theorem DtA.len : ∀ {ds : List PyData} {vs : List V}, DtA K H F ds vs → vs.length = ds.length
  | [], _, h => by rw [DtA] at h; subst h; rfl
  | d :: ds, vs, h => by
    rw [DtA] at h
    obtain ⟨v, r, e, _, h2⟩ := h
    subst e
    simp [DtA.len h2]
theorem DtA.get : ∀ {ds : List PyData} {vs : List V} {i : Nat} {d : PyData}, DtA K H F ds vs → ds[i]? = some d → ∃ v, vs[i]? = some v ∧ Dt K H F d v
  | [], _, i, d, _, e => by simp at e
  | d :: ds, vs, i, d', h, e => by
    rw [DtA] at h
    obtain ⟨v, r, q, h1, h2⟩ := h
    subst q
    cases i with
    | zero => simp at e; subst e; exact ⟨v, by simp, h1⟩
    | succ i => exact DtA.get (i := i) h2 (by simpa using e)
theorem DtA.getV : ∀ {ds : List PyData} {vs : List V} {i : Nat} {v : V}, DtA K H F ds vs → vs[i]? = some v → ∃ d, ds[i]? = some d ∧ Dt K H F d v
  | [], vs, i, v, h, e => by rw [DtA] at h; subst h; simp at e
  | d :: ds, vs, i, v', h, e => by
    rw [DtA] at h
    obtain ⟨v, r, q, h1, h2⟩ := h
    subst q
    cases i with
    | zero => simp at e; subst e; exact ⟨d, by simp, h1⟩
    | succ i => exact DtA.getV (i := i) h2 (by simpa using e)
theorem DtA.append : ∀ {ds es : List PyData} {vs ws : List V}, DtA K H F ds vs → DtA K H F es ws → DtA K H F (ds ++ es) (vs ++ ws)
  | [], _, vs, _, h, k => by rw [DtA] at h; subst h; exact k
  | d :: ds, es, vs, ws, h, k => by
    rw [DtA] at h
    obtain ⟨v, r, q, h1, h2⟩ := h
    subst q
    exact DtA.cons h1 (DtA.append h2 k)
theorem DtA.set {x : PyData} {v : V} (hx : Dt K H F x v) : ∀ {ds : List PyData} {vs : List V} (i : Nat), DtA K H F ds vs → DtA K H F (ds.set i x) (vs.set i v)
  | [], vs, i, h => by rw [DtA] at h; subst h; exact DtA.nil
  | d :: ds, vs, i, h => by
    rw [DtA] at h
    obtain ⟨v, r, q, h1, h2⟩ := h
    subst q
    cases i with
    | zero => exact DtA.cons hx h2
    | succ i => exact DtA.cons h1 (DtA.set hx i h2)
theorem DtA.take : ∀ {ds : List PyData} {vs : List V} (n : Nat), DtA K H F ds vs → DtA K H F (ds.take n) (vs.take n)
  | _, _, 0, _ => by simp; exact DtA.nil
  | [], vs, n + 1, h => by rw [DtA] at h; subst h; exact DtA.nil
  | d :: ds, vs, n + 1, h => by
    rw [DtA] at h
    obtain ⟨v, r, q, h1, h2⟩ := h
    subst q
    exact DtA.cons h1 (DtA.take n h2)
theorem DtA.drop : ∀ {ds : List PyData} {vs : List V} (n : Nat), DtA K H F ds vs → DtA K H F (ds.drop n) (vs.drop n)
  | _, _, 0, h => h
  | [], vs, n + 1, h => by rw [DtA] at h; subst h; exact DtA.nil
  | d :: ds, vs, n + 1, h => by
    rw [DtA] at h
    obtain ⟨v, r, q, h1, h2⟩ := h
    subst q
    exact DtA.drop n h2
theorem DtA.reverse : ∀ {ds : List PyData} {vs : List V}, DtA K H F ds vs → DtA K H F ds.reverse vs.reverse
  | [], vs, h => by rw [DtA] at h; subst h; exact DtA.nil
  | d :: ds, vs, h => by
    rw [DtA] at h
    obtain ⟨v, r, q, h1, h2⟩ := h
    subst q
    rw [List.reverse_cons, List.reverse_cons]
    exact DtA.append (DtA.reverse h2) (DtA.cons h1 DtA.nil)
theorem DtA.rep {ds : List PyData} {vs : List V} (h : DtA K H F ds vs) : ∀ k : Nat, DtA K H F (List.replicate k ds).flatten (List.replicate k vs).flatten
  | 0 => DtA.nil
  | k + 1 => by
    rw [List.replicate_succ, List.replicate_succ, List.flatten_cons, List.flatten_cons]
    exact DtA.append h (DtA.rep h k)
theorem DtA.ints : ∀ {ns : List Int} {vs : List V}, DtA K H F (ns.map PyData.int) vs → vs = ns.map V.int
  | [], vs, h => by simpa [DtA] using h
  | n :: ns, vs, h => by
    rw [List.map_cons, DtA] at h
    obtain ⟨v, r, q, h1, h2⟩ := h
    rw [Dt] at h1
    rw [q, h1, DtA.ints h2]; rfl
theorem DtA.bools : ∀ {ns : List Bool} {vs : List V}, DtA K H F (ns.map PyData.bool) vs → vs = ns.map V.bl
  | [], vs, h => by simpa [DtA] using h
  | n :: ns, vs, h => by
    rw [List.map_cons, DtA] at h
    obtain ⟨v, r, q, h1, h2⟩ := h
    rw [Dt] at h1
    rw [q, h1, DtA.bools h2]; rfl
theorem DtA.strs : ∀ {ns : List Str} {vs : List V}, DtA K H F (ns.map PyData.str) vs → vs = ns.map V.str
  | [], vs, h => by simpa [DtA] using h
  | n :: ns, vs, h => by
    rw [List.map_cons, DtA] at h
    obtain ⟨v, r, q, h1, h2⟩ := h
    rw [Dt] at h1
    rw [q, h1, DtA.strs h2]; rfl
theorem DtA.ofInts : ∀ (ns : List Int), DtA K H F (ns.map PyData.int) (ns.map V.int)
  | [] => DtA.nil
  | n :: ns => DtA.cons (by rw [Dt]) (DtA.ofInts ns)
end

/-! ### slots, results -/
inductive Sl where
  | val (d : PyData)
  | own (ds : List PyData)
  | brw (k : Nat) (ds : List PyData)
abbrev Rho := List (Option Sl)
def Sl.mut : Sl → Prop
  | .val _ => False
  | .own _ => True
  | .brw _ _ => True
inductive Rv where
  | val (d : PyData)
  | new (ds : List PyData)
def Rv.d : Rv → PyData
  | .val d => d
  | .new ds => .list ds
@[simp] theorem Rv.d_val (d : PyData) : (Rv.val d).d = d := rfl
@[simp] theorem Rv.d_new (ds : List PyData) : (Rv.new ds).d = .list ds := rfl
inductive Res (α : Type) where
  | ok (a : α) (ρ : Rho)
  | exc (c : Str) (d : PyData) (ρ : Rho)
  | bad
def M (α : Type) := Rho → Res α
namespace M
def pure {α : Type} (a : α) : M α := fun ρ => .ok a ρ
def bad {α : Type} : M α := fun _ => .bad
def bind {α β : Type} (m : M α) (f : α → M β) : M β := fun ρ => match m ρ with
  | .ok a ρ' => f a ρ'
  | .exc c d ρ' => .exc c d ρ'
  | .bad => .bad
def bindD {β : Type} (m : M Rv) (f : PyData → M β) : M β := M.bind m fun r => f r.d
end M
def wp {α : Type} (m : M α) (ρ : Rho) (Q : α → Rho → Prop) (E : Str → PyData → Rho → Prop) : Prop := match m ρ with
  | .ok a ρ' => Q a ρ'
  | .exc c d ρ' => E c d ρ'
  | .bad => False
section
variable {α β : Type} {m : M α} {f : α → M β} {ρ : Rho} {Q Q' : α → Rho → Prop} {R : β → Rho → Prop} {E : Str → PyData → Rho → Prop}
theorem wp_bind : wp (M.bind m f) ρ R E ↔ wp m ρ (fun a ρ' => wp (f a) ρ' R E) E := by
  unfold wp M.bind
  cases m ρ <;> simp
theorem wp_bindD {m : M Rv} {f : PyData → M β} : wp (M.bindD m f) ρ R E ↔ wp m ρ (fun a ρ' => wp (f a.d) ρ' R E) E := wp_bind
theorem wp_mono (h : wp m ρ Q E) (k : ∀ a ρ', Q a ρ' → Q' a ρ') : wp m ρ Q' E := by
  unfold wp at h ⊢
  split <;> simp_all
@[simp] theorem wp_pure {a : α} : wp (M.pure a) ρ Q E ↔ Q a ρ := Iff.rfl
@[simp] theorem wp_bad : wp (M.bad : M α) ρ Q E ↔ False := Iff.rfl
end

/-! ### the state -/
structure En where
  H0 : Hp
  F0 : Addr → Prop
  Ba : Nat → Option Addr
def En.B (C : En) (a : Addr) : Prop := ∃ k, C.Ba k = some a
def SlOk (K : PySem.W.Frag) (C : En) (H : Hp) (F : Addr → Prop) (v : V) : Sl → Prop
  | .val d => Dt K H F d v
  | .own ds => ∃ p vs, v = .ref p ∧ H p = some (.lst vs) ∧ DtA K H F ds vs ∧ ¬ F p ∧ C.H0 p = none
  | .brw k ds => ∃ p vs, v = .ref p ∧ H p = some (.lst vs) ∧ DtA K H F ds vs ∧ ¬ F p ∧ C.Ba k = some p
structure Ok (K : PySem.W.Frag) (C : En) (σ : L2.St) (H : Hp) (F : Addr → Prop) (ρ : Rho) : Prop where
  len : ρ.length = σ.length
  keep : ∀ a o, C.H0 a = some o → ¬ C.B a → H a = some o
  f0 : ∀ a, C.F0 a → F a
  fn : ∀ a, F a → C.F0 a ∨ C.H0 a = none
  fh : ∀ a, F a → H a ≠ none
  bh : ∀ a, C.B a → H a ≠ none ∧ C.H0 a ≠ none
  sl : ∀ (i : Nat) (s : Sl), ρ[i]? = some (some s) → ∃ v, σ[i]? = some (some v) ∧ SlOk K C H F v s
  inj : ∀ (i j : Nat) (s t : Sl) (p : Addr), ρ[i]? = some (some s) → ρ[j]? = some (some t) → s.mut → t.mut → σ[i]? = some (some (.ref p)) → σ[j]? = some (some (.ref p)) → i = j
def RvOk (K : PySem.W.Frag) (C : En) (σ : L2.St) (H : Hp) (F : Addr → Prop) (ρ : Rho) (v : V) : Rv → Prop
  | .val d => Dt K H F d v
  | .new ds => ∃ p vs, v = .ref p ∧ H p = some (.lst vs) ∧ DtA K H F ds vs ∧ ¬ F p ∧ C.H0 p = none ∧ ∀ (i : Nat) (s : Sl), ρ[i]? = some (some s) → s.mut → σ[i]? ≠ some (some (.ref p))
section
variable {K : PySem.W.Frag} {C : En} {σ : L2.St} {H H' : Hp} {F F' : Addr → Prop} {ρ : Rho}
theorem SlOk.addr {v : V} {s : Sl} (h : SlOk K C H F v s) (m : s.mut) : ∃ p vs, v = .ref p ∧ H p = some (.lst vs) ∧ ¬ F p := by
  cases s with
  | val d => exact m.elim
  | own ds => obtain ⟨p, vs, a, b, _, c, _⟩ := h; exact ⟨p, vs, a, b, c⟩
  | brw k ds => obtain ⟨p, vs, a, b, _, c, _⟩ := h; exact ⟨p, vs, a, b, c⟩
/-- the heap grows by what is new; slots as they were -/
theorem SlOk.mono {v : V} {s : Sl} (h : SlOk K C H F v s) (g : Gr H F H' F') (k : ∀ p vs, v = .ref p → s.mut → H p = some (.lst vs) → ¬ F p → H' p = some (.lst vs) ∧ ¬ F' p) : SlOk K C H' F' v s := by
  cases s with
  | val d => exact Dt.mono g d v h
  | own ds =>
    obtain ⟨p, vs, a, b, c, d, e⟩ := h
    obtain ⟨k1, k2⟩ := k p vs a trivial b d
    exact ⟨p, vs, a, k1, DtA.mono g ds vs c, k2, e⟩
  | brw k ds =>
    obtain ⟨p, vs, a, b, c, d, e⟩ := h
    obtain ⟨k1, k2⟩ := k p vs a trivial b d
    exact ⟨p, vs, a, k1, DtA.mono g ds vs c, k2, e⟩
theorem gr_new {p : Addr} {o : HO} (h : H p = none) : Gr H F (upd H p o) F :=
  ⟨fun a xs e => by rw [upd_ne (ne_of_none e h)]; exact e, fun a o u e => by rw [upd_ne (ne_of_none e h)]; exact e, fun a xs _ e => by rw [upd_ne (ne_of_none e h)]; exact e, fun _ f => f⟩
/-- a new object at p -/
theorem Ok.grow (ok : Ok K C σ H F ρ) {p : Addr} {o : HO} (h : H p = none) : Ok K C σ (upd H p o) F ρ where
  len := ok.len
  keep := fun a u e b => by rw [upd_ne (ne_of_none (ok.keep a u e b) h)]; exact ok.keep a u e b
  f0 := ok.f0
  fn := ok.fn
  bh := fun a b => by
    have := ok.bh a b
    by_cases e : a = p
    · subst e; exact absurd h this.1
    · rw [upd_ne e]; exact this
  fh := fun a f => by
    have := ok.fh a f
    by_cases e : a = p
    · subst e; exact absurd h this
    · rw [upd_ne e]; exact this
  sl := fun i s e => by
    obtain ⟨v, hv, hs⟩ := ok.sl i s e
    refine ⟨v, hv, hs.mono (gr_new h) fun q vs _ _ e1 e2 => ⟨?_, e2⟩⟩
    rw [upd_ne (ne_of_none e1 h)]; exact e1
  inj := ok.inj
theorem Ok.freshF (ok : Ok K C σ H F ρ) {p : Addr} (h : H p = none) : ¬ F p := fun f => ok.fh p f h
theorem Ok.fresh0 (ok : Ok K C σ H F ρ) {p : Addr} (h : H p = none) : C.H0 p = none := by
  cases e : C.H0 p with
  | none => rfl
  | some o =>
    by_cases b : C.B p
    · exact absurd h (ok.bh p b).1
    · have z := ok.keep p o e b
      rw [h] at z; cases z
theorem Ok.sname (ok : Ok K C σ H F ρ) {i : Nat} {s : Sl} (e : ρ[i]? = some (some s)) (m : s.mut) : ∃ p vs, σ[i]? = some (some (.ref p)) ∧ H p = some (.lst vs) ∧ ¬ F p := by
  obtain ⟨v, hv, hs⟩ := ok.sl i s e
  obtain ⟨p, vs, a, b, c⟩ := hs.addr m
  subst a
  exact ⟨p, vs, hv, b, c⟩
/-- what is new is in no slot -/
theorem Ok.notIn (ok : Ok K C σ H F ρ) {p : Addr} (h : H p = none) : ∀ (i : Nat) (s : Sl), ρ[i]? = some (some s) → s.mut → σ[i]? ≠ some (some (.ref p)) := fun i s e m z => by
  obtain ⟨q, vs, a, b, _⟩ := ok.sname e m
  rw [a] at z
  cases z
  rw [h] at b; cases b
/-- a new list -/
theorem Ok.newList (ok : Ok K C σ H F ρ) {p : Addr} {ds : List PyData} {vs : List V} (h : H p = none) (d : DtA K H F ds vs) :
    Ok K C σ (upd H p (.lst vs)) F ρ ∧ Gr H F (upd H p (.lst vs)) F ∧ RvOk K C σ (upd H p (.lst vs)) F ρ (.ref p) (.new ds) :=
  ⟨ok.grow h, gr_new h, p, vs, rfl, upd_same, DtA.mono (gr_new h) ds vs d, ok.freshF h, ok.fresh0 h, ok.notIn h⟩
/-- a new tuple -/
theorem Ok.newTup (ok : Ok K C σ H F ρ) {p : Addr} {ds : List PyData} {vs : List V} (h : H p = none) (d : DtA K H F ds vs) :
    Ok K C σ (upd H p (.tup vs)) F ρ ∧ Gr H F (upd H p (.tup vs)) F ∧ Dt K (upd H p (.tup vs)) F (.tuple ds) (.ref p) := by
  refine ⟨ok.grow h, gr_new h, ?_⟩
  rw [Dt]
  exact ⟨p, vs, rfl, SqT.of upd_same, DtA.mono (gr_new h) ds vs d⟩
/-- more lists are frozen -/
theorem gr_fz {p : Addr} : Gr H F H (fun a => F a ∨ a = p) := ⟨fun _ _ e => e, fun _ _ _ e => e, fun _ _ _ e => e, fun _ f => .inl f⟩
theorem Ok.fz1 (ok : Ok K C σ H F ρ) {p : Addr} (h : H p ≠ none) (h0 : C.H0 p = none) (hn : ∀ (i : Nat) (s : Sl), ρ[i]? = some (some s) → s.mut → σ[i]? ≠ some (some (.ref p))) : Ok K C σ H (fun a => F a ∨ a = p) ρ where
  len := ok.len
  keep := ok.keep
  f0 := fun a f => .inl (ok.f0 a f)
  fn := fun a f => by
    rcases f with f | f
    · exact ok.fn a f
    · subst f; exact .inr h0
  bh := ok.bh
  fh := fun a f => by
    rcases f with f | f
    · exact ok.fh a f
    · subst f; exact h
  sl := fun i s e => by
    obtain ⟨v, hv, hs⟩ := ok.sl i s e
    refine ⟨v, hv, hs.mono gr_fz fun q vs e1 m e2 e3 => ⟨e2, fun z => ?_⟩⟩
    rcases z with z | z
    · exact e3 z
    · subst z
      exact hn i s e m (by rw [hv, e1])
  inj := ok.inj
theorem Ok.freeze (ok : Ok K C σ H F ρ) {v : V} {r : Rv} (h : RvOk K C σ H F ρ v r) : ∃ F', Ok K C σ H F' ρ ∧ Gr H F H F' ∧ Dt K H F' r.d v := by
  cases r with
  | val d => exact ⟨F, ok, Gr.refl, h⟩
  | new ds =>
    obtain ⟨p, vs, e, hp, hd, hf, h0, hn⟩ := h
    refine ⟨fun a => F a ∨ a = p, ok.fz1 (by rw [hp]; intro z; cases z) h0 hn, gr_fz, ?_⟩
    show Dt K H _ (.list ds) v
    rw [Dt]
    exact ⟨p, vs, e, .inr rfl, hp, DtA.mono gr_fz ds vs hd⟩
/-- a slot of its own list is read as a value: from now on the list is frozen -/
theorem Ok.freezeSlot (ok : Ok K C σ H F ρ) {i : Nat} {ds : List PyData} {v : V} (e : ρ[i]? = some (some (.own ds))) (hv : σ[i]? = some (some v)) : ∃ F', Ok K C σ H F' (ρ.set i (some (.val (.list ds)))) ∧ Gr H F H F' ∧ Dt K H F' (.list ds) v := by
  obtain ⟨v', hv', p, vs, ev, hp, hd, hf, h0⟩ := ok.sl i _ e
  rw [hv] at hv'
  cases hv'
  subst ev
  have hlt : i < ρ.length := by
    rcases Nat.lt_or_ge i ρ.length with h | h
    · exact h
    · rw [List.getElem?_eq_none h] at e; cases e
  have ok1 : Ok K C σ H F (ρ.set i none) := by
    refine ⟨by rw [List.length_set]; exact ok.len, ok.keep, ok.f0, ok.fn, ok.fh, ok.bh, fun j s e => ?_, fun j k s t p e1 e2 => ?_⟩
    · by_cases h : i = j
      · subst h; rw [List.getElem?_set_self hlt] at e; cases e
      · rw [List.getElem?_set_ne h] at e; exact ok.sl j s e
    · have back : ∀ (j : Nat) (s : Sl), (ρ.set i none)[j]? = some (some s) → ρ[j]? = some (some s) := fun j s e => by
        by_cases h : i = j
        · subst h; rw [List.getElem?_set_self hlt] at e; cases e
        · rw [List.getElem?_set_ne h] at e; exact e
      exact ok.inj j k s t p (back _ _ e1) (back _ _ e2)
  have nin : ∀ (j : Nat) (s : Sl), (ρ.set i none)[j]? = some (some s) → s.mut → σ[j]? ≠ some (some (.ref p)) := fun j s e' m z => by
    by_cases h : i = j
    · subst h; rw [List.getElem?_set_self hlt] at e'; cases e'
    · rw [List.getElem?_set_ne h] at e'
      exact h (ok.inj i j _ s p e e' trivial m hv z)
  have ok2 := ok1.fz1 (p := p) (by rw [hp]; intro z; cases z) h0 nin
  have dt : Dt K H (fun a => F a ∨ a = p) (.list ds) (.ref p) := by
    rw [Dt]
    exact ⟨p, vs, rfl, .inr rfl, hp, DtA.mono gr_fz ds vs hd⟩
  refine ⟨_, ⟨by rw [List.length_set]; exact ok.len, ok2.keep, ok2.f0, ok2.fn, ok2.fh, ok2.bh, fun j s e => ?_, fun j k s t q e1 e2 m1 m2 => ?_⟩, gr_fz, dt⟩
  · by_cases h : i = j
    · subst h
      rw [List.getElem?_set_self hlt] at e
      cases e
      exact ⟨_, hv, dt⟩
    · rw [List.getElem?_set_ne h] at e
      exact ok2.sl j s (by rw [List.getElem?_set_ne h]; exact e)
  · have back : ∀ (j : Nat) (s : Sl), (ρ.set i (some (.val (.list ds))))[j]? = some (some s) → s.mut → (ρ.set i none)[j]? = some (some s) := fun j s e m => by
      by_cases h : i = j
      · subst h; rw [List.getElem?_set_self hlt] at e; cases e; exact m.elim
      · rw [List.getElem?_set_ne h] at e ⊢; exact e
    exact ok2.inj j k s t q (back _ _ e1 m1) (back _ _ e2 m2) m1 m2
/-- the slot i is stored -/
def Rv.sl : Rv → Sl
  | .val d => .val d
  | .new ds => .own ds
theorem Ok.store (ok : Ok K C σ H F ρ) {i : Nat} {v : V} {r : Rv} (h : RvOk K C σ H F ρ v r) : Ok K C (σ.set i (some v)) H F (ρ.set i (some r.sl)) := by
  have key : ∀ (j : Nat) (s : Sl), (ρ.set i (some r.sl))[j]? = some (some s) → (i = j ∧ s = r.sl ∧ (σ.set i (some v))[j]? = some (some v)) ∨ (i ≠ j ∧ ρ[j]? = some (some s) ∧ (σ.set i (some v))[j]? = σ[j]?) := fun j s e => by
    by_cases hj : i = j
    · subst hj
      by_cases hlt : i < ρ.length
      · rw [List.getElem?_set_self hlt] at e
        cases e
        exact .inl ⟨rfl, rfl, List.getElem?_set_self (by rw [← ok.len]; exact hlt)⟩
      · rw [List.getElem?_eq_none (by rw [List.length_set]; omega)] at e; cases e
    · rw [List.getElem?_set_ne hj] at e
      exact .inr ⟨hj, e, List.getElem?_set_ne hj⟩
  refine ⟨by rw [List.length_set, List.length_set]; exact ok.len, ok.keep, ok.f0, ok.fn, ok.fh, ok.bh, fun j s e => ?_, fun j k s t p e1 e2 m1 m2 h1 h2 => ?_⟩
  · rcases key j s e with ⟨rfl, rfl, z⟩ | ⟨_, e', z⟩
    · refine ⟨v, z, ?_⟩
      cases r with
      | val d => exact h
      | new ds => obtain ⟨p, vs, a, b, c, d, f, _⟩ := h; exact ⟨p, vs, a, b, c, d, f⟩
    · obtain ⟨w, hw, hs⟩ := ok.sl j s e'
      exact ⟨w, by rw [z]; exact hw, hs⟩
  · have nw : ∀ (j : Nat) (s : Sl), ρ[j]? = some (some s) → s.mut → r.sl.mut → v = .ref p → σ[j]? ≠ some (some (.ref p)) := fun j s e m mr ev => by
      cases r with
      | val d => exact mr.elim
      | new ds =>
        obtain ⟨p', vs, a, b, c, d, f, g⟩ := h
        rw [ev] at a
        cases a
        exact g j s e m
    rcases key j s e1 with ⟨rfl, rfl, z1⟩ | ⟨n1, e1', z1⟩
    · rcases key k t e2 with ⟨rfl, rfl, z2⟩ | ⟨n2, e2', z2⟩
      · rfl
      · rw [z1] at h1
        cases h1
        rw [z2] at h2
        exact absurd h2 (nw k t e2' m2 m1 rfl)
    · rcases key k t e2 with ⟨rfl, rfl, z2⟩ | ⟨n2, e2', z2⟩
      · rw [z2] at h2
        cases h2
        rw [z1] at h1
        exact absurd h1 (nw j s e1' m1 m2 rfl)
      · rw [z1] at h1
        rw [z2] at h2
        exact ok.inj j k s t p e1' e2' m1 m2 h1 h2
/-- a slot's list is written -/
def Sl.put : Sl → List PyData → Sl
  | .val d, _ => .val d
  | .own _, es => .own es
  | .brw k _, es => .brw k es
def Sl.ls : Sl → Option (List PyData)
  | .val (.list ds) => some ds
  | .val _ => none
  | .own ds => some ds
  | .brw _ ds => some ds
theorem gr_write {p : Addr} {vs ws : List V} (hp : H p = some (.lst vs)) (hf : ¬ F p) : Gr H F (upd H p (.lst ws)) F :=
  ⟨fun a xs e => by rw [upd_ne (ne_of e hp (by intro z; cases z))]; exact e, fun a o u e => by rw [upd_ne (ne_of e hp (by intro z; cases z))]; exact e,
    fun a xs f e => by rw [upd_ne (show a ≠ p from fun z => hf (by rw [← z]; exact f))]; exact e, fun _ f => f⟩
theorem Ok.write (ok : Ok K C σ H F ρ) {i : Nat} {s : Sl} {p : Addr} {es : List PyData} {ws : List V} (e : ρ[i]? = some (some s)) (m : s.mut) (hv : σ[i]? = some (some (.ref p))) (d : DtA K H F es ws) :
    Ok K C σ (upd H p (.lst ws)) F (ρ.set i (some (s.put es))) ∧ Gr H F (upd H p (.lst ws)) F := by
  obtain ⟨q, vs, z, hp, hf⟩ := ok.sname e m
  rw [hv] at z
  cases z
  have g : Gr H F (upd H p (.lst ws)) F := gr_write hp hf
  have hlt : i < ρ.length := by
    rcases Nat.lt_or_ge i ρ.length with h | h
    · exact h
    · rw [List.getElem?_eq_none h] at e; cases e
  have ne : ∀ a, H a = none → a ≠ p := fun a h z => by rw [z, hp] at h; cases h
  refine ⟨⟨by rw [List.length_set]; exact ok.len, fun a o h0 b => ?_, ok.f0, ok.fn, fun a f => ?_, fun a b => ?_, fun j t e' => ?_, fun j k t u r e1 e2 m1 m2 => ?_⟩, g⟩
  · have : a ≠ p := fun z => by
      subst z
      obtain ⟨v', hv', hs⟩ := ok.sl i s e
      rw [hv] at hv'
      cases hv'
      cases s with
      | val d => exact m
      | own ds => obtain ⟨p', vs', a1, _, _, _, a2⟩ := hs; cases a1; rw [h0] at a2; cases a2
      | brw k ds => obtain ⟨p', vs', a1, _, _, _, a2⟩ := hs; cases a1; exact b ⟨_, a2⟩
    rw [upd_ne this]; exact ok.keep a o h0 b
  · by_cases z : a = p
    · subst z; exact absurd f hf
    · rw [upd_ne z]; exact ok.fh a f
  · by_cases z : a = p
    · subst z; exact ⟨by (rw [upd_same]; intro z; cases z), (ok.bh _ b).2⟩
    · rw [upd_ne z]; exact ok.bh a b
  · by_cases h : i = j
    · subst h
      rw [List.getElem?_set_self hlt] at e'
      cases e'
      refine ⟨_, hv, ?_⟩
      obtain ⟨v', hv', hs⟩ := ok.sl i s e
      rw [hv] at hv'
      cases hv'
      cases s with
      | val d => exact m.elim
      | own ds => obtain ⟨p', vs', a1, _, _, a3, a2⟩ := hs; cases a1; exact ⟨p, ws, rfl, upd_same, DtA.mono g es ws d, hf, a2⟩
      | brw k ds => obtain ⟨p', vs', a1, _, _, a3, a2⟩ := hs; cases a1; exact ⟨p, ws, rfl, upd_same, DtA.mono g es ws d, hf, a2⟩
    · rw [List.getElem?_set_ne h] at e'
      obtain ⟨v', hv', hs⟩ := ok.sl j t e'
      refine ⟨v', hv', hs.mono g fun q' vs' ev m' h1 h2 => ⟨?_, h2⟩⟩
      rw [upd_ne ?_]; exact h1
      intro z
      rw [ev, z] at hv'
      exact h (ok.inj i j s t p e e' m m' hv hv')
  · have back : ∀ (j : Nat) (t : Sl), (ρ.set i (some (s.put es)))[j]? = some (some t) → ∃ u, ρ[j]? = some (some u) ∧ (t.mut → u.mut) := fun j t e => by
      by_cases h : i = j
      · subst h; rw [List.getElem?_set_self hlt] at e; exact ⟨s, by assumption, fun _ => m⟩
      · rw [List.getElem?_set_ne h] at e; exact ⟨t, e, id⟩
    obtain ⟨u1, b1, c1⟩ := back _ _ e1
    obtain ⟨u2, b2, c2⟩ := back _ _ e2
    exact ok.inj j k u1 u2 r b1 b2 (c1 m1) (c2 m2)
end
end Fx

set_option Elab.async false
set_option linter.all false
set_option maxRecDepth 100000
set_option maxHeartbeats 2000000
namespace Fx
open PySem PySem.Spec PyProof.Rows L2

/-! ### readings -/
section
variable (K : PySem.W.Frag) (mg : Str → Option Value) (C : En) (W : WX)
def ExcW (σ : L2.St) (c : Str) (d : PyData) (ρ' : Rho) : Prop :=
  ∀ (H' : Hp) (F' : Addr → Prop) (Cl a : Addr) (v : V), Ok K C σ H' F' ρ' → mg c = some (.ref Cl) → H' a = some (.xd [(("value" : Str), v)]) → Dt K H' F' d v → W (.ref Cl) (some a) σ H'
def tE (m : M Rv) : TE := fun σ H Q => ∃ F ρ, Ok K C σ H F ρ ∧ wp m ρ (fun r ρ' => ∀ v H' F', Ok K C σ H' F' ρ' → Gr H F H' F' → RvOk K C σ H' F' ρ' v r → Q v H') (ExcW K mg C W σ)
def tT (m : M Bool) : TT := fun σ H Q => ∃ F ρ, Ok K C σ H F ρ ∧ wp m ρ (fun b ρ' => ∀ H' F', Ok K C σ H' F' ρ' → Gr H F H' F' → Q b H') (ExcW K mg C W σ)
def tAs (m : M (List PyData)) : TA := fun σ H Q => ∃ F ρ, Ok K C σ H F ρ ∧ wp m ρ (fun ds ρ' => ∀ vs H' F', Ok K C σ H' F' ρ' → Gr H F H' F' → DtA K H' F' ds vs → Q vs H') (ExcW K mg C W σ)
/-- a datum that is looked at now: frozen, or a list as it stands -/
def Bd (H : Hp) (F : Addr → Prop) (d : PyData) (v : V) : Prop := Dt K H F d v ∨ ∃ p vs ds, d = .list ds ∧ v = .ref p ∧ H p = some (.lst vs) ∧ DtA K H F ds vs
def tBo (m : M PyData) : TE := fun σ H Q => ∃ F ρ, Ok K C σ H F ρ ∧ wp m ρ (fun d ρ' => ∀ v H' F', Ok K C σ H' F' ρ' → Gr H F H' F' → Bd K H' F' d v → Q v H') (ExcW K mg C W σ)
end
section
variable {X : Cx} {e : Expr} {t t' : TE}
theorem _root_.L2.PE.imp (h : PE X e t) (k : ∀ σ H Q, t' σ H Q → t σ H Q) : PE X e t' := ⟨fun pins s σ H Q I q => h.run pins s σ H Q I (k σ H Q q)⟩
theorem _root_.L2.PT.imp {t t' : TT} (h : PT X e t) (k : ∀ σ H Q, t' σ H Q → t σ H Q) : PT X e t' := ⟨fun pins s σ H Q I q => h.run pins s σ H Q I (k σ H Q q)⟩
theorem _root_.L2.PW.imp {t t' : TT} (h : PW X e t) (k : ∀ σ H Q, t' σ H Q → t σ H Q) : PW X e t' := ⟨fun w pins s σ H Q I q => h.run w pins s σ H Q I (k σ H Q q)⟩
theorem _root_.L2.PA.imp {es : List Expr} {t t' : TA} (h : PA X es t) (k : ∀ σ H Q, t' σ H Q → t σ H Q) : PA X es t' := ⟨fun p pins s σ H Q I q => h.run p pins s σ H Q I (k σ H Q q)⟩
theorem _root_.L2.PS.imp {st : Stmt} {t t' : TS} (h : PS X st t) (k : ∀ D σ H, t' D σ H → t D σ H) : PS X st t' := ⟨fun pins s σ H D I q => h.run pins s σ H D I (k D σ H q)⟩
theorem _root_.L2.PSs.imp {st : List Stmt} {t t' : TS} (h : PSs X st t) (k : ∀ D σ H, t' D σ H → t D σ H) : PSs X st t' := ⟨fun pins s σ H D I q => h.run pins s σ H D I (k D σ H q)⟩
end

/-! ### pure operations -/
def M.lift (o : Option Rv) : M Rv := fun ρ => match o with
  | some r => .ok r ρ
  | none => .bad
theorem wp_lift {o : Option Rv} {ρ : Rho} {Q : Rv → Rho → Prop} {E : Str → PyData → Rho → Prop} : wp (M.lift o) ρ Q E ↔ ∃ r, o = some r ∧ Q r ρ := by
  unfold wp M.lift
  cases o <;> simp
/-- f tells what the reading r does on data -/
def Pure2 (K : PySem.W.Frag) (r : R2) (f : PyData → PyData → Option Rv) : Prop :=
  ∀ (C : En) (σ : L2.St) (H : Hp) (F : Addr → Prop) (ρ : Rho) (x y : V) (a b : PyData) (z : Rv) (Q : VK), Ok K C σ H F ρ → Bd K H F a x → Bd K H F b y → f a b = some z →
    (∀ v H' F', Ok K C σ H' F' ρ → Gr H F H' F' → RvOk K C σ H' F' ρ v z → Q v H') → r x y H Q
def Pure1 (K : PySem.W.Frag) (r : V → Hp → VK → Prop) (f : PyData → Option Rv) : Prop :=
  ∀ (C : En) (σ : L2.St) (H : Hp) (F : Addr → Prop) (ρ : Rho) (x : V) (a : PyData) (z : Rv) (Q : VK), Ok K C σ H F ρ → Bd K H F a x → f a = some z →
    (∀ v H' F', Ok K C σ H' F' ρ → Gr H F H' F' → RvOk K C σ H' F' ρ v z → Q v H') → r x H Q
def PureC (K : PySem.W.Frag) (r : List V → Hp → VK → Prop) (f : List PyData → Option Rv) : Prop :=
  ∀ (C : En) (σ : L2.St) (H : Hp) (F : Addr → Prop) (ρ : Rho) (xs : List V) (as : List PyData) (z : Rv) (Q : VK), Ok K C σ H F ρ → DtA K H F as xs → f as = some z →
    (∀ v H' F', Ok K C σ H' F' ρ → Gr H F H' F' → RvOk K C σ H' F' ρ v z → Q v H') → r xs H Q
/-- a call of one argument that is looked at -/
def PureC1 (K : PySem.W.Frag) (r : List V → Hp → VK → Prop) (f : PyData → Option Rv) : Prop :=
  ∀ (C : En) (σ : L2.St) (H : Hp) (F : Addr → Prop) (ρ : Rho) (x : V) (a : PyData) (z : Rv) (Q : VK), Ok K C σ H F ρ → Bd K H F a x → f a = some z →
    (∀ v H' F', Ok K C σ H' F' ρ → Gr H F H' F' → RvOk K C σ H' F' ρ v z → Q v H') → r [x] H Q
section
variable {K : PySem.W.Frag} {H : Hp} {F : Addr → Prop} {v : V}
theorem Bd.int {i : Int} (h : Bd K H F (.int i) v) : v = .int i := by
  rcases h with h | ⟨_, _, _, e, _⟩
  · rw [Dt] at h; exact h
  · cases e
theorem Bd.bool {i : Bool} (h : Bd K H F (.bool i) v) : v = .bl i := by
  rcases h with h | ⟨_, _, _, e, _⟩
  · rw [Dt] at h; exact h
  · cases e
theorem Bd.str {i : Str} (h : Bd K H F (.str i) v) : v = .str i := by
  rcases h with h | ⟨_, _, _, e, _⟩
  · rw [Dt] at h; exact h
  · cases e
theorem Bd.none (h : Bd K H F .none v) : v = .non := by
  rcases h with h | ⟨_, _, _, e, _⟩
  · rw [Dt] at h; exact h
  · cases e
theorem Bd.list {ds : List PyData} (h : Bd K H F (.list ds) v) : ∃ p vs, v = .ref p ∧ H p = some (.lst vs) ∧ DtA K H F ds vs := by
  rcases h with h | ⟨p, vs, ds', e, a, b, c⟩
  · rw [Dt] at h; obtain ⟨p, vs, a, _, b, c⟩ := h; exact ⟨p, vs, a, b, c⟩
  · cases e; exact ⟨p, vs, a, b, c⟩
theorem Bd.ro {ds : List PyData} (h : Bd K H F (.dict [(.none, .list ds)]) v) : ∃ p vs, v = .ref p ∧ SqL K H p vs ∧ DtA K H F ds vs := by
  rcases h with h | ⟨p, vs, ds', e, _⟩
  · rw [Dt] at h
    obtain ⟨a, ns, e, f, r⟩ := h
    have e : ds = ns.map PyData.int := by unfold roK at e; simpa using e
    subst e
    exact ⟨a, _, f, r.sq, DtA.ofInts ns⟩
  · cases e
theorem Bd.tuple {ds : List PyData} (h : Bd K H F (.tuple ds) v) : ∃ p vs, v = .ref p ∧ SqT K H p vs ∧ DtA K H F ds vs := by
  rcases h with h | ⟨p, vs, ds', e, _⟩
  · rw [Dt] at h; exact h
  · cases e
theorem Bd.dp {d : PyData} (h : Bd K H F d v) (n : d.hasDict = false) : Dp K H v d := by
  rcases h with h | ⟨p, vs, ds, e, a, b, c⟩
  · exact Dt.dp d v n h
  · subst e a; exact .lst (SqL.of b) (DtA.dp ds vs (by unfold PyData.hasDict at n; exact n) c)
theorem Bd.of {d : PyData} (h : Dt K H F d v) : Bd K H F d v := .inl h
theorem Pure2.or {r r' : R2} {f g : PyData → PyData → Option Rv} (h : Pure2 K r f) (h' : Pure2 K r' g) : Pure2 K (fun x y H Q => r x y H Q ∨ r' x y H Q) (fun a b => (f a b).or (g a b)) := fun C σ H F ρ x y a b z Q ok dx dy e q => by
  cases hf : f a b with
  | some z' =>
    simp only [hf, Option.or_some] at e
    cases e
    exact .inl (h C σ H F ρ x y a b z Q ok dx dy hf q)
  | none =>
    simp only [hf, Option.none_or] at e
    exact .inr (h' C σ H F ρ x y a b z Q ok dx dy e q)
theorem PureC1.or {r r' : List V → Hp → VK → Prop} {f g : PyData → Option Rv} (h : PureC1 K r f) (h' : PureC1 K r' g) : PureC1 K (fun x H Q => r x H Q ∨ r' x H Q) (fun a => (f a).or (g a)) := fun C σ H F ρ x a z Q ok dx e q => by
  cases hf : f a with
  | some z' =>
    simp only [hf, Option.or_some] at e
    cases e
    exact .inl (h C σ H F ρ x a z Q ok dx hf q)
  | none =>
    simp only [hf, Option.none_or] at e
    exact .inr (h' C σ H F ρ x a z Q ok dx e q)
/-- the heap as it was -/
theorem same {C : En} {σ : L2.St} {ρ : Rho} {Q : VK} {d : PyData} (ok : Ok K C σ H F ρ) (h : Dt K H F d v) (q : ∀ v H' F', Ok K C σ H' F' ρ → Gr H F H' F' → RvOk K C σ H' F' ρ v (.val d) → Q v H') : Q v H := q v H F ok Gr.refl h
theorem dInt {i : Int} : Dt K H F (.int i) (.int i) := by rw [Dt]
theorem dBool {i : Bool} : Dt K H F (.bool i) (.bl i) := by rw [Dt]
theorem dStr {i : Str} : Dt K H F (.str i) (.str i) := by rw [Dt]
theorem dNone : Dt K H F .none .non := by rw [Dt]

/-! ints -/
def intO (c : Int → Int → Bool) (g : Int → Int → Int) : PyData → PyData → Option Rv
  | .int i, .int j => if c i j then some (.val (.int (g i j))) else none
  | _, _ => none
theorem pure_rI {P : Int → Int → Prop} {c : Int → Int → Bool} {g : Int → Int → Int} (hc : ∀ i j, c i j = true → P i j) : Pure2 K (rI P fun i j => .int (g i j)) (intO c g) := fun C σ H F ρ x y a b z Q ok dx dy e q => by
  unfold intO at e
  split at e
  · rename_i i j
    split at e
    · rename_i hcc
      cases e
      exact ⟨i, j, dx.int, dy.int, hc _ _ hcc, same ok dInt q⟩
    · cases e
  · cases e
def yes2 : Int → Int → Bool := fun _ _ => true
theorem pure_rI0 {g : Int → Int → Int} : Pure2 K (rI0 fun i j => .int (g i j)) (intO yes2 g) := fun C σ H F ρ x y a b z Q ok dx dy e q => by
  unfold intO at e
  split at e
  · rename_i i j
    simp only [yes2, if_true] at e
    cases e
    exact ⟨i, j, dx.int, dy.int, same ok dInt q⟩
  · cases e
def boolO (g : Int → Int → Bool) : PyData → PyData → Option Rv
  | .int i, .int j => some (.val (.bool (g i j)))
  | _, _ => none
theorem pure_rIB {g : Int → Int → Bool} : Pure2 K (rI0 fun i j => .bl (g i j)) (boolO g) := fun C σ H F ρ x y a b z Q ok dx dy e q => by
  unfold boolO at e
  split at e
  · rename_i i j
    cases e
    exact ⟨i, j, dx.int, dy.int, same ok dBool q⟩
  · cases e
/-! texts -/
def catS : PyData → PyData → Option Rv
  | .str i, .str j => if i.length + j.length ≤ sizeLine then some (.val (.str (i ++ j))) else none
  | _, _ => none
theorem pure_catS : Pure2 K (fun x y H Q => ∃ i j, x = .str i ∧ y = .str j ∧ i.length + j.length ≤ sizeLine ∧ Q (.str (i ++ j)) H) catS := fun C σ H F ρ x y a b z Q ok dx dy e q => by
  unfold catS at e
  split at e
  · rename_i i j
    split at e
    · rename_i hl
      cases e
      exact ⟨i, j, dx.str, dy.str, hl, same ok dStr q⟩
    · cases e
  · cases e
/-! lists, tuples -/
def catL : PyData → PyData → Option Rv
  | .list i, .list j => if i.length + j.length ≤ sizeLine then some (.new (i ++ j)) else none
  | _, _ => none
theorem pure_catL : Pure2 K rCat catL := fun C σ H F ρ x y a b z Q ok dx dy e q => by
  unfold catL at e
  split at e
  · rename_i i j
    split at e
    · rename_i hl
      cases e
      obtain ⟨p, vs, e1, h1, d1⟩ := dx.list
      obtain ⟨p', vs', e2, h2, d2⟩ := dy.list
      refine ⟨p, p', vs, vs', e1, e2, h1, h2, by rw [d1.len, d2.len]; exact hl, fun l hn => ?_⟩
      obtain ⟨o, g, r⟩ := ok.newList hn (d1.append d2)
      exact q _ _ _ o g r
    · cases e
  · cases e
def catT : PyData → PyData → Option Rv
  | .tuple i, .tuple j => if i.length + j.length ≤ sizeLine then some (.val (.tuple (i ++ j))) else none
  | _, _ => none
def repL : PyData → PyData → Option Rv
  | .list i, .int k => if -(2 ^ 63) ≤ k ∧ k < 2 ^ 63 ∧ i.length * k.toNat ≤ sizeLine then some (.new (List.replicate k.toNat i).flatten) else none
  | _, _ => none
theorem pure_repL : Pure2 K rRep repL := fun C σ H F ρ x y a b z Q ok dx dy e q => by
  unfold repL at e
  split at e
  · rename_i i k
    split at e
    · rename_i hl
      cases e
      obtain ⟨p, vs, e1, h1, d1⟩ := dx.list
      refine ⟨p, k, vs, e1, dy.int, h1, hl.1, hl.2.1, by rw [d1.len]; exact hl.2.2, fun l hn => ?_⟩
      obtain ⟨o, g, r⟩ := ok.newList hn (d1.rep k.toNat)
      exact q _ _ _ o g r
    · cases e
  · cases e

theorem pure_catT : Pure2 K (rCatA K) catT := fun C σ H F ρ x y a b z Q ok dx dy e q => by
  unfold catT at e
  split at e
  · rename_i i j
    split at e
    · rename_i hl
      cases e
      obtain ⟨p, vs, e1, h1, d1⟩ := dx.tuple
      obtain ⟨p', vs', e2, h2, d2⟩ := dy.tuple
      refine ⟨p, p', vs, vs', e1, e2, h1, h2, by rw [d1.len, d2.len]; exact hl, fun z => ?_, fun _ z => ?_, fun _ _ l hn => ?_⟩
      · subst z
        have : i = [] := by
          have := d1.len
          exact List.eq_nil_of_length_eq_zero (by simpa using this.symm)
        subst this
        refine same ok ?_ q
        rw [Dt]; exact ⟨p', vs', rfl, h2, d2⟩
      · subst z
        have : j = [] := by
          have := d2.len
          exact List.eq_nil_of_length_eq_zero (by simpa using this.symm)
        subst this
        rw [List.append_nil] at q
        refine same ok ?_ q
        rw [Dt]; exact ⟨p, vs, rfl, h1, d1⟩
      · obtain ⟨o, g, r⟩ := ok.newTup hn (d1.append d2)
        exact q _ _ _ o g r
    · cases e
  · cases e
def repT : PyData → PyData → Option Rv
  | .tuple i, .int k => if i.length ≠ 0 ∧ 2 ≤ k ∧ k ≤ 1000 ∧ i.length ≤ 1000 then some (.val (.tuple (List.replicate k.toNat i).flatten)) else none
  | _, _ => none
theorem pure_repT : Pure2 K (rRepT K) repT := fun C σ H F ρ x y a b z Q ok dx dy e q => by
  unfold repT at e
  split at e
  · rename_i i k
    split at e
    · rename_i hl
      cases e
      obtain ⟨p, vs, e1, h1, d1⟩ := dx.tuple
      refine ⟨p, k, vs, e1, dy.int, h1, fun z => ?_, hl.2.1, hl.2.2.1, by rw [d1.len]; exact hl.2.2.2, fun l hn => ?_⟩
      · subst z; exact hl.1 (by have := d1.len; simpa using this.symm)
      · obtain ⟨o, g, r⟩ := ok.newTup hn (d1.rep k.toNat)
        exact q _ _ _ o g r
    · cases e
  · cases e
/-! comparisons of data -/
def okD (d : PyData) : Bool := SeqAt.shaped d && !d.hasDict
theorem okD_sh {d : PyData} (h : okD d = true) : SeqAt.shaped d = true := (Bool.and_eq_true_iff.mp h).1
theorem okD_nd {d : PyData} (h : okD d = true) : d.hasDict = false := by have := (Bool.and_eq_true_iff.mp h).2; simpa using this
def eqO (a b : PyData) : Option Rv := if okD a = true ∧ okD b = true then some (.val (.bool (PyData.eqv a b))) else none
def neO (a b : PyData) : Option Rv := if okD a = true ∧ okD b = true then some (.val (.bool (!PyData.eqv a b))) else none
theorem pure_eq : Pure2 K (rEqD K) eqO := fun C σ H F ρ x y a b z Q ok dx dy e q => by
  unfold eqO at e
  split at e
  · rename_i h
    cases e
    exact ⟨a, b, dx.dp (okD_nd h.1), dy.dp (okD_nd h.2), okD_sh h.1, okD_sh h.2, same ok dBool q⟩
  · cases e
theorem pure_ne : Pure2 K (rNeD K) neO := fun C σ H F ρ x y a b z Q ok dx dy e q => by
  unfold neO at e
  split at e
  · rename_i h
    cases e
    exact ⟨a, b, dx.dp (okD_nd h.1), dy.dp (okD_nd h.2), okD_sh h.1, okD_sh h.2, same ok dBool q⟩
  · cases e
def inLO (neg : Bool) : PyData → PyData → Option Rv
  | d, .list ds => if okD d = true ∧ okD (.list ds) = true then some (.val (.bool (if neg then !ds.any (fun z => PyData.eqv z d) else ds.any fun z => PyData.eqv z d))) else none
  | _, _ => none
theorem pure_inL : Pure2 K (rInD K) (inLO false) := fun C σ H F ρ x y a b z Q ok dx dy e q => by
  unfold inLO at e
  split at e
  · rename_i d ds
    split at e
    · rename_i h
      cases e
      exact ⟨a, ds, dx.dp (okD_nd h.1), dy.dp (okD_nd h.2), okD_sh h.1, okD_sh h.2, same ok dBool q⟩
    · cases e
  · cases e
theorem pure_notInL : Pure2 K (rNotInD K) (inLO true) := fun C σ H F ρ x y a b z Q ok dx dy e q => by
  unfold inLO at e
  split at e
  · rename_i d ds
    split at e
    · rename_i h
      cases e
      exact ⟨a, ds, dx.dp (okD_nd h.1), dy.dp (okD_nd h.2), okD_sh h.1, okD_sh h.2, same ok dBool q⟩
    · cases e
  · cases e
/-- flat data -/
def flatD : PyData → Bool
  | .none => true
  | .bool _ => true
  | .int _ => true
  | .str _ => true
  | _ => false
theorem flat_of {d : PyData} {v : V} (h : Dt K H F d v) (f : flatD d = true) : flatV v = true := by
  cases d <;> simp [flatD] at f <;> (rw [Dt] at h; subst h; rfl)
theorem flats_of : ∀ {ds : List PyData} {vs : List V}, DtA K H F ds vs → ds.all flatD = true → vs.all flatV = true
  | [], vs, h, _ => by rw [DtA] at h; subst h; rfl
  | d :: ds, vs, h, f => by
    rw [DtA] at h
    obtain ⟨v, r, e, h1, h2⟩ := h
    subst e
    rw [List.all_cons, Bool.and_eq_true] at f ⊢
    exact ⟨flat_of h1 f.1, flats_of h2 f.2⟩
theorem eqV_of {d e : PyData} {v u : V} (h : Dt K H F d v) (h' : Dt K H F e u) (f : flatD d = true) (f' : flatD e = true) : eqV v u = PyData.eqv d e := by
  cases d <;> simp [flatD] at f <;> cases e <;> simp [flatD] at f' <;> (simp only [Dt] at h h'; subst h h'; simp [eqV, PyData.eqv])

def inTO (neg : Bool) : PyData → PyData → Option Rv
  | d, .tuple ds => if flatD d = true ∧ ds.all flatD = true then some (.val (.bool (if neg then !ds.any (fun z => PyData.eqv z d) else ds.any fun z => PyData.eqv z d))) else none
  | _, _ => none
theorem inV_of {d : PyData} {v : V} (h : Dt K H F d v) (f : flatD d = true) : ∀ {ds : List PyData} {vs : List V}, DtA K H F ds vs → ds.all flatD = true → inV v vs = ds.any fun z => PyData.eqv z d
  | [], vs, h, _ => by rw [DtA] at h; subst h; rfl
  | e :: ds, vs, h', f' => by
    rw [DtA] at h'
    obtain ⟨w, r, e, h1, h2⟩ := h'
    subst e
    rw [List.all_cons, Bool.and_eq_true] at f'
    unfold inV
    rw [List.any_cons, List.any_cons, eqV_of h1 h f'.1 f]
    have := inV_of h f h2 f'.2
    unfold inV at this
    rw [this]
theorem Bd.flat {d : PyData} {v : V} (h : Bd K H F d v) (f : flatD d = true) : Dt K H F d v := by
  rcases h with h | ⟨p, vs, ds, e, _⟩
  · exact h
  · subst e; cases f
theorem pure_inT {neg : Bool} : Pure2 K (rIn K neg) (inTO neg) := fun C σ H F ρ x y a b z Q ok dx dy e q => by
  unfold inTO at e
  split at e
  · rename_i d ds
    split at e
    · rename_i h
      cases e
      obtain ⟨p, vs, e1, h1, d1⟩ := dy.tuple
      have dx' := dx.flat h.1
      refine ⟨p, vs, e1, .inr h1, flat_of dx' h.1, flats_of d1 h.2, ?_⟩
      rw [inV_of dx' h.1 d1 h.2]
      exact same ok dBool q
    · cases e
  · cases e
/-- s in t, texts -/
def inSO (neg : Bool) : PyData → PyData → Option Rv
  | .str i, .str j => some (.val (.bool (if neg then !(!(Builtin.Str.occurrences j i 0 j.length 1).isEmpty) else !(Builtin.Str.occurrences j i 0 j.length 1).isEmpty)))
  | _, _ => none
theorem pure_inS : Pure2 K (fun x y H Q => ∃ i j, x = .str i ∧ y = .str j ∧ Q (.bl (!(Builtin.Str.occurrences j i 0 j.length 1).isEmpty)) H) (inSO false) := fun C σ H F ρ x y a b z Q ok dx dy e q => by
  unfold inSO at e
  split at e
  · rename_i i j
    cases e
    exact ⟨i, j, dx.str, dy.str, same ok dBool q⟩
  · cases e
theorem pure_notInS : Pure2 K (fun x y H Q => ∃ i j, x = .str i ∧ y = .str j ∧ Q (.bl (!(!(Builtin.Str.occurrences j i 0 j.length 1).isEmpty))) H) (inSO true) := fun C σ H F ρ x y a b z Q ok dx dy e q => by
  unfold inSO at e
  split at e
  · rename_i i j
    cases e
    exact ⟨i, j, dx.str, dy.str, same ok dBool q⟩
  · cases e
def isNoneD : PyData → Bool
  | .none => true
  | _ => false
theorem isNone_of {d : PyData} {v : V} (h : Bd K H F d v) : decide (v = .non) = isNoneD d := by
  cases d with
  | none => rw [h.none]; rfl
  | bool b => rw [h.bool]; rfl
  | int b => rw [h.int]; rfl
  | str b => rw [h.str]; rfl
  | list ds => obtain ⟨p, vs, e, _⟩ := h.list; rw [e]; rfl
  | tuple ds => obtain ⟨p, vs, e, _⟩ := h.tuple; rw [e]; rfl
  | dict ds =>
    rcases h with h | ⟨p, vs, ds, e, _⟩
    · rw [Dt] at h; obtain ⟨a, ns, _, e, _⟩ := h; rw [e]; rfl
    · cases e
def isNO (neg : Bool) : PyData → PyData → Option Rv
  | d, .none => some (.val (.bool (if neg then !isNoneD d else isNoneD d)))
  | _, _ => none
theorem pure_isN : Pure2 K (fun x y H Q => y = .non ∧ Q (.bl (decide (x = .non))) H) (isNO false) := fun C σ H F ρ x y a b z Q ok dx dy e q => by
  unfold isNO at e
  split at e
  · cases e
    refine ⟨dy.none, ?_⟩
    rw [isNone_of dx]
    exact same ok dBool q
  · cases e
theorem pure_notN : Pure2 K (fun x y H Q => y = .non ∧ Q (.bl (!decide (x = .non))) H) (isNO true) := fun C σ H F ρ x y a b z Q ok dx dy e q => by
  unfold isNO at e
  split at e
  · cases e
    refine ⟨dy.none, ?_⟩
    rw [isNone_of dx]
    exact same ok dBool q
  · cases e
def isBO (neg : Bool) : PyData → PyData → Option Rv
  | .bool a, .bool b => some (.val (.bool (if neg then !(a == b) else a == b)))
  | _, _ => none
theorem dec_bb (a b : Bool) : decide (a = b) = (a == b) := by cases a <;> cases b <;> rfl
theorem pure_isB : Pure2 K rIsB (isBO false) := fun C σ H F ρ x y a b z Q ok dx dy e q => by
  unfold isBO at e
  split at e
  · rename_i i j
    cases e
    refine ⟨i, j, dx.bool, dy.bool, ?_⟩
    rw [dec_bb]
    exact same ok dBool q
  · cases e
theorem pure_notB : Pure2 K rNotB (isBO true) := fun C σ H F ρ x y a b z Q ok dx dy e q => by
  unfold isBO at e
  split at e
  · rename_i i j
    cases e
    refine ⟨i, j, dx.bool, dy.bool, ?_⟩
    rw [dec_bb]
    exact same ok dBool q
  · cases e
/-! items, slices -/
def getO : PyData → PyData → Option Rv
  | .list ds, .int i => (atI ds i).map .val
  | .tuple ds, .int i => (atI ds i).map .val
  | .str z, .int i => if z.length ≤ sizeLine then (atI z.cps.toList i).map fun c => .val (.str ⟨#[c]⟩) else none
  | .dict [(.none, .list ds)], .int i => (atI ds i).map .val
  | _, _ => none
theorem atI_of {ds : List PyData} {vs : List V} (h : DtA K H F ds vs) {i : Int} {d : PyData} (e : atI ds i = some d) : ∃ v, atI vs i = some v ∧ Dt K H F d v := by
  unfold atI at e ⊢
  rw [h.len]
  cases hx : ixN ds.length i with
  | none => rw [hx] at e; cases e
  | some j =>
    rw [hx] at e
    exact h.get (i := j) e
theorem pure_get : Pure2 K (rIx K) getO := fun C σ H F ρ x y a b z Q ok dx dy e q => by
  unfold getO at e
  split at e
  · rename_i ds i
    obtain ⟨d, hd, ez⟩ := Option.map_eq_some_iff.mp e
    subst ez
    obtain ⟨p, vs, e1, h1, d1⟩ := dx.list
    obtain ⟨v, hv, dv⟩ := atI_of d1 hd
    exact .inl ⟨p, vs, i, v, e1, dy.int, SqL.of h1, hv, same ok dv q⟩
  · rename_i ds i
    obtain ⟨d, hd, ez⟩ := Option.map_eq_some_iff.mp e
    subst ez
    obtain ⟨p, vs, e1, h1, d1⟩ := dx.tuple
    obtain ⟨v, hv, dv⟩ := atI_of d1 hd
    exact .inr (.inl ⟨p, vs, i, v, e1, dy.int, h1, hv, same ok dv q⟩)
  · rename_i s i
    split at e
    · rename_i hl
      obtain ⟨d, hd, ez⟩ := Option.map_eq_some_iff.mp e
      subst ez
      exact .inr (.inr ⟨s, i, d, dx.str, dy.int, hl, hd, same ok dStr q⟩)
    · cases e
  · rename_i ds i
    obtain ⟨d, hd, ez⟩ := Option.map_eq_some_iff.mp e
    subst ez
    obtain ⟨p, vs, e1, h1, d1⟩ := dx.ro
    obtain ⟨v, hv, dv⟩ := atI_of d1 hd
    exact .inl ⟨p, vs, i, v, e1, dy.int, h1, hv, same ok dv q⟩
  · cases e
def cutD (xs : List PyData) (lo hi : Option Int) : List PyData := (xs.drop (HT.sIx xs.length 0 lo)).take (HT.sIx xs.length xs.length hi - HT.sIx xs.length 0 lo)
theorem cut_of {ds : List PyData} {vs : List V} (h : DtA K H F ds vs) (lo hi : Option Int) : DtA K H F (cutD ds lo hi) (cutV vs lo hi) := by
  unfold cutD cutV
  rw [h.len]
  exact (h.drop _).take _
def sliceO (lo hi : Option Int) : PyData → Option Rv
  | .list ds => some (.new (cutD ds lo hi))
  | .tuple ds => some (.val (.tuple (cutD ds lo hi)))
  | .str z => if z.length ≤ sizeLine then some (.val (.str (cutS z lo hi))) else none
  | .dict [(.none, .list ds)] => some (.new (cutD ds lo hi))
  | _ => none
abbrev rSlAll (K : PySem.W.Frag) : V → Option Int → Option Int → Hp → VK → Prop := fun x lo hi H Q => (rSlL K x lo hi H Q ∨ rSlA K x lo hi H Q) ∨ rSlS x lo hi H Q
theorem pure_slice {lo hi : Option Int} : Pure1 K (fun x H Q => rSlAll K x lo hi H Q) (sliceO lo hi) := fun C σ H F ρ x a z Q ok dx e q => by
  unfold sliceO at e
  split at e
  · rename_i ds
    cases e
    obtain ⟨p, vs, e1, h1, d1⟩ := dx.list
    refine .inl (.inl ⟨p, vs, e1, SqL.of h1, fun l hn => ?_⟩)
    obtain ⟨o, g, r⟩ := ok.newList hn (cut_of d1 lo hi)
    exact q _ _ _ o g r
  · rename_i ds
    cases e
    obtain ⟨p, vs, e1, h1, d1⟩ := dx.tuple
    refine .inl (.inr ⟨p, vs, e1, h1, fun z => ?_, fun _ l hn => ?_⟩)
    · have e2 : cutV vs lo hi = vs := by unfold cutV; rw [z.1, z.2]; simp
      refine same ok ?_ q
      rw [Dt]
      have := cut_of d1 lo hi
      rw [e2] at this
      subst e1
      exact ⟨p, vs, rfl, h1, this⟩
    · obtain ⟨o, g, r⟩ := ok.newTup hn (cut_of d1 lo hi)
      exact q _ _ _ o g r
  · rename_i s
    split at e
    · rename_i hl
      cases e
      exact .inr ⟨s, dx.str, hl, same ok dStr q⟩
    · cases e
  · rename_i ds
    cases e
    obtain ⟨p, vs, e1, h1, d1⟩ := dx.ro
    refine .inl (.inl ⟨p, vs, e1, h1, fun l hn => ?_⟩)
    obtain ⟨o, g, r⟩ := ok.newList hn (cut_of d1 lo hi)
    exact q _ _ _ o g r
  · cases e
/-! truth -/
def truD : PyData → Option Bool
  | .none => some false
  | .bool b => some b
  | .int i => some (i != 0)
  | .str s => if s.length ≤ sizeLine then some ((s.length : Int) != 0) else none
  | .list ds => some (!ds.isEmpty)
  | .tuple ds => some (!ds.isEmpty)
  | .dict _ => none
theorem DtA.emp {ds : List PyData} {vs : List V} (h : DtA K H F ds vs) : vs.isEmpty = ds.isEmpty := by
  have := h.len
  cases ds <;> cases vs <;> simp at this <;> rfl
theorem tru_of {d : PyData} {v : V} {k : Bool} (h : Bd K H F d v) (e : truD d = some k) : TruV K v H k := by
  cases d with
  | none => rw [h.none]; cases e; rfl
  | bool b => rw [h.bool]; cases e; rfl
  | int b => rw [h.int]; cases e; rfl
  | str b =>
    rw [h.str]
    have e : (if b.length ≤ sizeLine then some ((b.length : Int) != 0) else none) = some k := e
    split at e
    · rename_i hl; cases e; exact ⟨hl, rfl⟩
    · cases e
  | list ds =>
    obtain ⟨p, vs, e1, h1, d1⟩ := h.list
    rw [e1]; cases e
    exact .inl ⟨vs, SqL.of h1, by rw [d1.emp]⟩
  | tuple ds =>
    obtain ⟨p, vs, e1, h1, d1⟩ := h.tuple
    rw [e1]; cases e
    exact .inr (.inl ⟨vs, h1, by rw [d1.emp]⟩)
  | dict ds => cases e
end
end Fx

set_option Elab.async false
set_option linter.all false
set_option maxRecDepth 100000
set_option maxHeartbeats 2000000
namespace Fx
open PySem PySem.Spec PyProof.Rows L2

/-! ### names -/
def var (i : Nat) : M Rv := fun ρ => match ρ[i]? with
  | some (some (.val d)) => .ok (.val d) ρ
  | some (some (.own ds)) => .ok (.val (.list ds)) (ρ.set i (some (.val (.list ds))))
  | _ => .bad
/-- what a name holds, looked at -/
def peek (i : Nat) : M PyData := fun ρ => match ρ[i]? with
  | some (some (.val d)) => .ok d ρ
  | some (some (.own ds)) => .ok (.list ds) ρ
  | some (some (.brw _ ds)) => .ok (.list ds) ρ
  | _ => .bad
def M.ofB (r : M Rv) : M PyData := M.bind r fun r => M.pure r.d
/-- a Bool out of a value -/
def truB (d : PyData) : M Bool := fun ρ => match truD d with
  | some b => .ok b ρ
  | none => .bad
def M.truth (m : M PyData) : M Bool := M.bind m truB
def asB (r : Rv) : M Bool := fun ρ => match r with
  | .val (.bool b) => .ok b ρ
  | _ => .bad
def M.ite {α : Type} (c : M Bool) (a b : M α) : M α := M.bind c fun x => bif x then a else b
def M.and (a b : M Bool) : M Bool := M.ite a b (M.pure false)
def M.or (a b : M Bool) : M Bool := M.ite a (M.pure true) b
def M.not (a : M Bool) : M Bool := M.bind a fun x => M.pure (!x)
def M.ofBool (a : M Bool) : M Rv := M.bind a fun b => M.pure (.val (.bool b))
def M.andV (a b : M Rv) : M Rv := M.ite (M.bind a asB) b (M.pure (.val (.bool false)))
def M.orV (a b : M Rv) : M Rv := M.ite (M.bind a asB) (M.pure (.val (.bool true))) b
theorem wp_cond {α : Type} {b : Bool} {x y : M α} {ρ : Rho} {Q : α → Rho → Prop} {E : Str → PyData → Rho → Prop} : wp (bif b then x else y) ρ Q E ↔ if b = true then wp x ρ Q E else wp y ρ Q E := by
  cases b <;> simp
theorem wp_asB {r : Rv} {ρ : Rho} {Q : Bool → Rho → Prop} {E : Str → PyData → Rho → Prop} : wp (asB r) ρ Q E ↔ ∃ b, r = .val (.bool b) ∧ Q b ρ := by
  unfold wp asB
  split <;> rename_i h <;> split at h <;> simp_all
theorem wp_ite {α : Type} {c : M Bool} {x y : M α} {ρ : Rho} {Q : α → Rho → Prop} {E : Str → PyData → Rho → Prop} : wp (M.ite c x y) ρ Q E ↔ wp c ρ (fun b ρ' => if b = true then wp x ρ' Q E else wp y ρ' Q E) E := by
  unfold M.ite
  rw [wp_bind]
  constructor
  · intro h; exact wp_mono h fun b ρ' h' => wp_cond.mp h'
  · intro h; exact wp_mono h fun b ρ' h' => wp_cond.mpr h'

section
variable {X : Cx} {C : En} {W : WX} {a b c e : Expr} {pos : Pos} {m ma mb mc : M Rv} {q qa qb : M PyData} {p pa pb : M Bool}
abbrev GE (X : Cx) (C : En) (W : WX) (e : Expr) (m : M Rv) : Prop := PE X e (tE X.K X.mg C W m)
abbrev GB (X : Cx) (C : En) (W : WX) (e : Expr) (m : M PyData) : Prop := PE X e (tBo X.K X.mg C W m)
abbrev GT (X : Cx) (C : En) (W : WX) (e : Expr) (m : M Bool) : Prop := PT X e (tT X.K X.mg C W m)
abbrev GW (X : Cx) (C : En) (W : WX) (e : Expr) (m : M Bool) : Prop := PW X e (tT X.K X.mg C W m)
abbrev GA (X : Cx) (C : En) (W : WX) (es : List Expr) (m : M (List PyData)) : Prop := PA X es (tAs X.K X.mg C W m)

theorem ge_var {i : Nat} {x : Str} (hN : X.N[i]? = some x) (hv : Vis X.env.scope x := by first | exact .inl rfl | exact .inr (.inl rfl) | exact .inr (.inr rfl)) (hd : (x == ("__debug__" : Str)) = false := by decide)
    (hcd : (x == ("__classdict__" : Str)) = false := by decide) : GE X C W (.Name x pos) (var i) := (pe_var hN hv hd hcd).imp fun σ H Q ⟨F, ρ, ok, h⟩ => by
  unfold wp var at h
  cases e : ρ[i]? with
  | none => rw [e] at h; exact h.elim
  | some o =>
    rw [e] at h
    cases o with
    | none => exact h.elim
    | some s =>
      cases s with
      | val d =>
        obtain ⟨v, hv, hs⟩ := ok.sl i _ e
        exact ⟨v, hv, h v H F ok Gr.refl hs⟩
      | own ds =>
        obtain ⟨v, hv, hs⟩ := ok.sl i _ e
        obtain ⟨F', ok', g, d⟩ := ok.freezeSlot e hv
        exact ⟨v, hv, h v H F' ok' g d⟩
      | brw k ds => exact h.elim
theorem gb_name {i : Nat} {x : Str} (hN : X.N[i]? = some x) (hv : Vis X.env.scope x := by first | exact .inl rfl | exact .inr (.inl rfl) | exact .inr (.inr rfl)) (hd : (x == ("__debug__" : Str)) = false := by decide)
    (hcd : (x == ("__classdict__" : Str)) = false := by decide) : GB X C W (.Name x pos) (peek i) := (pe_var hN hv hd hcd).imp fun σ H Q ⟨F, ρ, ok, h⟩ => by
  unfold wp peek at h
  cases e : ρ[i]? with
  | none => rw [e] at h; exact h.elim
  | some o =>
    rw [e] at h
    cases o with
    | none => exact h.elim
    | some s =>
      obtain ⟨v, hv, hs⟩ := ok.sl i _ e
      cases s with
      | val d => exact ⟨v, hv, h v H F ok Gr.refl (.inl hs)⟩
      | own ds =>
        obtain ⟨p, vs, e1, h1, d1, _⟩ := hs
        exact ⟨v, hv, h v H F ok Gr.refl (.inr ⟨p, vs, ds, rfl, e1, h1, d1⟩)⟩
      | brw k ds =>
        obtain ⟨p, vs, e1, h1, d1, _⟩ := hs
        exact ⟨v, hv, h v H F ok Gr.refl (.inr ⟨p, vs, ds, rfl, e1, h1, d1⟩)⟩
theorem gb_of (h : GE X C W e m) : GB X C W e (M.ofB m) := PE.imp h fun σ H Q ⟨F, ρ, ok, h⟩ => by
  refine ⟨F, ρ, ok, ?_⟩
  unfold M.ofB at h
  rw [wp_bind] at h
  refine wp_mono h fun r ρ' h' v H' F' ok' g rv => h' v H' F' ok' g ?_
  cases r with
  | val d => exact .inl rv
  | new ds => obtain ⟨p, vs, e1, h1, d1, _⟩ := rv; exact .inr ⟨p, vs, ds, rfl, e1, h1, d1⟩
theorem ge_const {v : V} {d : PyData} (h : PE X e (tC v)) (hd : ∀ H F, Dt X.K H F d v) : GE X C W e (M.pure (.val d)) := PE.imp h fun σ H Q ⟨F, ρ, ok, h⟩ => h v H F ok Gr.refl (hd H F)
theorem ge_int {i : Int} {j : Nat} : GE X C W (.Constant (.int i) j pos) (M.pure (.val (.int i))) := ge_const pe_int fun _ _ => dInt
theorem ge_bool {i : Bool} {j : Nat} : GE X C W (.Constant (.bool i) j pos) (M.pure (.val (.bool i))) := ge_const pe_bl fun _ _ => dBool
theorem ge_none {j : Nat} : GE X C W (.Constant .none j pos) (M.pure (.val .none)) := ge_const pe_non fun _ _ => dNone
theorem ge_str {i : Str} {j : Nat} : GE X C W (.Constant (.str i) j pos) (M.pure (.val (.str i))) := ge_const pe_str fun _ _ => dStr
/-- a constant of the module -/
theorem ge_glob {x : Str} {v : V} {d : PyData} {u : Value} (hm : X.mg x = some u) (r : RelV v u) (hd : ∀ H F, Dt X.K H F d v) (hg : Gl X x := by rfl) (hdb : (x == ("__debug__" : Str)) = false := by decide) : GE X C W (.Name x pos) (M.pure (.val d)) :=
  ge_const (pe_glob hg hm r hdb) hd

/-! ### operators -/
theorem two {K : PySem.W.Frag} {mg : Str → Option Value} {r : R2} {f : PyData → PyData → Option Rv} (hf : Pure2 K r f) {σ : L2.St} {H : Hp} {Q : VK}
    (h : tE K mg C W (M.bindD ma fun a => M.bind qb fun b => M.lift (f a b)) σ H Q) : tOp r (tE K mg C W ma) (tBo K mg C W qb) σ H Q := by
  obtain ⟨F, ρ, ok, h⟩ := h
  rw [wp_bindD] at h
  refine ⟨F, ρ, ok, wp_mono h fun r1 ρ1 h1 v1 H1 F1 ok1 g1 rv1 => ?_⟩
  obtain ⟨F2, ok2, g2, d2⟩ := ok1.freeze rv1
  rw [wp_bind] at h1
  refine ⟨F2, ρ1, ok2, wp_mono h1 fun b ρ3 h3 v3 H3 F3 ok3 g3 bd3 => ?_⟩
  rw [wp_lift] at h3
  obtain ⟨z, hz, q⟩ := h3
  exact hf C σ H3 F3 ρ3 v1 v3 r1.d b z Q ok3 (.of (Dt.mono g3 _ _ d2)) bd3 hz fun v H' F' ok' g' rv' => q v H' F' ok' (((g1.trans g2).trans g3).trans g') rv'
theorem ge_op {op : Operator} {r : R2} {f : PyData → PyData → Option Rv} (ho : OpR X (binaryOp op) r) (hf : Pure2 X.K r f) (ha : GE X C W a ma) (hb : GB X C W b qb) :
    GE X C W (.BinOp a op b pos) (M.bindD ma fun x => M.bind qb fun y => M.lift (f x y)) := (pe_op ho ha hb).imp fun _ _ _ h => two hf h
theorem ge_cmp {op : CmpOp} {r : R2} {f : PyData → PyData → Option Rv} (ho : OpR X (compareOp op) r) (hf : Pure2 X.K r f) (ha : GE X C W a ma) (hb : GB X C W b qb) (hm : behindInMarks op b = false := by rfl) :
    GE X C W (.Compare a [op] [b] pos) (M.bindD ma fun x => M.bind qb fun y => M.lift (f x y)) := (pe_cmpR ho ha hb hm).imp fun _ _ _ h => two hf h
theorem gt_cmp {op : CmpOp} {r : R2} {f : PyData → PyData → Option Rv} (ho : OpR X (compareOp op) r) (hf : Pure2 X.K r f) (ha : GE X C W a ma) (hb : GB X C W b qb) (hm : behindInMarks op b = false := by rfl) :
    GT X C W (.Compare a [op] [b] pos) (M.bind (M.bindD ma fun x => M.bind qb fun y => M.lift (f x y)) asB) := (pt_cmpR ho ha hb hm).imp fun σ H Q ⟨F, ρ, ok, h⟩ => by
  rw [wp_bind] at h
  refine two (mg := X.mg) hf ⟨F, ρ, ok, wp_mono h fun r ρ' h' v H' F' ok' g rv => ?_⟩
  rw [wp_asB] at h'
  obtain ⟨k, e, q⟩ := h'
  subst e
  refine ⟨k, ?_, q H' F' ok' g⟩
  have rv : Dt X.K H' F' (.bool k) v := rv
  rw [Dt] at rv
  exact rv
/-- a value in a test's place -/
theorem gt_val (h : GB X C W e q) (he : ∀ whole, isTrue e X.env whole = (do let v ← whole; standAt e.pos; holding [v] (truthy v)) := by intro _; rfl) : GT X C W e (M.truth q) :=
  (pt_truth h he).imp fun σ H Q ⟨F, ρ, ok, h⟩ => by
    refine ⟨F, ρ, ok, ?_⟩
    unfold M.truth at h
    rw [wp_bind] at h
    refine wp_mono h fun d ρ' h' v H' F' ok' g bd => ?_
    unfold wp truB at h'
    cases ht : truD d with
    | none => rw [ht] at h'; exact h'.elim
    | some k =>
      rw [ht] at h'
      exact ⟨k, tru_of bd ht, h' H' F' ok' g⟩
theorem gt_not (h : GT X C W a p) : GT X C W (.UnaryOp .Not a pos) (M.not p) := (pt_not h).imp fun σ H Q ⟨F, ρ, ok, h⟩ => by
  unfold M.not at h
  rw [wp_bind] at h
  exact ⟨F, ρ, ok, wp_mono h fun b ρ' h' H' F' ok' g => h' H' F' ok' g⟩
theorem gw_and1 (h : GT X C W a p) : GW X C W (.BoolOp .And [a] pos) p := pw_and1 h
theorem gw_or1 (h : GT X C W a p) : GW X C W (.BoolOp .Or [a] pos) p := pw_or1 h
theorem gw_and {rest : List Expr} (ha : GT X C W a pa) (hb : GW X C W (.BoolOp .And (b :: rest) pos) pb) : GW X C W (.BoolOp .And (a :: b :: rest) pos) (M.and pa pb) := (pw_and ha hb).imp fun σ H Q ⟨F, ρ, ok, h⟩ => by
  unfold M.and at h
  rw [wp_ite] at h
  refine ⟨F, ρ, ok, wp_mono h fun k ρ' h' H' F' ok' g => ?_⟩
  cases k with
  | true => exact ⟨F', ρ', ok', wp_mono h' fun k2 ρ2 h2 H2 F2 ok2 g2 => h2 H2 F2 ok2 (g.trans g2)⟩
  | false => exact h' H' F' ok' g
theorem gw_or {rest : List Expr} (ha : GT X C W a pa) (hb : GW X C W (.BoolOp .Or (b :: rest) pos) pb) : GW X C W (.BoolOp .Or (a :: b :: rest) pos) (M.or pa pb) := (pw_or ha hb).imp fun σ H Q ⟨F, ρ, ok, h⟩ => by
  unfold M.or at h
  rw [wp_ite] at h
  refine ⟨F, ρ, ok, wp_mono h fun k ρ' h' H' F' ok' g => ?_⟩
  cases k with
  | false => exact ⟨F', ρ', ok', wp_mono h' fun k2 ρ2 h2 H2 F2 ok2 g2 => h2 H2 F2 ok2 (g.trans g2)⟩
  | true => exact h' H' F' ok' g
theorem gt_w (h : GW X C W e p) : GT X C W e p := PW.pt h
/-! values of and, or, not -/
theorem ge_one {op : BoolOp} (h : GE X C W a m) : GE X C W (.BoolOp op [a] pos) m := pe_one h
theorem ge_and {rest : List Expr} (ha : GE X C W a ma) (hb : GE X C W (.BoolOp .And (b :: rest) pos) mb) : GE X C W (.BoolOp .And (a :: b :: rest) pos) (M.andV ma mb) := (pe_and ha hb).imp fun σ H Q ⟨F, ρ, ok, h⟩ => by
  unfold M.andV at h
  rw [wp_ite, wp_bind] at h
  refine ⟨F, ρ, ok, wp_mono h fun r ρ' h' v H' F' ok' g rv => ?_⟩
  rw [wp_asB] at h'
  obtain ⟨k, e, q⟩ := h'
  subst e
  have rv : Dt X.K H' F' (.bool k) v := rv
  rw [Dt] at rv
  refine ⟨k, rv, ?_⟩
  cases k with
  | true => exact ⟨F', ρ', ok', wp_mono q fun k2 ρ2 h2 v2 H2 F2 ok2 g2 => h2 v2 H2 F2 ok2 (g.trans g2)⟩
  | false => exact q _ H' F' ok' g (dBool (K := X.K) (H := H') (F := F'))
theorem ge_or {rest : List Expr} (ha : GE X C W a ma) (hb : GE X C W (.BoolOp .Or (b :: rest) pos) mb) : GE X C W (.BoolOp .Or (a :: b :: rest) pos) (M.orV ma mb) := (pe_or ha hb).imp fun σ H Q ⟨F, ρ, ok, h⟩ => by
  unfold M.orV at h
  rw [wp_ite, wp_bind] at h
  refine ⟨F, ρ, ok, wp_mono h fun r ρ' h' v H' F' ok' g rv => ?_⟩
  rw [wp_asB] at h'
  obtain ⟨k, e, q⟩ := h'
  subst e
  have rv : Dt X.K H' F' (.bool k) v := rv
  rw [Dt] at rv
  refine ⟨k, rv, ?_⟩
  cases k with
  | false => exact ⟨F', ρ', ok', wp_mono q fun k2 ρ2 h2 v2 H2 F2 ok2 g2 => h2 v2 H2 F2 ok2 (g.trans g2)⟩
  | true => exact q _ H' F' ok' g (dBool (K := X.K) (H := H') (F := F'))
theorem ge_not (h : GE X C W a m) : GE X C W (.UnaryOp .Not a pos) (M.ofBool (M.not (M.bind m asB))) := (pe_not h).imp fun σ H Q ⟨F, ρ, ok, h⟩ => by
  unfold M.ofBool M.not at h
  rw [wp_bind, wp_bind, wp_bind] at h
  refine ⟨F, ρ, ok, wp_mono h fun r ρ' h' v H' F' ok' g rv => ?_⟩
  rw [wp_asB] at h'
  obtain ⟨k, e, q⟩ := h'
  subst e
  have rv : Dt X.K H' F' (.bool k) v := rv
  rw [Dt] at rv
  exact ⟨k, rv, q _ H' F' ok' g (dBool (K := X.K) (H := H') (F := F'))⟩
theorem ge_ifExp (hc : GT X C W c p) (ha : GE X C W a ma) (hb : GE X C W b mb) : GE X C W (.IfExp c a b pos) (M.ite p ma mb) := (pe_ifExp hc ha hb).imp fun σ H Q ⟨F, ρ, ok, h⟩ => by
  rw [wp_ite] at h
  refine ⟨F, ρ, ok, wp_mono h fun k ρ' h' H' F' ok' g => ?_⟩
  cases k with
  | true => exact ⟨F', ρ', ok', wp_mono h' fun k2 ρ2 h2 v2 H2 F2 ok2 g2 => h2 v2 H2 F2 ok2 (g.trans g2)⟩
  | false => exact ⟨F', ρ', ok', wp_mono h' fun k2 ρ2 h2 v2 H2 F2 ok2 g2 => h2 v2 H2 F2 ok2 (g.trans g2)⟩
/-- a op1 b op2 c, of ints and the like (all frozen) -/
def M.chain (f g : PyData → PyData → Option Rv) (ma mb mc : M Rv) : M Rv :=
  M.bindD ma fun x => M.bindD mb fun y => M.ite (M.bind (M.lift (f x y)) asB) (M.bindD mc fun z => M.lift (g y z)) (M.pure (.val (.bool false)))
theorem chain_rd {r r' : R2} {f g : PyData → PyData → Option Rv} (hf : Pure2 X.K r f) (hg : Pure2 X.K r' g) {σ : L2.St} {H : Hp} {Q : VK} (h : tE X.K X.mg C W (M.chain f g ma mb mc) σ H Q) :
    tChain r r' (tE X.K X.mg C W ma) (tE X.K X.mg C W mb) (tE X.K X.mg C W mc) σ H Q := by
  obtain ⟨F, ρ, ok, h⟩ := h
  unfold M.chain at h
  rw [wp_bindD] at h
  refine ⟨F, ρ, ok, wp_mono h fun r1 ρ1 h1 v1 H1 F1 ok1 g1 rv1 => ?_⟩
  obtain ⟨F2, ok2, g2, d2⟩ := ok1.freeze rv1
  rw [wp_bindD] at h1
  refine ⟨F2, ρ1, ok2, wp_mono h1 fun r3 ρ3 h3 v3 H3 F3 ok3 g3 rv3 => ?_⟩
  obtain ⟨F4, ok4, g4, d4⟩ := ok3.freeze rv3
  rw [wp_ite, wp_bind, wp_lift] at h3
  obtain ⟨z, hz, q⟩ := h3
  rw [wp_asB] at q
  obtain ⟨k, e, q⟩ := q
  subst e
  have gg := ((g1.trans g2).trans g3).trans g4
  refine hf C σ H3 F4 ρ3 v1 v3 r1.d r3.d _ _ ok4 (.of (Dt.mono (g3.trans g4) _ _ d2)) (.of d4) hz fun v H' F' ok' g' rv' => ?_
  have rv' : Dt X.K H' F' (.bool k) v := rv'
  rw [Dt] at rv'
  refine ⟨k, rv', ?_⟩
  cases k with
  | false => exact q _ H' F' ok' (gg.trans g') (dBool (K := X.K) (H := H') (F := F'))
  | true =>
    rw [if_pos rfl, wp_bindD] at q
    refine ⟨F', ρ3, ok', wp_mono q fun r5 ρ5 h5 v5 H5 F5 ok5 g5 rv5 => ?_⟩
    obtain ⟨F6, ok6, g6, d6⟩ := ok5.freeze rv5
    rw [wp_lift] at h5
    obtain ⟨z6, hz6, q6⟩ := h5
    exact hg C σ H5 F6 ρ5 v3 v5 r3.d r5.d z6 Q ok6 (.of (Dt.mono ((g'.trans g5).trans g6) _ _ d4)) (.of d6) hz6 fun v7 H7 F7 ok7 g7 rv7 => q6 v7 H7 F7 ok7 ((((gg.trans g').trans g5).trans g6).trans g7) rv7
theorem ge_chain {op op' : CmpOp} {r r' : R2} {f g : PyData → PyData → Option Rv} (ho : OpR X (compareOp op) r) (hf : Pure2 X.K r f) (ho' : OpR X (compareOp op') r') (hg : Pure2 X.K r' g) (ha : GE X C W a ma) (hb : GE X C W b mb) (hc : GE X C W c mc)
    (hm : lastMarks [op, op'] [b, c] = false := by with_unfolding_all rfl) : GE X C W (.Compare a [op, op'] [b, c] pos) (M.chain f g ma mb mc) := (pe_chain ho ho' ha hb hc hm).imp fun _ _ _ h => chain_rd hf hg h
theorem gt_chain {op op' : CmpOp} {r r' : R2} {f g : PyData → PyData → Option Rv} (ho : OpR X (compareOp op) r) (hf : Pure2 X.K r f) (ho' : OpR X (compareOp op') r') (hg : Pure2 X.K r' g) (ha : GE X C W a ma) (hb : GE X C W b mb) (hc : GE X C W c mc)
    (hm : lastMarks [op, op'] [b, c] = false := by with_unfolding_all rfl) : GT X C W (.Compare a [op, op'] [b, c] pos) (M.bind (M.chain f g ma mb mc) asB) := (pt_chain ho ho' ha hb hc hm).imp fun σ H Q ⟨F, ρ, ok, h⟩ => by
  rw [wp_bind] at h
  refine chain_rd hf hg ⟨F, ρ, ok, wp_mono h fun r ρ' h' v H' F' ok' g rv => ?_⟩
  rw [wp_asB] at h'
  obtain ⟨k, e, q⟩ := h'
  subst e
  refine ⟨k, ?_, q H' F' ok' g⟩
  have rv : Dt X.K H' F' (.bool k) v := rv
  rw [Dt] at rv
  exact rv
end
end Fx

set_option Elab.async false
set_option linter.all false
set_option maxRecDepth 100000
set_option maxHeartbeats 2000000
namespace Fx
open PySem PySem.Spec PyProof.Rows L2

/-! ### argument lists, displays -/
def M.cons (m : M Rv) (ms : M (List PyData)) : M (List PyData) := M.bindD m fun d => M.bind ms fun ds => M.pure (d :: ds)
def tupO (ds : List PyData) : Option Rv := if ds.length ≤ 100000 then some (.val (.tuple ds)) else none
def lstO (ds : List PyData) : Option Rv := if ds.length ≤ 100000 then some (.new ds) else none
theorem line5 {n : Nat} (h : n ≤ 100000) : n ≤ sizeLine := Nat.le_trans h (by decide)
/-- a slot that is there -/
def chk (i : Nat) : M Unit := fun ρ => match ρ[i]? with
  | some (some _) => .ok () ρ
  | _ => .bad
section
variable {X : Cx} {C : En} {W : WX} {a b c e : Expr} {pos p2 : Pos} {m ma mb mc : M Rv} {q qa qb : M PyData} {p pa pb : M Bool} {es : List Expr} {ms : M (List PyData)}
theorem ga_nil : GA X C W [] (M.pure []) := PA.imp pa_nil fun σ H Q ⟨F, ρ, ok, h⟩ => h [] H F ok Gr.refl DtA.nil
theorem ga_cons (h : GE X C W e m) (hs : GA X C W es ms) (hst : starEach (e :: es) X.env = (false, eval e X.env) :: starEach es X.env := by rfl) : GA X C W (e :: es) (M.cons m ms) := (pa_cons h hs hst).imp fun σ H Q ⟨F, ρ, ok, h⟩ => by
  unfold M.cons at h
  rw [wp_bindD] at h
  refine ⟨F, ρ, ok, wp_mono h fun r ρ1 h1 v H1 F1 ok1 g1 rv => ?_⟩
  obtain ⟨F2, ok2, g2, d2⟩ := ok1.freeze rv
  rw [wp_bind] at h1
  refine ⟨F2, ρ1, ok2, wp_mono h1 fun ds ρ3 h3 vs H3 F3 ok3 g3 d3 => ?_⟩
  exact h3 (v :: vs) H3 F3 ok3 ((g1.trans g2).trans g3) (DtA.cons (Dt.mono g3 _ _ d2) d3)
theorem ge_tup {x1} (hs : GA X C W es ms) : GE X C W (.Tuple es x1 pos) (M.bind ms fun ds => M.lift (tupO ds)) := (pe_tup hs).imp fun σ H Q ⟨F, ρ, ok, h⟩ => by
  rw [wp_bind] at h
  refine ⟨F, ρ, ok, wp_mono h fun ds ρ1 h1 vs H1 F1 ok1 g1 d1 => ?_⟩
  rw [wp_lift] at h1
  obtain ⟨z, hz, q⟩ := h1
  unfold tupO at hz
  split at hz
  · rename_i hl
    cases hz
    refine ⟨by rw [d1.len]; exact line5 hl, fun p hp => ?_⟩
    obtain ⟨o, g, r⟩ := ok1.newTup hp d1
    exact q _ _ _ o (g1.trans g) r
  · cases hz
theorem ge_lst (hs : GA X C W es ms) : GE X C W (.List es pos) (M.bind ms fun ds => M.lift (lstO ds)) := (pe_lst hs).imp fun σ H Q ⟨F, ρ, ok, h⟩ => by
  rw [wp_bind] at h
  refine ⟨F, ρ, ok, wp_mono h fun ds ρ1 h1 vs H1 F1 ok1 g1 d1 => ?_⟩
  rw [wp_lift] at h1
  obtain ⟨z, hz, q⟩ := h1
  unfold lstO at hz
  split at hz
  · rename_i hl
    cases hz
    refine ⟨by rw [d1.len]; exact line5 hl, fun p hp => ?_⟩
    obtain ⟨o, g, r⟩ := ok1.newList hp d1
    exact q _ _ _ o (g1.trans g) r
  · cases hz

/-! ### items, slices -/
theorem wp_chk {i : Nat} {ρ : Rho} {Q : Unit → Rho → Prop} {E : Str → PyData → Rho → Prop} : wp (chk i) ρ Q E ↔ (∃ s, ρ[i]? = some (some s)) ∧ Q () ρ := by
  unfold wp chk
  split <;> rename_i h <;> split at h <;> simp_all
theorem wp_peek {i : Nat} {ρ : Rho} {Q : PyData → Rho → Prop} {E : Str → PyData → Rho → Prop} : wp (peek i) ρ Q E ↔ ∃ d, (ρ[i]? = some (some (.val d)) ∨ (∃ ds, d = .list ds ∧ (ρ[i]? = some (some (.own ds)) ∨ ∃ k, ρ[i]? = some (some (.brw k ds))))) ∧ Q d ρ := by
  unfold wp peek
  cases h : ρ[i]? with
  | none => simp
  | some o =>
    cases o with
    | none => simp
    | some s => cases s <;> simp
theorem peek_bd {K : PySem.W.Frag} {σ : L2.St} {H : Hp} {F : Addr → Prop} {ρ : Rho} {i : Nat} {d : PyData} {v : V} (ok : Ok K C σ H F ρ) (hv : σ[i]? = some (some v))
    (h : ρ[i]? = some (some (.val d)) ∨ (∃ ds, d = .list ds ∧ (ρ[i]? = some (some (.own ds)) ∨ ∃ k, ρ[i]? = some (some (.brw k ds))))) : Bd K H F d v := by
  rcases h with h | ⟨ds, e, h | ⟨k, h⟩⟩
  · obtain ⟨v', hv', hs⟩ := ok.sl i _ h
    rw [hv] at hv'; cases hv'
    exact .inl hs
  · obtain ⟨v', hv', p, vs, a, b, c, _⟩ := ok.sl i _ h
    rw [hv] at hv'; cases hv'
    exact .inr ⟨p, vs, ds, e, a, b, c⟩
  · obtain ⟨v', hv', p, vs, a, b, c, _⟩ := ok.sl i _ h
    rw [hv] at hv'; cases hv'
    exact .inr ⟨p, vs, ds, e, a, b, c⟩
/-- x[e], x a name -/
theorem ge_ixN {i : Nat} {x : Str} {px : Pos} (hN : X.N[i]? = some x) (hb : GE X C W b mb) (hs : PlainIx b := by exact fun _ _ => rfl) (hv : Vis X.env.scope x := by first | exact .inl rfl | exact .inr (.inl rfl) | exact .inr (.inr rfl))
    (hd : (x == ("__debug__" : Str)) = false := by decide) (hcd : (x == ("__classdict__" : Str)) = false := by decide) :
    GE X C W (.Subscript (.Name x px) b pos) (M.bind (chk i) fun _ => M.bindD mb fun k => M.bind (peek i) fun d => M.lift (getO d k)) := (pe_ix ix_seq (pe_var hN hv hd hcd) hb hs).imp fun σ H Q ⟨F, ρ, ok, h⟩ => by
  rw [wp_bind, wp_chk] at h
  obtain ⟨⟨s, hs⟩, h⟩ := h
  obtain ⟨v, hv, _⟩ := ok.sl i s hs
  refine ⟨v, hv, F, ρ, ok, ?_⟩
  rw [wp_bindD] at h
  refine wp_mono h fun r ρ1 h1 w H1 F1 ok1 g1 rv => ?_
  obtain ⟨F2, ok2, g2, d2⟩ := ok1.freeze rv
  rw [wp_bind, wp_peek] at h1
  obtain ⟨d, hd, h1⟩ := h1
  rw [wp_lift] at h1
  obtain ⟨z, hz, q⟩ := h1
  exact pure_get C σ H1 F2 ρ1 v w d r.d z Q ok2 (peek_bd ok2 hv hd) (.inl d2) hz fun v' H' F' ok' g' rv' => q v' H' F' ok' ((g1.trans g2).trans g') rv'
theorem ge_ix (ha : GE X C W a ma) (hb : GB X C W b qb) (hs : PlainIx b := by exact fun _ _ => rfl) : GE X C W (.Subscript a b pos) (M.bindD ma fun x => M.bind qb fun y => M.lift (getO x y)) :=
  (pe_ix ix_seq ha hb hs).imp fun _ _ _ h => two pure_get h
/-! a slice's parts -/
def M.part (m : M Rv) : M (Option Int) := M.bind m fun r ρ => match r with
  | .val (.int i) => .ok (some i) ρ
  | _ => .bad
def tOpt (K : PySem.W.Frag) (mg : Str → Option Value) (C : En) (W : WX) (m : M (Option Int)) : TO := fun σ H Q => ∃ F ρ, Ok K C σ H F ρ ∧ wp m ρ (fun o ρ' => ∀ H' F', Ok K C σ H' F' ρ' → Gr H F H' F' → Q o H') (ExcW K mg C W σ)
abbrev GO (X : Cx) (C : En) (W : WX) (o : Option Expr) (m : M (Option Int)) : Prop := PO X o (tOpt X.K X.mg C W m)
theorem PO.imp {o : Option Expr} {t t' : TO} (h : PO X o t) (k : ∀ σ H Q, t' σ H Q → t σ H Q) : PO X o t' := ⟨fun pins s σ H Q I q => h.run pins s σ H Q I (k σ H Q q)⟩
theorem go_none : GO X C W none (M.pure none) := PO.imp po_none fun σ H Q ⟨F, ρ, ok, h⟩ => h H F ok Gr.refl
theorem go_some (h : GE X C W e m) : GO X C W (some e) (M.part m) := PO.imp (po_some h) fun σ H Q ⟨F, ρ, ok, h⟩ => by
  unfold M.part at h
  have h := wp_bind.mp h
  refine ⟨F, ρ, ok, wp_mono h fun r ρ1 h1 w H1 F1 ok1 g1 rv => ?_⟩
  unfold wp at h1
  cases r with
  | new ds => exact h1.elim
  | val d =>
    cases d with
    | int i =>
      have rv : Dt X.K H1 F1 (.int i) w := rv
      rw [Dt] at rv
      exact ⟨i, rv, h1 H1 F1 ok1 g1⟩
    | _ => exact h1.elim
theorem sl_all : SlR X (rSlAll X.K) := (sl_list.or sl_tupA).or sl_str
/-- x[lo:hi], x a name -/
theorem ge_slN {i : Nat} {x : Str} {px : Pos} {lo hi : Option Expr} {ml mh : M (Option Int)} (hN : X.N[i]? = some x) (hl : GO X C W lo ml) (hh : GO X C W hi mh) (hv : Vis X.env.scope x := by first | exact .inl rfl | exact .inr (.inl rfl) | exact .inr (.inr rfl))
    (hd : (x == ("__debug__" : Str)) = false := by decide) (hcd : (x == ("__classdict__" : Str)) = false := by decide) :
    GE X C W (.Subscript (.Name x px) (.Slice lo hi none p2) pos) (M.bind (chk i) fun _ => M.bind ml fun l => M.bind mh fun u => M.bind (peek i) fun d => M.lift (sliceO l u d)) := (pe_slice sl_all (pe_var hN hv hd hcd) hl hh).imp fun σ H Q ⟨F, ρ, ok, h⟩ => by
  rw [wp_bind, wp_chk] at h
  obtain ⟨⟨s, hs⟩, h⟩ := h
  obtain ⟨v, hv, _⟩ := ok.sl i s hs
  refine ⟨v, hv, F, ρ, ok, ?_⟩
  rw [wp_bind] at h
  refine wp_mono h fun l ρ1 h1 H1 F1 ok1 g1 => ?_
  rw [wp_bind] at h1
  refine ⟨F1, ρ1, ok1, wp_mono h1 fun u ρ2 h2 H2 F2 ok2 g2 => ?_⟩
  rw [wp_bind, wp_peek] at h2
  obtain ⟨d, hd, h2⟩ := h2
  rw [wp_lift] at h2
  obtain ⟨z, hz, q⟩ := h2
  exact pure_slice C σ H2 F2 ρ2 v d z Q ok2 (peek_bd ok2 hv hd) hz fun v' H' F' ok' g' rv' => q v' H' F' ok' ((g1.trans g2).trans g') rv'
theorem ge_sl {lo hi : Option Expr} {ml mh : M (Option Int)} (ha : GE X C W a ma) (hl : GO X C W lo ml) (hh : GO X C W hi mh) :
    GE X C W (.Subscript a (.Slice lo hi none p2) pos) (M.bindD ma fun d => M.bind ml fun l => M.bind mh fun u => M.lift (sliceO l u d)) := (pe_slice sl_all ha hl hh).imp fun σ H Q ⟨F, ρ, ok, h⟩ => by
  rw [wp_bindD] at h
  refine ⟨F, ρ, ok, wp_mono h fun r ρ0 h0 v H0 F0 ok0 g0 rv0 => ?_⟩
  obtain ⟨F3, ok3, g3, d3⟩ := ok0.freeze rv0
  rw [wp_bind] at h0
  refine ⟨F3, ρ0, ok3, wp_mono h0 fun l ρ1 h1 H1 F1 ok1 g1 => ?_⟩
  rw [wp_bind] at h1
  refine ⟨F1, ρ1, ok1, wp_mono h1 fun u ρ2 h2 H2 F2 ok2 g2 => ?_⟩
  rw [wp_lift] at h2
  obtain ⟨z, hz, q⟩ := h2
  exact pure_slice C σ H2 F2 ρ2 v r.d z Q ok2 (.inl (Dt.mono (g1.trans g2) _ _ d3)) hz fun v' H' F' ok' g' rv' => q v' H' F' ok' ((((g0.trans g3).trans g1).trans g2).trans g') rv'

/-! ### built-in functions and types -/
theorem one_rd {r : List V → Hp → VK → Prop} {f : PyData → Option Rv} (hf : PureC1 X.K r f) {σ : L2.St} {H : Hp} {Q : VK} (h : tE X.K X.mg C W (M.bind q fun d => M.lift (f d)) σ H Q) : tCB r (tCons (tBo X.K X.mg C W q) tNil) σ H Q := by
  obtain ⟨F, ρ, ok, h⟩ := h
  rw [wp_bind] at h
  refine ⟨F, ρ, ok, wp_mono h fun d ρ1 h1 v H1 F1 ok1 g1 bd => ?_⟩
  rw [wp_lift] at h1
  obtain ⟨z, hz, q⟩ := h1
  exact hf C σ H1 F1 ρ1 v d z Q ok1 bd hz fun v' H' F' ok' g' rv' => q v' H' F' ok' (g1.trans g') rv'
theorem ge_b1 {x : Str} {id : String} {r : List V → Hp → VK → Prop} {f : PyData → Option Rv} {p : Pos} (hc : CallR X (.builtin id) r) (hf : PureC1 X.K r f) (hm : X.mg x = none) (hv : bootBuiltins x = some (.builtin id)) (ha : GB X C W e q) (hg : Gl X x := by rfl)
    (hn : x ≠ "__name__" := by decide) (hdb : (x == ("__debug__" : Str)) = false := by decide) (he : starEach [e] X.env = (false, eval e X.env) :: starEach [] X.env := by rfl) (hpl : (backTo pos (starEach [] X.env)).any (·.1) = false := by rfl) :
    GE X C W (.Call (.Name x p) [e] [] pos) (M.bind q fun d => M.lift (f d)) := (pe_callB hc hg hm hv (pa_cons ha pa_nil he) hn hdb he hpl).imp fun _ _ _ h => one_rd hf h
theorem ge_t1 {x : Str} {T : String} {r : List V → Hp → VK → Prop} {f : PyData → Option Rv} {p : Pos} (hc : CallR X (.type T) r) (hf : PureC1 X.K r f) (hm : X.mg x = none) (hv : bootBuiltins x = some (.type T)) (ha : GB X C W e q) (hg : Gl X x := by rfl)
    (hn : x ≠ "__name__" := by decide) (hdb : (x == ("__debug__" : Str)) = false := by decide) (he : starEach [e] X.env = (false, eval e X.env) :: starEach [] X.env := by rfl) (hpl : (backTo pos (starEach [] X.env)).any (·.1) = false := by rfl) :
    GE X C W (.Call (.Name x p) [e] [] pos) (M.bind q fun d => M.lift (f d)) := (pe_callTy hc hg hm hv (pa_cons ha pa_nil he) hn hdb he hpl).imp fun _ _ _ h => one_rd hf h
theorem ge_bn {x : Str} {id : String} {r : List V → Hp → VK → Prop} {f : List PyData → Option Rv} {p : Pos} (hc : CallR X (.builtin id) r) (hf : PureC X.K r f) (hm : X.mg x = none) (hv : bootBuiltins x = some (.builtin id)) (ha : GA X C W (e :: es) ms) (hg : Gl X x := by rfl)
    (hn : x ≠ "__name__" := by decide) (hdb : (x == ("__debug__" : Str)) = false := by decide) (he : starEach (e :: es) X.env = (false, eval e X.env) :: starEach es X.env := by rfl) (hpl : (backTo pos (starEach es X.env)).any (·.1) = false := by rfl) :
    GE X C W (.Call (.Name x p) (e :: es) [] pos) (M.bind ms fun ds => M.lift (f ds)) := (pe_callB hc hg hm hv ha hn hdb he hpl).imp fun σ H Q ⟨F, ρ, ok, h⟩ => by
  rw [wp_bind] at h
  refine ⟨F, ρ, ok, wp_mono h fun ds ρ1 h1 vs H1 F1 ok1 g1 d1 => ?_⟩
  rw [wp_lift] at h1
  obtain ⟨z, hz, q⟩ := h1
  exact hf C σ H1 F1 ρ1 vs ds z Q ok1 d1 hz fun v' H' F' ok' g' rv' => q v' H' F' ok' (g1.trans g') rv'
end
section
variable {K : PySem.W.Frag}
def lenO : PyData → Option Rv
  | .list ds => some (.val (.int ds.length))
  | .tuple ds => some (.val (.int ds.length))
  | .str z => if z.length ≤ sizeLine then some (.val (.int z.length)) else none
  | .dict [(.none, .list ds)] => some (.val (.int ds.length))
  | _ => none
theorem pure_len : PureC1 K (fun xs H Q => ∃ x n, xs = [x] ∧ LenV K x H n ∧ Q (.int n) H) lenO := fun C σ H F ρ x a z Q ok dx e q => by
  unfold lenO at e
  split at e
  · rename_i ds
    cases e
    obtain ⟨p, vs, e1, h1, d1⟩ := dx.list
    subst e1
    exact ⟨_, ds.length, rfl, .inl ⟨vs, SqL.of h1, d1.len.symm⟩, same ok dInt q⟩
  · rename_i ds
    cases e
    obtain ⟨p, vs, e1, h1, d1⟩ := dx.tuple
    subst e1
    exact ⟨_, ds.length, rfl, .inr ⟨vs, h1, d1.len.symm⟩, same ok dInt q⟩
  · rename_i s
    split at e
    · rename_i hl
      cases e
      have := dx.str
      subst this
      exact ⟨_, s.length, rfl, ⟨hl, rfl⟩, same ok dInt q⟩
    · cases e
  · rename_i ds
    cases e
    obtain ⟨p, vs, e1, h1, d1⟩ := dx.ro
    subst e1
    exact ⟨_, ds.length, rfl, .inl ⟨vs, h1, d1.len.symm⟩, same ok dInt q⟩
  · cases e
def intO1 : PyData → Option Rv
  | .int i => some (.val (.int i))
  | .bool b => some (.val (.int (if b then 1 else 0)))
  | _ => none
theorem pure_int : PureC1 K (fun xs H Q => (∃ i, xs = [.int i] ∧ Q (.int i) H) ∨ ∃ k, xs = [.bl k] ∧ Q (.int (if k then 1 else 0)) H) intO1 := fun C σ H F ρ x a z Q ok dx e q => by
  unfold intO1 at e
  split at e
  · rename_i i
    cases e
    have := dx.int
    subst this
    exact .inl ⟨i, rfl, same ok dInt q⟩
  · rename_i i
    cases e
    have := dx.bool
    subst this
    exact .inr ⟨i, rfl, same ok dInt q⟩
  · cases e
def absO : PyData → Option Rv
  | .int i => some (.val (.int (if i < 0 then -i else i)))
  | _ => none
theorem pure_abs : PureC1 K (fun xs H Q => ∃ i, xs = [.int i] ∧ Q (.int (if i < 0 then -i else i)) H) absO := fun C σ H F ρ x a z Q ok dx e q => by
  unfold absO at e
  split at e
  · rename_i i
    cases e
    have := dx.int
    subst this
    exact ⟨i, rfl, same ok dInt q⟩
  · cases e
def strO : PyData → Option Rv
  | .int i => if i.natAbs.log2 < 1920 then some (.val (.str (toString i))) else none
  | _ => none
theorem pure_str : PureC1 K (fun xs H Q => ∃ i, xs = [.int i] ∧ i.natAbs.log2 < 1920 ∧ Q (.str (toString i)) H) strO := fun C σ H F ρ x a z Q ok dx e q => by
  unfold strO at e
  split at e
  · rename_i i
    split at e
    · rename_i hl
      cases e
      have := dx.int
      subst this
      exact ⟨i, rfl, hl, same ok dStr q⟩
    · cases e
  · cases e
def listO : PyData → Option Rv
  | .list ds => some (.new ds)
  | .tuple ds => some (.new ds)
  | _ => none
theorem pure_list : PureC1 K (fun xs H Q => ∃ p ys, xs = [.ref p] ∧ (SqL K H p ys ∨ SqT K H p ys) ∧ ∀ l, H l = none → Q (.ref l) (upd H l (.lst ys))) listO := fun C σ H F ρ x a z Q ok dx e q => by
  unfold listO at e
  split at e
  · rename_i ds
    cases e
    obtain ⟨p, vs, e1, h1, d1⟩ := dx.list
    subst e1
    refine ⟨_, vs, rfl, .inl (SqL.of h1), fun l hn => ?_⟩
    obtain ⟨o, g, r⟩ := ok.newList hn d1
    exact q _ _ _ o g r
  · rename_i ds
    cases e
    obtain ⟨p, vs, e1, h1, d1⟩ := dx.tuple
    subst e1
    refine ⟨_, vs, rfl, .inr h1, fun l hn => ?_⟩
    obtain ⟨o, g, r⟩ := ok.newList hn d1
    exact q _ _ _ o g r
  · cases e
def tupleO : PyData → Option Rv
  | .list ds => some (.val (.tuple ds))
  | .tuple ds => some (.val (.tuple ds))
  | _ => none
theorem pure_tuple : PureC1 K (fun xs H Q => ∃ p ys, xs = [.ref p] ∧ ((SqL K H p ys ∧ ∀ l, H l = none → Q (.ref l) (upd H l (.tup ys))) ∨ (SqT K H p ys ∧ Q (.ref p) H))) tupleO := fun C σ H F ρ x a z Q ok dx e q => by
  unfold tupleO at e
  split at e
  · rename_i ds
    cases e
    obtain ⟨p, vs, e1, h1, d1⟩ := dx.list
    subst e1
    refine ⟨_, vs, rfl, .inl ⟨SqL.of h1, fun l hn => ?_⟩⟩
    obtain ⟨o, g, r⟩ := ok.newTup hn d1
    exact q _ _ _ o g r
  · rename_i ds
    cases e
    obtain ⟨p, vs, e1, h1, d1⟩ := dx.tuple
    subst e1
    refine ⟨_, vs, rfl, .inr ⟨h1, same ok ?_ q⟩⟩
    rw [Dt]
    exact ⟨p, vs, rfl, h1, d1⟩
  · cases e
/-- a list of ints -/
def asInts : List PyData → Option (List Int)
  | [] => some []
  | .int i :: r => (asInts r).map (i :: ·)
  | _ => none
theorem asInts_eq : ∀ {ds : List PyData} {ns : List Int}, asInts ds = some ns → ds = ns.map PyData.int
  | [], ns, h => by cases h; rfl
  | d :: r, ns, h => by
    cases d <;> simp only [asInts, Option.map_eq_some_iff] at h <;> try (cases h; done)
    obtain ⟨ms, h1, h2⟩ := h
    subst h2
    rw [List.map_cons, ← asInts_eq h1]
def asBools : List PyData → Option (List Bool)
  | [] => some []
  | .bool i :: r => (asBools r).map (i :: ·)
  | _ => none
theorem asBools_eq : ∀ {ds : List PyData} {ns : List Bool}, asBools ds = some ns → ds = ns.map PyData.bool
  | [], ns, h => by cases h; rfl
  | d :: r, ns, h => by
    cases d <;> simp only [asBools, Option.map_eq_some_iff] at h <;> try (cases h; done)
    obtain ⟨ms, h1, h2⟩ := h
    subst h2
    rw [List.map_cons, ← asBools_eq h1]
def sumO : PyData → Option Rv
  | .list ds => (asInts ds).map fun ns => .val (.int ns.sum)
  | _ => none
theorem pure_sum : PureC1 K (rSum K) sumO := fun C σ H F ρ x a z Q ok dx e q => by
  unfold sumO at e
  split at e
  · rename_i ds
    obtain ⟨ns, h1, h2⟩ := Option.map_eq_some_iff.mp e
    subst h2
    obtain ⟨p, vs, e1, hp, d1⟩ := dx.list
    rw [asInts_eq h1] at d1
    rw [d1.ints] at hp
    subst e1
    exact ⟨p, ns, rfl, SqL.of hp, same ok dInt q⟩
  · cases e
def allO : PyData → Option Rv
  | .list ds => (asBools ds).map fun ns => .val (.bool (ns.all id))
  | _ => none
def anyO : PyData → Option Rv
  | .list ds => (asBools ds).map fun ns => .val (.bool (ns.any id))
  | _ => none
theorem pure_all : PureC1 K (rAll K) allO := fun C σ H F ρ x a z Q ok dx e q => by
  unfold allO at e
  split at e
  · rename_i ds
    obtain ⟨ns, h1, h2⟩ := Option.map_eq_some_iff.mp e
    subst h2
    obtain ⟨p, vs, e1, hp, d1⟩ := dx.list
    rw [asBools_eq h1] at d1
    rw [d1.bools] at hp
    subst e1
    exact ⟨p, ns, rfl, SqL.of hp, same ok dBool q⟩
  · cases e
theorem pure_any : PureC1 K (rAny K) anyO := fun C σ H F ρ x a z Q ok dx e q => by
  unfold anyO at e
  split at e
  · rename_i ds
    obtain ⟨ns, h1, h2⟩ := Option.map_eq_some_iff.mp e
    subst h2
    obtain ⟨p, vs, e1, hp, d1⟩ := dx.list
    rw [asBools_eq h1] at d1
    rw [d1.bools] at hp
    subst e1
    exact ⟨p, ns, rfl, SqL.of hp, same ok dBool q⟩
  · cases e
def max2O : List PyData → Option Rv
  | [.int i, .int j] => some (.val (.int (if j > i then j else i)))
  | _ => none
def min2O : List PyData → Option Rv
  | [.int i, .int j] => some (.val (.int (if j < i then j else i)))
  | _ => none
theorem two_of {H : Hp} {F : Addr → Prop} {i j : Int} {xs : List V} (h : DtA K H F [.int i, .int j] xs) : xs = [.int i, .int j] := by
  have := DtA.ints (ns := [i, j]) h
  exact this
theorem pure_max2 : PureC K (fun xs H Q => ∃ i j, xs = [.int i, .int j] ∧ Q (.int (if j > i then j else i)) H) max2O := fun C σ H F ρ xs as z Q ok dx e q => by
  unfold max2O at e
  split at e
  · rename_i i j
    cases e
    exact ⟨i, j, two_of dx, same ok dInt q⟩
  · cases e
theorem pure_min2 : PureC K (fun xs H Q => ∃ i j, xs = [.int i, .int j] ∧ Q (.int (if j < i then j else i)) H) min2O := fun C σ H F ρ xs as z Q ok dx e q => by
  unfold min2O at e
  split at e
  · rename_i i j
    cases e
    exact ⟨i, j, two_of dx, same ok dInt q⟩
  · cases e
end
end Fx

set_option Elab.async false
set_option linter.all false
set_option maxRecDepth 100000
set_option maxHeartbeats 2000000
namespace Fx
open PySem PySem.Spec PyProof.Rows L2

/-! ### enumerate(v), v told by how its iterator begins and draws -/
set_option maxHeartbeats 4000000 in
theorem meets_enumerate_new1 {v : Value} {o : Obj} {H : Heap → Prop} (B : Begins v o H) :
    Meets (Builtin.«enumerate.__new__» ⟨[.type "enumerate", v], []⟩) (fun _ R s => H s.heap ∧
      R (.ok (.ret (.ref (s.heap.push o).objs.size))) { s with heap := (s.heap.push o).push { cls := .type "enumerate", data := .fields #[.none, .bool false, .ref s.heap.objs.size, rawInt 0, .none, .none] } }) :=
  .of_wp fun prog w A R s h => by
    obtain ⟨hp, g, d, tk, os⟩ := s; obtain ⟨h1, h⟩ := h
    have hsub := sub_enumerate
    have q1 : ∀ {A' : Around} {E : Value → Shared → Prop} {Q : Value → Shared → Prop}, Q (.ref hp.objs.size) ⟨hp.push o, g, d, tk, os⟩ → wpAny (model prog w) A' (pyIter v) Q E ⟨hp, g, d, tk, os⟩ :=
      fun q => B.iter prog w _ _ ⟨hp, g, d, tk, os⟩ _ h1 q
    wp_walk using q1
    refine wpAny_stack_any fun st => wpAny_pure ?_
    split
    · rename_i c _ _ _ _ _
      cases (c == Value.type "enumerate")
      · wp_walk using q1
        exact ⟨_, rfl, h⟩
      · wp_walk using q1
        exact ⟨_, rfl, h⟩
    · wp_walk using q1
      exact ⟨_, rfl, h⟩
section
variable {prog : Program} {w : World} {A : Around} {E : Value → Shared → Prop} {s : Shared}
theorem enum_begins1 {v : Value} {o : Obj} {H : Heap → Prop} {Q : Value → Shared → Prop} (B : Begins v o H) (h1 : H s.heap)
    (h : ∀ h', IsEnum h' (s.heap.objs.size + 1) s.heap.objs.size 0 .none → h'.get? s.heap.objs.size = some o → h'.objs.size = s.heap.objs.size + 2 →
      (∀ b o, s.heap.get? b = some o → h'.get? b = some o) → Q (.ref (s.heap.objs.size + 1)) { s with heap := h' }) :
    wpAny (model prog w) A (call (.type "enumerate") [v]) Q E s := by
  refine callType_new F.called_enumerate (by decide) (F.typeCall_enumerate_1 _) (F.newCall_enumerate_1 _) (fun obj => F.args_object_init_2 obj _) F.entry_enumerate_new
    (meets_enumerate_new1 B) ⟨h1, ?_⟩
  have hz : (s.heap.push o).objs.size = s.heap.objs.size + 1 := Heap.size_push ..
  show _ ∧ _
  rw [hz]
  have he : IsEnum ((s.heap.push o).push { cls := .type "enumerate", data := .fields #[.none, .bool false, .ref s.heap.objs.size, rawInt 0, .none, .none] }) (s.heap.objs.size + 1) s.heap.objs.size 0 .none := by
    have := Heap.get?_push_size (s.heap.push o) (o := { cls := .type "enumerate", data := .fields #[.none, .bool false, .ref s.heap.objs.size, rawInt 0, .none, .none] }) rfl
    rw [hz] at this; exact this
  refine ⟨⟨_, he, rfl⟩, h _ he (Heap.get?_push_of_some _ (Heap.get?_push_size _ B.free)) (by rw [Heap.size_push, hz]) fun b o x => Heap.get?_push_of_some _ (Heap.get?_push_of_some _ x)⟩
end
/-- the tuple at a -/
def Itet (K : PySem.W.Frag) (a : Addr) : It :=
  ⟨fun i H => ∃ (xs : List V) (x : V), SqT K H a xs ∧ xs[i]? = some x, fun i H v H' => ∃ T x, v = .ref T ∧ H T = none ∧ H' = upd H T (.tup [.int (i : Nat), x]) ∧ ∀ xs, SqT K H a xs → xs[i]? = some x, fun i H => ∃ xs : List V, SqT K H a xs ∧ xs.length ≤ i⟩
theorem turn_enumT {P : Program} {w : World} {K : PySem.W.Frag} {elts : List Expr} {kk : Nat} {tpos : Pos} (a e it : Addr) :
    Turn P w K (.Tuple elts kk tpos) (Itet K a) [e, it] e (fun i h => (∃ old, IsEnum h e it ((i : Nat) : Int) old) ∧ h.IsTupleIter it a i ∧ e ≠ it) where
  mem := by simp
  obj := fun i h st b hb => by
    obtain ⟨⟨old, he⟩, ⟨o, ho, hc, hd⟩, _⟩ := st
    have e' : b = e ∨ b = it := by simpa using hb
    rcases e' with z | z
    · rw [z]; exact ⟨_, he, fun v q => nomatch q⟩
    · rw [z]; exact ⟨o, ho, fun v q => by rw [hd] at q; cases q⟩
  keep := fun i h h' st k => let ⟨⟨old, he⟩, hi, hne⟩ := st; ⟨⟨old, k e (by simp) _ he⟩, hi.at fun o q => k it (by simp) o q, hne⟩
  item := by
    intro X hP hw hK hc i pins s σ H E I hf st hg
    subst hP hw hK
    obtain ⟨⟨old, he⟩, hit, hne⟩ := st
    obtain ⟨xs, x, hq, hx⟩ := hg
    obtain ⟨its, rv, p, hz⟩ := I.tuple hq
    obtain ⟨u, hu, ru⟩ := rv.get hx
    have hT0 : s.heap.IsTuple a its.toArray := p
    have hel : e < s.heap.objs.size := Heap.lt_size he
    have hil : it < s.heap.objs.size := by obtain ⟨_, q, _⟩ := hit; exact Heap.lt_size q
    have nea : a ≠ e := fun z => by
      obtain ⟨o, ho, hc, _⟩ := hT0
      rw [z] at ho
      have := he.symm.trans ho
      cases this
      exact absurd (show Value.type "enumerate" = Value.type "tuple" from hc) (by decide)
    have nia : a ≠ it := fun z => by
      obtain ⟨o, ho, hc, _⟩ := hT0
      obtain ⟨o', ho', hc', _⟩ := hit
      rw [z, ho'] at ho
      cases ho
      rw [hc'] at hc; exact absurd hc (by decide)
    have D := Draws.tuple (prog := X.prog) (w := X.w) (A := X.A.in1) (by show X.A.handled = none; exact I.ok.hd hc) it a nia its.toArray
    have hlt : i < its.toArray.size := by
      have := (List.getElem?_eq_some_iff.mp hu).1
      simpa using this
    refine wpAny_pyNext_enum_itemD D he ⟨hit, hT0⟩ hlt hne (by simp; exact ⟨hne, Ne.symm nea⟩) fun x' h' tk hx' ho hit' hT hsz hk => ?_
    have ex : x' = u := by
      have hx' : its.toArray[i]? = some x' := hx'
      rw [List.getElem?_toArray, hu] at hx'
      exact (Option.some.inj hx').symm
    subst ex
    refine ⟨_, rfl, wpAny_letOwnedTupleGo_enum (s := { s with heap := h', toks := tk + 1 }) ho fun h'' he' sb => ?_⟩
    have hT2 : h''.get? s.heap.objs.size = some { cls := .type "tuple", data := .seq #[.int i tk, x'] } := (sb.2 _ (Nat.ne_of_gt hel)).trans hT
    have new : ObjOk X.prog X.w (upd H s.heap.objs.size (.tup [.int (i : Nat), x])) h'' s.heap.objs.size (.tup [.int (i : Nat), x]) :=
      ⟨by show 2 ≤ sizeLine; decide, [.int i tk, x'], .cons ⟨_, rfl⟩ (.cons ru .nil), ⟨_, hT2, rfl, _, rfl⟩⟩
    have I1 : Inv X pins σ (upd H s.heap.objs.size (.tup [.int (i : Nat), x])) { s with heap := h'', toks := tk + 1 } :=
      I.turnedNew (ch := [e, it]) (fun b ob hb q => (sb.2 b (fun z => hb (by simp [z]))).trans (hk b ob (fun z => hb (by simp [z])) (fun z => hb (by simp [z])) q)) hf (Nat.le_refl _) new
    refine ⟨.ref s.heap.objs.size, _, I1, rfl, ⟨_, x, rfl, I.hok.fresh (Nat.le_refl _), rfl, fun ys hy => by rw [I.tuple_inj hy hq]; exact hx⟩, ⟨⟨x', ?_⟩, hit'.1.at fun o q => (sb.2 it (Ne.symm hne)).trans q, hne⟩, fun b hb => ?_⟩
    · have e1 : ((i + 1 : Nat) : Int) = (i : Int) + 1 := by omega
      rw [e1]; exact he'
    · have hb' : b < s.heap.objs.size := by
        have e' : b = e ∨ b = it := by simpa using hb
        rcases e' with z | z
        · rw [z]; exact hel
        · rw [z]; exact hil
      rw [upd_ne (Nat.ne_of_lt hb')]
      exact (hf b hb).1
  done := by
    intro X hP hw hK hc i pins s σ H E I hf st hg
    subst hP hw hK
    obtain ⟨⟨old, he⟩, hit, hne⟩ := st
    obtain ⟨xs, hq, hx⟩ := hg
    obtain ⟨its, rv, p, hz⟩ := I.tuple hq
    have hT0 : s.heap.IsTuple a its.toArray := p
    have nia : a ≠ it := fun z => by
      obtain ⟨o, ho, hc, _⟩ := hT0
      obtain ⟨o', ho', hc', _⟩ := hit
      rw [z, ho'] at ho
      cases ho
      rw [hc'] at hc; exact absurd hc (by decide)
    obtain ⟨f0, f1, f2, f3, f4, f5⟩ := hf it (by simp)
    have hl := rv.length
    have hT : s.TypeIs (.ref e) "enumerate" := ⟨_, he, rfl⟩
    unfold pyNext
    refine wpAny_bind (wpAny_attempt (wpAny_callSpecial?_slot (name := Str.ofString "__next__") hT F.slot_enumerate_next
      (wpAny_call_entry F.slot_enumerate_next hT F.entry_enumerate_next ?_ (F.args_enumerate_next_1 _))))
    show wpAny _ _ (field (.ref e) 2 >>= _) _ _ _
    refine wpAny_bind (wpAny_field he rfl (x := .ref it) rfl ?_)
    refine wpAny_bind (wpAny_nextOf_tuple_end (by show X.A.handled = none; exact I.ok.hd hc) hit hT0 (by simp; omega) fun h' x he' hx' => ?_)
    obtain ⟨o, ho, hcc⟩ := hx'
    refine wpAny_bind (wpAny_isInstance (T := "StopIteration") (b := true) ⟨o, ho, hcc⟩ isSubtype_stop ?_)
    exact wpAny_pure ⟨rfl, I.turned (t' := s.toks) (fun b o hb q => he' b o hb q) f0 f1 f3 f4 f5⟩
  self := fun A i s Q E st h => let ⟨⟨_, he⟩, _⟩ := st; wpAny_pyIter_enum he h

def iEnumT (K : PySem.W.Frag) (ta : TA) : TI := fun σ H R => ta σ H fun vs H1 => ∃ a xs, vs = [.ref a] ∧ ((SqL K H1 a xs ∧ R (Ite K a) H1) ∨ (SqT K H1 a xs ∧ R (Itet K a) H1))
theorem begins_tuple {a : Addr} {items : Array Value} : Begins (.ref a) { cls := .type "tuple_iterator", data := .fields #[.ref a, .int 0 0] } (fun h => h.IsTuple a items) :=
  ⟨fun prog w A E s Q h q => wpAny_pyIter_tuple h q, fun h h' ⟨o, ho, r⟩ k => ⟨o, k _ _ ho, r⟩, rfl⟩
theorem pi_enumT {X : Cx} {e : Expr} {ta : TA} {p pos tpos : Pos} {elts : List Expr} {kk : Nat} (hg : Gl X "enumerate") (hm : X.mg "enumerate" = none) (ha : PA X [e] ta) (hs : starEach [e] X.env = [(false, eval e X.env)] := by rfl) :
    PI X (.Tuple elts kk tpos) (.Call (.Name "enumerate" p) [e] [] pos) (iEnumT X.K ta) := by
  refine ⟨fun pins s σ H R I h => ?_⟩
  refine Call_ (ld_blt I hg hm boot_enumerate (PyProof.Rows.callWith_type1 (thn (ha.run pos pins s σ H _ I h) fun us s1 ⟨vs, H1, I1, r1, q1⟩ => ?_) hs rfl))
  obtain ⟨a, xs, ex, q⟩ := q1
  subst ex
  cases r1 with
  | cons r rr =>
    cases rr
    cases r
    have fin : ∀ b, b = s1.heap.objs.size + 1 ∨ b = s1.heap.objs.size → FpOk X pins H1 b := fun b e' => by
      have hle : s1.heap.objs.size ≤ b := by
        rcases e' with z | z
        · rw [z]; exact Nat.le_add_right _ _
        · rw [z]; exact Nat.le_refl _
      exact I1.fpOk hle (I1.hok.fresh hle)
    rcases q with ⟨hq, q⟩ | ⟨hq, q⟩
    · obtain ⟨its, rv, p', hz⟩ := I1.list hq
      refine call_enumerate_list p'.isList fun h' he hit hsz hk => wpAny_pyIter_enum he ?_
      have I2 : Inv X pins σ H1 { s1 with heap := h' } := I1.kept (t' := s1.toks) hk
      exact ⟨s1.heap.objs.size + 1, [s1.heap.objs.size + 1, s1.heap.objs.size], _, _, H1, rfl, I2, turn_enum a (s1.heap.objs.size + 1) s1.heap.objs.size, ⟨⟨.none, he⟩, hit, Nat.succ_ne_self _⟩, fun b hb => fin b (by simpa using hb), q⟩
    · obtain ⟨its, rv, p', hz⟩ := I1.tuple hq
      refine enum_begins1 begins_tuple (show s1.heap.IsTuple a its.toArray from p') fun h' he hit hsz hk => wpAny_pyIter_enum he ?_
      have I2 : Inv X pins σ H1 { s1 with heap := h' } := I1.kept (t' := s1.toks) hk
      exact ⟨s1.heap.objs.size + 1, [s1.heap.objs.size + 1, s1.heap.objs.size], _, _, H1, rfl, I2, turn_enumT a (s1.heap.objs.size + 1) s1.heap.objs.size, ⟨⟨.none, he⟩, ⟨_, hit, rfl, rfl⟩, Nat.succ_ne_self _⟩, fun b hb => fin b (by simpa using hb), q⟩
theorem walk_enumT {K : PySem.W.Frag} {a : Addr} {xs : List V} : Walk (Itet K a) xs.length (fun H => SqT K H a xs) (YPair (fun i => some (.int (i : Nat))) (fun i => xs[i]?)) := by
  refine ⟨fun i _ hi q => ⟨xs, xs[i], q, by simp [hi]⟩, fun _ q => ⟨xs, q, Nat.le_refl _⟩, fun i H v H' _ q y => ?_⟩
  obtain ⟨T, x, h1, h2, h3, h4⟩ := y
  exact ⟨T, .int (i : Nat), x, h1, h2, h3, rfl, h4 xs q⟩
end Fx

set_option Elab.async false
set_option linter.all false
set_option maxRecDepth 100000
set_option maxHeartbeats 2000000
namespace Fx
open PySem PySem.Spec PyProof.Rows L2 RZ

/-! ### what is walked -/
/-- J walks the data ds, whatever is done to what is not frozen -/
def DW (K : PySem.W.Frag) (J : It) (ds : List PyData) (H : Hp) (F : Addr → Prop) : Prop :=
  ∃ (n : Nat) (G : Hp → Prop) (Y : Nat → Hp → V → Hp → Prop), Walk J n G Y ∧ n = ds.length ∧ (∀ H' F', Gr H F H' F' → G H') ∧
    ∀ i H' F' v H'', Gr H F H' F' → i < n → Y i H' v H'' → (H'' = H' ∨ ∃ T xs, H' T = none ∧ H'' = upd H' T (.tup xs)) ∧ ∀ d, ds[i]? = some d → Dt K H'' F' d v
def tI (K : PySem.W.Frag) (mg : Str → Option Value) (C : En) (W : WX) (m : M (List PyData)) : TI := fun σ H R => ∃ F ρ, Ok K C σ H F ρ ∧ wp m ρ (fun ds ρ' => ∀ J H' F', Ok K C σ H' F' ρ' → Gr H F H' F' → DW K J ds H' F' → R J H') (ExcW K mg C W σ)
abbrev GI (X : Cx) (C : En) (W : WX) (tg e : Expr) (m : M (List PyData)) : Prop := PI X tg e (tI X.K X.mg C W m)
theorem _root_.L2.PI.imp {X : Cx} {tg e : Expr} {t t' : TI} (h : PI X tg e t) (k : ∀ σ H R, t' σ H R → t σ H R) : PI X tg e t' := ⟨fun pins s σ H R I q => h.run pins s σ H R I (k σ H R q)⟩
def charD (z : Str) : List PyData := z.cps.toList.map fun c => .str ⟨#[c]⟩
/-- the items of a list, a tuple, a text -/
def itemsB (d : PyData) : M (List PyData) := fun ρ => match d with
  | .list ds => .ok ds ρ
  | .tuple ds => .ok ds ρ
  | .str z => .ok (charD z) ρ
  | _ => .bad
section
variable {K : PySem.W.Frag} {H : Hp} {F : Addr → Prop}
theorem dw_list {a : Addr} {vs : List V} {ds : List PyData} (hf : F a) (h : H a = some (.lst vs)) (d : DtA K H F ds vs) : DW K (Itl K a) ds H F :=
  ⟨_, _, _, walk_list (xs := vs), d.len, fun H' F' g => SqL.of (g.lst _ _ hf h), fun i H' F' v H'' g hi ⟨e, y⟩ => ⟨.inl e, fun d' hd => by
    subst e
    obtain ⟨v', hv', dv⟩ := d.get hd
    rw [hv'] at y; cases y
    exact Dt.mono g _ _ dv⟩⟩
theorem dw_tup {a : Addr} {vs : List V} {ds : List PyData} (h : SqT K H a vs) (d : DtA K H F ds vs) : DW K (Itt K a) ds H F :=
  ⟨_, _, _, walk_tup (xs := vs), d.len, fun H' F' g => g.sqT h, fun i H' F' v H'' g hi ⟨e, y⟩ => ⟨.inl e, fun d' hd => by
    subst e
    obtain ⟨v', hv', dv⟩ := d.get hd
    rw [hv'] at y; cases y
    exact Dt.mono g _ _ dv⟩⟩
theorem dw_str {z : Str} : DW K (Its z) (charD z) H F :=
  ⟨_, _, _, walk_str (z := z), by simp [charD], fun H' F' g => trivial, fun i H' F' v H'' g hi ⟨e, c, hc, ev⟩ => ⟨.inl e, fun d' hd => by
    unfold charD at hd
    rw [List.getElem?_map, Array.getElem?_toList, hc] at hd
    cases hd
    rw [ev, Dt]⟩⟩
def rangeD (lo c : Int) (n : Nat) : List PyData := (List.range n).map fun i => .int (lo + (i : Nat) * c)
def rangeD1 (lo : Int) (n : Nat) : List PyData := (List.range n).map fun i => .int (lo + (i : Nat))
theorem dw_range {lo : Int} {n : Nat} : DW K (Itr lo n) (rangeD1 lo n) H F :=
  ⟨_, _, _, walk_range, by simp [rangeD1], fun _ _ _ => trivial, fun i H' F' v H'' g hi ⟨e, y⟩ => ⟨.inl e, fun d' hd => by
    unfold rangeD1 at hd
    rw [List.getElem?_map, List.getElem?_range hi] at hd
    cases hd
    rw [y, Dt]⟩⟩
theorem dw_rangeC {lo c : Int} {n : Nat} : DW K (Itc lo c n) (rangeD lo c n) H F :=
  ⟨_, _, _, walk_rangeC, by simp [rangeD], fun _ _ _ => trivial, fun i H' F' v H'' g hi ⟨e, y⟩ => ⟨.inl e, fun d' hd => by
    unfold rangeD at hd
    rw [List.getElem?_map, List.getElem?_range hi] at hd
    cases hd
    rw [y, Dt]⟩⟩
def zipD (xs ys : List PyData) : List PyData := List.zipWith (fun x y => .tuple [x, y]) xs ys
def enumD (xs : List PyData) : List PyData := zipD (rangeD1 0 xs.length) xs
theorem dw_pair {J : It} {n : Nat} {G : Hp → Prop} {xs ys : Nat → Option V} {ds : List PyData} (w : Walk J n G (YPair xs ys)) (hn : n = ds.length) (hG : ∀ H' F', Gr H F H' F' → G H')
    (hd : ∀ i d, ds[i]? = some d → ∃ x y v u, d = .tuple [x, y] ∧ xs i = some v ∧ ys i = some u ∧ Dt K H F x v ∧ Dt K H F y u) : DW K J ds H F :=
  ⟨_, _, _, w, hn, hG, fun i H' F' v H'' g hi ⟨T, x, y, e1, e2, e3, e4, e5⟩ => ⟨.inr ⟨T, _, e2, e3⟩, fun d' hd' => by
    obtain ⟨dx, dy, v1, v2, ed, a1, a2, b1, b2⟩ := hd i d' hd'
    rw [e4] at a1; rw [e5] at a2
    cases a1; cases a2
    subst e1 e3 ed
    have g2 := g.trans (gr_new (F := F') (o := .tup [x, y]) e2)
    rw [Dt]
    exact ⟨T, [x, y], rfl, SqT.of upd_same, DtA.cons (Dt.mono g2 _ _ b1) (DtA.cons (Dt.mono g2 _ _ b2) DtA.nil)⟩⟩⟩
end
section
variable {X : Cx} {C : En} {W : WX} {a b c e tg : Expr} {pos p2 : Pos} {m ma mb mc : M Rv} {q : M PyData}
/-- a list, a tuple, a text, walked -/
theorem pi_seq {l : Expr} {tl : TE} (hl : PE X l tl) : PI X tg l (fun σ H R => tl σ H fun x H1 => (∃ a, x = .ref a ∧ (∃ xs, SqL X.K H1 a xs) ∧ R (Itl X.K a) H1) ∨ (∃ a, x = .ref a ∧ (∃ xs, SqT X.K H1 a xs) ∧ R (Itt X.K a) H1) ∨ ∃ z, x = .str z ∧ R (Its z) H1) := by
  refine ⟨fun pins s σ H R I h => ?_⟩
  refine thn (hl.run pins s σ H _ I h) fun v s1 ⟨x, H1, I1, r1, q1⟩ => ?_
  rcases q1 with q1 | q1 | q1
  · obtain ⟨a, e, ⟨xs, hq⟩, q⟩ := q1
    subst e
    cases r1
    obtain ⟨its, rv, p, hz⟩ := I1.list hq
    refine wpAny_pyIter_list p.isList ?_
    refine ⟨s1.heap.objs.size, [s1.heap.objs.size], _, _, H1, rfl, I1.kept (t' := s1.toks) fun b o e => Heap.get?_push_of_some _ e, turn_list a _, ⟨_, Heap.get?_push_size _ rfl, rfl, rfl⟩, fun b hb => ?_, q⟩
    have e : b = s1.heap.objs.size := by simpa using hb
    subst e
    exact I1.fpOk (Nat.le_refl _) (I1.hok.fresh (Nat.le_refl _))
  · obtain ⟨a, e, ⟨xs, hq⟩, q⟩ := q1
    subst e
    cases r1
    obtain ⟨its, rv, p, hz⟩ := I1.tuple hq
    refine wpAny_pyIter_tuple (show s1.heap.IsTuple a its.toArray from p) ?_
    refine ⟨s1.heap.objs.size, [s1.heap.objs.size], _, _, H1, rfl, I1.kept (t' := s1.toks) fun b o e => Heap.get?_push_of_some _ e, turn_tuple a _, ⟨_, Heap.get?_push_size _ rfl, rfl, rfl⟩, fun b hb => ?_, q⟩
    have e : b = s1.heap.objs.size := by simpa using hb
    subst e
    exact I1.fpOk (Nat.le_refl _) (I1.hok.fresh (Nat.le_refl _))
  · obtain ⟨z, e, q⟩ := q1
    subst e
    obtain ⟨t, rfl⟩ := r1
    cases ha : z.cps.all (· < 128)
    · exact wpAny_pyIter_wide ha (pi_one (tk := s1.toks) I1 _ (turn_str _ z t "str_iterator" (.inr rfl)) ⟨_, Heap.get?_push_size _ rfl, rfl, rfl⟩ q)
    · exact wpAny_pyIter_ascii ha (pi_one (tk := s1.toks) I1 _ (turn_str _ z t "str_ascii_iterator" (.inl rfl)) ⟨_, Heap.get?_push_size _ rfl, rfl, rfl⟩ q)
theorem gi_seq (h : GE X C W e m) : GI X C W tg e (M.bindD m itemsB) := (pi_seq h).imp fun σ H R ⟨F, ρ, ok, h⟩ => by
  rw [wp_bindD] at h
  refine ⟨F, ρ, ok, wp_mono h fun r ρ1 h1 v H1 F1 ok1 g1 rv => ?_⟩
  obtain ⟨F2, ok2, g2, d2⟩ := ok1.freeze rv
  unfold wp itemsB at h1
  cases hd : r.d with
  | list ds =>
    rw [hd] at h1 d2
    rw [Dt] at d2
    obtain ⟨a, vs, e, f, hp, dd⟩ := d2
    exact .inl ⟨a, e, ⟨vs, SqL.of hp⟩, h1 _ H1 F2 ok2 (g1.trans g2) (dw_list f hp dd)⟩
  | tuple ds =>
    rw [hd] at h1 d2
    rw [Dt] at d2
    obtain ⟨a, vs, e, hp, dd⟩ := d2
    exact .inr (.inl ⟨a, e, ⟨vs, hp⟩, h1 _ H1 F2 ok2 (g1.trans g2) (dw_tup hp dd)⟩)
  | str z =>
    rw [hd] at h1 d2
    rw [Dt] at d2
    exact .inr (.inr ⟨z, d2, h1 _ H1 F2 ok2 (g1.trans g2) dw_str⟩)
  | none => rw [hd] at h1; exact h1.elim
  | bool _ => rw [hd] at h1; exact h1.elim
  | int _ => rw [hd] at h1; exact h1.elim
  | dict _ => rw [hd] at h1; exact h1.elim
/-! ranges -/
def M.guard {α : Type} (b : Bool) (a : α) : M α := bif b then M.pure a else M.bad
theorem wp_guard {α : Type} {b : Bool} {a : α} {ρ : Rho} {Q : α → Rho → Prop} {E : Str → PyData → Rho → Prop} : wp (M.guard b a) ρ Q E ↔ b = true ∧ Q a ρ := by
  unfold M.guard
  cases b <;> simp
def rng1 : List PyData → M (List PyData)
  | [.int j] => M.guard (decide (-(2 ^ 62) ≤ j ∧ j < 2 ^ 62)) (rangeD1 0 j.toNat)
  | _ => M.bad
def rng2 : List PyData → M (List PyData)
  | [.int i, .int j] => M.guard (decide (-(2 ^ 62) ≤ i ∧ i < 2 ^ 62 ∧ -(2 ^ 62) ≤ j ∧ j < 2 ^ 62)) (rangeD1 i (j - i).toNat)
  | _ => M.bad
/-- range(i, j, -1) -/
def rng3 : List PyData → M (List PyData)
  | [.int i, .int j, .int c] => M.guard (decide (c = -1 ∧ -(2 ^ 62) ≤ i ∧ i < 2 ^ 62 ∧ -(2 ^ 62) ≤ j ∧ j < 2 ^ 62)) (rangeD i (-1) (i - j).toNat)
  | _ => M.bad
section
variable {es : List Expr} {ms : M (List PyData)} {p : Pos}
theorem gi_range1 (hm : X.mg "range" = none) (ha : GA X C W [a] ms) (hg : Gl X "range" := by rfl) (hs : starEach [a] X.env = [(false, eval a X.env)] := by rfl) : GI X C W tg (.Call (.Name "range" p) [a] [] pos) (M.bind ms rng1) := (pi_range1 hg hm ha hs).imp fun σ H R ⟨F, ρ, ok, h⟩ => by
  rw [wp_bind] at h
  refine ⟨F, ρ, ok, wp_mono h fun ds ρ1 h1 vs H1 F1 ok1 g1 dd => ?_⟩
  unfold rng1 at h1
  split at h1
  · rename_i j
    rw [wp_guard, decide_eq_true_eq] at h1
    obtain ⟨hb, h1⟩ := h1
    exact ⟨j, DtA.ints (ns := [j]) dd, hb.1, hb.2, h1 _ H1 F1 ok1 g1 dw_range⟩
  · exact h1.elim
theorem gi_range2 (hm : X.mg "range" = none) (ha : GA X C W [a, b] ms) (hg : Gl X "range" := by rfl) (hs : starEach [a, b] X.env = [(false, eval a X.env), (false, eval b X.env)] := by rfl) (hs2 : starEach [b] X.env = [(false, eval b X.env)] := by rfl) :
    GI X C W tg (.Call (.Name "range" p) [a, b] [] pos) (M.bind ms rng2) := (pi_range2 hg hm ha hs hs2).imp fun σ H R ⟨F, ρ, ok, h⟩ => by
  rw [wp_bind] at h
  refine ⟨F, ρ, ok, wp_mono h fun ds ρ1 h1 vs H1 F1 ok1 g1 dd => ?_⟩
  unfold rng2 at h1
  split at h1
  · rename_i i j
    rw [wp_guard, decide_eq_true_eq] at h1
    obtain ⟨hb, h1⟩ := h1
    exact ⟨i, j, DtA.ints (ns := [i, j]) dd, hb, h1 _ H1 F1 ok1 g1 dw_range⟩
  · exact h1.elim
theorem gi_range3 (hm : X.mg "range" = none) (ha : GA X C W [a, b, c] ms) (hg : Gl X "range" := by rfl) (hs : starEach [a, b, c] X.env = (false, eval a X.env) :: starEach [b, c] X.env := by rfl) (hpl : (backTo pos (starEach [b, c] X.env)).any (·.1) = false := by rfl) :
    GI X C W tg (.Call (.Name "range" p) [a, b, c] [] pos) (M.bind ms rng3) := (pi_range3 hg hm ha hs hpl).imp fun σ H R ⟨F, ρ, ok, h⟩ => by
  rw [wp_bind] at h
  refine ⟨F, ρ, ok, wp_mono h fun ds ρ1 h1 vs H1 F1 ok1 g1 dd => ?_⟩
  unfold rng3 at h1
  split at h1
  · rename_i i j k
    rw [wp_guard, decide_eq_true_eq] at h1
    obtain ⟨hb, h1⟩ := h1
    obtain ⟨rfl, hb⟩ := hb
    exact ⟨i, j, -1, _, DtA.ints (ns := [i, j, -1]) dd, RgC.neg hb.1 hb.2.1 hb.2.2.1 hb.2.2.2, h1 _ H1 F1 ok1 g1 dw_rangeC⟩
  · exact h1.elim
/-! enumerate, zip -/
def enumB : List PyData → M (List PyData)
  | [.list ds] => M.pure (enumD ds)
  | [.tuple ds] => M.pure (enumD ds)
  | _ => M.bad
def zipB : List PyData → M (List PyData)
  | [.list xs, .list ys] => M.pure (zipD xs ys)
  | [.tuple xs, .tuple ys] => M.pure (zipD xs ys)
  | _ => M.bad
theorem zipD_get {xs ys : List PyData} {i : Nat} {d : PyData} (h : (zipD xs ys)[i]? = some d) : ∃ x y, d = .tuple [x, y] ∧ xs[i]? = some x ∧ ys[i]? = some y := by
  unfold zipD at h
  rw [List.getElem?_zipWith] at h
  cases hx : xs[i]? with
  | none => rw [hx] at h; simp at h
  | some x =>
    cases hy : ys[i]? with
    | none => rw [hx, hy] at h; simp at h
    | some y => rw [hx, hy] at h; simp at h; exact ⟨x, y, h.symm, rfl, rfl⟩
theorem enum_get {ds : List PyData} {vs : List V} {K : PySem.W.Frag} {H : Hp} {F : Addr → Prop} (dd : DtA K H F ds vs) (i : Nat) (d : PyData) (h : (enumD ds)[i]? = some d) :
    ∃ x y v u, d = .tuple [x, y] ∧ some (V.int (i : Nat)) = some v ∧ vs[i]? = some u ∧ Dt K H F x v ∧ Dt K H F y u := by
  obtain ⟨x, y, e, h1, h2⟩ := zipD_get h
  unfold rangeD1 at h1
  obtain ⟨hlt, _⟩ := List.getElem?_eq_some_iff.mp h2
  rw [List.getElem?_map, List.getElem?_range hlt] at h1
  cases h1
  obtain ⟨u, hu, du⟩ := dd.get h2
  exact ⟨_, y, _, u, e, rfl, hu, by rw [Dt, Int.zero_add], du⟩
theorem enumD_len {ds : List PyData} : (enumD ds).length = ds.length := by simp [enumD, zipD, rangeD1]
theorem gi_enum {elts : List Expr} {kk : Nat} {tpos : Pos} (hm : X.mg "enumerate" = none) (ha : GA X C W [a] ms) (hg : Gl X "enumerate" := by rfl) (hs : starEach [a] X.env = [(false, eval a X.env)] := by rfl) :
    GI X C W (.Tuple elts kk tpos) (.Call (.Name "enumerate" p) [a] [] pos) (M.bind ms enumB) := (pi_enumT hg hm ha hs).imp fun σ H R ⟨F, ρ, ok, h⟩ => by
  rw [wp_bind] at h
  refine ⟨F, ρ, ok, wp_mono h fun ds ρ1 h1 vs H1 F1 ok1 g1 dd => ?_⟩
  unfold enumB at h1
  split at h1
  · rename_i ds
    rw [wp_pure] at h1
    rw [DtA] at dd
    obtain ⟨v, r, e, d1, d2⟩ := dd
    rw [DtA] at d2
    subst d2 e
    rw [Dt] at d1
    obtain ⟨p', ws, e1, hf, hp, dw⟩ := d1
    subst e1
    exact ⟨p', ws, rfl, .inl ⟨SqL.of hp, h1 _ H1 F1 ok1 g1 (dw_pair (walk_enum (xs := ws)) (by rw [enumD_len, dw.len]) (fun H' F' g => SqL.of (g.lst _ _ hf hp)) (enum_get dw))⟩⟩
  · rename_i ds
    rw [wp_pure] at h1
    rw [DtA] at dd
    obtain ⟨v, r, e, d1, d2⟩ := dd
    rw [DtA] at d2
    subst d2 e
    rw [Dt] at d1
    obtain ⟨p', ws, e1, hp, dw⟩ := d1
    subst e1
    exact ⟨p', ws, rfl, .inr ⟨hp, h1 _ H1 F1 ok1 g1 (dw_pair (walk_enumT (xs := ws)) (by rw [enumD_len, dw.len]) (fun H' F' g => g.sqT hp) (enum_get dw))⟩⟩
  · exact h1.elim
theorem walk_zipT {K : PySem.W.Frag} {a b : Addr} {xs ys : List V} {n : Nat} (hn : n = min xs.length ys.length) : Walk (ItzT K a b) n (fun H => SqT K H a xs ∧ SqT K H b ys) (YPair (fun i => xs[i]?) (fun i => ys[i]?)) := by
  subst hn
  refine ⟨fun i _ hi q => ?_, fun _ q => ⟨xs, ys, q.1, q.2, by omega⟩, fun i H v H' _ q y => ?_⟩
  · have h1 : i < xs.length := by omega
    have h2 : i < ys.length := by omega
    exact ⟨xs, ys, xs[i], ys[i], q.1, q.2, by simp [h1], by simp [h2]⟩
  · obtain ⟨T, x, z, h1, h2, h3, h4, h5⟩ := y
    exact ⟨T, x, z, h1, h2, h3, h4 xs q.1, h5 ys q.2⟩
theorem zip_get {ds es : List PyData} {vs us : List V} {K : PySem.W.Frag} {H : Hp} {F : Addr → Prop} (dd : DtA K H F ds vs) (de : DtA K H F es us) (i : Nat) (d : PyData) (h : (zipD ds es)[i]? = some d) :
    ∃ x y v u, d = .tuple [x, y] ∧ vs[i]? = some v ∧ us[i]? = some u ∧ Dt K H F x v ∧ Dt K H F y u := by
  obtain ⟨x, y, e, h1, h2⟩ := zipD_get h
  obtain ⟨v, hv, dv⟩ := dd.get h1
  obtain ⟨u, hu, du⟩ := de.get h2
  exact ⟨x, y, v, u, e, hv, hu, dv, du⟩
theorem gi_zip {elts : List Expr} {kk : Nat} {tpos : Pos} (hm : X.mg "zip" = none) (ha : GA X C W [a, b] ms) (hg : Gl X "zip" := by rfl) (hs : starEach [a, b] X.env = (false, eval a X.env) :: starEach [b] X.env := by rfl) (hpl : (backTo pos (starEach [b] X.env)).any (·.1) = false := by rfl) :
    GI X C W (.Tuple elts kk tpos) (.Call (.Name "zip" p) [a, b] [] pos) (M.bind ms zipB) := (pi_zipA hg hm ha hs hpl).imp fun σ H R ⟨F, ρ, ok, h⟩ => by
  rw [wp_bind] at h
  refine ⟨F, ρ, ok, wp_mono h fun ds ρ1 h1 vs H1 F1 ok1 g1 dd => ?_⟩
  unfold zipB at h1
  split at h1
  · rename_i xs ys
    rw [wp_pure] at h1
    rw [DtA] at dd
    obtain ⟨v, r, e, d1, d2⟩ := dd
    rw [DtA] at d2
    obtain ⟨v2, r2, e2, d2, d3⟩ := d2
    rw [DtA] at d3
    subst d3 e2 e
    rw [Dt] at d1 d2
    obtain ⟨p1, ws, e1, hf, hp, dw⟩ := d1
    obtain ⟨p2, us, e2, hf2, hp2, dw2⟩ := d2
    subst e1 e2
    exact ⟨p1, p2, ws, us, rfl, .inl ⟨SqL.of hp, SqL.of hp2, h1 _ H1 F1 ok1 g1 (dw_pair (walk_zip (xs := ws) (ys := us) rfl) (by simp [zipD, dw.len, dw2.len]) (fun H' F' g => ⟨SqL.of (g.lst _ _ hf hp), SqL.of (g.lst _ _ hf2 hp2)⟩) (zip_get dw dw2))⟩⟩
  · rename_i xs ys
    rw [wp_pure] at h1
    rw [DtA] at dd
    obtain ⟨v, r, e, d1, d2⟩ := dd
    rw [DtA] at d2
    obtain ⟨v2, r2, e2, d2, d3⟩ := d2
    rw [DtA] at d3
    subst d3 e2 e
    rw [Dt] at d1 d2
    obtain ⟨p1, ws, e1, hp, dw⟩ := d1
    obtain ⟨p2, us, e2, hp2, dw2⟩ := d2
    subst e1 e2
    exact ⟨p1, p2, ws, us, rfl, .inr ⟨hp, hp2, h1 _ H1 F1 ok1 g1 (dw_pair (walk_zipT (xs := ws) (ys := us) rfl) (by simp [zipD, dw.len, dw2.len]) (fun H' F' g => ⟨g.sqT hp, g.sqT hp2⟩) (zip_get dw dw2))⟩⟩
  · exact h1.elim
end
end
end Fx

set_option Elab.async false
set_option linter.all false
set_option maxRecDepth 100000
set_option maxHeartbeats 2000000
namespace Fx
open PySem PySem.Spec PyProof.Rows L2 RZ

/-! ### targets: a name, or names in a tuple -/
inductive Tg where
  | nm (i : Nat)
  | tp (is : List Nat)
  | ls (is : List Nat)
def setAll : List Nat → List PyData → Rho → Rho
  | i :: is, d :: ds, ρ => setAll is ds (ρ.set i (some (.val d)))
  | _, _, ρ => ρ
def Tg.set : Tg → PyData → Rho → Option Rho
  | .nm i, d, ρ => some (ρ.set i (some (.val d)))
  | .tp is, .tuple ds, ρ => bif ds.length == is.length then some (setAll is ds ρ) else none
  | .tp _, _, _ => none
  | .ls is, .list ds, ρ => bif ds.length == is.length then some (setAll is ds ρ) else none
  | .ls _, _, _ => none
def Tg.slots : Tg → List Nat
  | .nm i => [i]
  | .tp is => is
  | .ls is => is
theorem wipe_set {x : Option V} : ∀ {vs : List Nat} {σ : L2.St} {i : Nat}, wipe (σ.set i x) vs = if i ∈ vs then wipe σ vs else (wipe σ vs).set i x
  | [], σ, i => by simp [wipe]
  | v :: vs, σ, i => by
    unfold wipe
    rw [wipe_set (vs := vs)]
    by_cases h : i ∈ vs
    · simp [h]
    · by_cases e : i = v
      · subst e; simp [h]
      · simp only [h, if_false, List.mem_cons, e, or_self]
        exact (List.set_comm _ _ (Ne.symm e)).symm ▸ rfl
theorem wipe_set_mem {x : Option V} {vs : List Nat} {σ : L2.St} {i : Nat} (h : i ∈ vs) : wipe (σ.set i x) vs = wipe σ vs := by rw [wipe_set, if_pos h]
/-- what storing at a target does -/
def tgR (K : PySem.W.Frag) (C : En) (t : Tg) : TG := fun v σ H Q => ∃ F ρ d ρ', Ok K C σ H F ρ ∧ Dt K H F d v ∧ t.set d ρ = some ρ' ∧ ∀ σ', Ok K C σ' H F ρ' → (∀ vs, (∀ i ∈ t.slots, i ∈ vs) → wipe σ' vs = wipe σ vs) → Q σ' H
def gNames : List Nat → TGs
  | [] => gNil
  | i :: is => gCons (gName i) (gNames is)
section
variable {X : Cx} {C : En} {W : WX}
theorem _root_.L2.PG.imp {tg : Expr} {t t' : TG} (h : PG X tg t) (k : ∀ v σ H Q, t' v σ H Q → t v σ H Q) : PG X tg t' := ⟨fun pins s σ H v u Q I r q => h.run pins s σ H v u Q I r (k v σ H Q q)⟩
theorem gg_name {i : Nat} {x : Str} {pos : Pos} (hN : X.N.Nodup) (hi : X.N[i]? = some x) (hx : Loc X.env.scope x := by first | exact .inl rfl | exact .inr rfl) (hf : X.fn x = true ∨ X.env.scope.names.lookup x = some .local := by first | exact .inl rfl | exact .inr rfl) :
    PG X (.Name x pos) (tgR X.K C (.nm i)) := (pg_name hN hi hx hf).imp fun v σ H Q ⟨F, ρ, d, ρ', ok, dt, e, q⟩ => by
  cases e
  exact q _ (ok.store (r := .val d) dt) fun vs h => wipe_set_mem (h i (by simp [Tg.slots]))
theorem ggs_nil : PGs X [] (gNames []) := pgs_nil
theorem ggs_cons {i : Nat} {x : Str} {pos : Pos} {es : List Expr} {is : List Nat} (hN : X.N.Nodup) (hi : X.N[i]? = some x) (h : PGs X es (gNames is)) (hx : Loc X.env.scope x := by first | exact .inl rfl | exact .inr rfl) (hf : X.fn x = true ∨ X.env.scope.names.lookup x = some .local := by first | exact .inl rfl | exact .inr rfl)
    (hs : (assignEach (.Name x pos :: es) X.env).map (·.2) = assign (.Name x pos) X.env :: (assignEach es X.env).map (·.2) := by rfl) : PGs X (.Name x pos :: es) (gNames (i :: is)) := pgs_cons (pg_name hN hi hx hf) h hs
theorem gNames_rd {K : PySem.W.Frag} : ∀ {is : List Nat} {ds : List PyData} {vs : List V} {σ : L2.St} {H : Hp} {F : Addr → Prop} {ρ : Rho} {Q : L2.St → Hp → Prop}, Ok K C σ H F ρ → DtA K H F ds vs → ds.length = is.length →
    (∀ σ', Ok K C σ' H F (setAll is ds ρ) → (∀ us, (∀ i ∈ is, i ∈ us) → wipe σ' us = wipe σ us) → Q σ' H) → gNames is vs σ H Q
  | [], ds, vs, σ, H, F, ρ, Q, ok, d, hl, q => by
    have : ds = [] := List.eq_nil_of_length_eq_zero hl
    subst this
    rw [DtA] at d
    exact ⟨d, q σ ok fun _ _ => rfl⟩
  | i :: is, ds, vs, σ, H, F, ρ, Q, ok, d, hl, q => by
    cases ds with
    | nil => simp at hl
    | cons x ds =>
      rw [DtA] at d
      obtain ⟨v, r, e, d1, d2⟩ := d
      refine ⟨v, r, e, ?_⟩
      have ok1 : Ok K C (σ.set i (some v)) H F (ρ.set i (some (.val x))) := ok.store (r := .val x) d1
      refine gNames_rd (is := is) (ds := ds) ok1 d2 (by simpa using hl) fun σ' ok' hw => q σ' ok' fun us hu => ?_
      rw [hw us fun j hj => hu j (List.mem_cons_of_mem _ hj)]
      exact wipe_set_mem (hu i List.mem_cons_self)
theorem gg_tup {es : List Expr} {k : Nat} {is : List Nat} {pos : Pos} (hc : X.calm = true) (h : PGs X es (gNames is)) (hn : (assignEach es X.env).length = is.length := by rfl) (hst : (assignEach es X.env).findIdx? (·.1) = none := by rfl) :
    PG X (.Tuple es k pos) (tgR X.K C (.tp is)) := (pg_tup hc h hn hst).imp fun v σ H Q ⟨F, ρ, d, ρ', ok, dt, e, q⟩ => by
  cases d with
  | tuple ds =>
    rw [Dt] at dt
    obtain ⟨a, vs, ev, hs, dd⟩ := dt
    have e : (bif ds.length == is.length then some (setAll is ds ρ) else none) = some ρ' := e
    cases hl : (ds.length == is.length) with
    | false => rw [hl] at e; cases e
    | true =>
      rw [hl] at e
      cases e
      have hl' : ds.length = is.length := by simpa using hl
      exact ⟨a, vs, ev, hs, by rw [dd.len, hl'], gNames_rd ok dd hl' fun σ' ok' hw => q σ' ok' hw⟩
  | _ => cases e
theorem gg_lst {es : List Expr} {k : Nat} {is : List Nat} {pos : Pos} (hc : X.calm = true) (h : PGs X es (gNames is)) (hn : (assignEach es X.env).length = is.length := by rfl) (hst : (assignEach es X.env).findIdx? (·.1) = none := by rfl) :
    PG X (.Tuple es k pos) (tgR X.K C (.ls is)) := (pg_lst hc h hn hst).imp fun v σ H Q ⟨F, ρ, d, ρ', ok, dt, e, q⟩ => by
  cases d with
  | list ds =>
    rw [Dt] at dt
    obtain ⟨a, vs, ev, fa, ha, dd⟩ := dt
    have e : (bif ds.length == is.length then some (setAll is ds ρ) else none) = some ρ' := e
    cases hl : (ds.length == is.length) with
    | false => rw [hl] at e; cases e
    | true =>
      rw [hl] at e
      cases e
      have hl' : ds.length = is.length := by simpa using hl
      exact ⟨a, vs, ev, SqL.of ha, by rw [dd.len, hl'], gNames_rd ok dd hl' fun σ' ok' hw => q σ' ok' hw⟩
  | _ => cases e
end

/-! ### comprehensions -/
def rwipe (ρ : Rho) : List Nat → Rho
  | [] => ρ
  | v :: vs => (rwipe ρ vs).set v none
theorem rwipe_length (ρ : Rho) : ∀ vs : List Nat, (rwipe ρ vs).length = ρ.length
  | [] => rfl
  | v :: vs => by unfold rwipe; rw [List.length_set, rwipe_length ρ vs]
theorem rwipe_some {ρ : Rho} {i : Nat} {x : Sl} : ∀ {vs : List Nat}, (rwipe ρ vs)[i]? = some (some x) → ρ[i]? = some (some x) ∧ i ∉ vs
  | [], h => ⟨h, by simp⟩
  | v :: vs, h => by
    unfold rwipe at h
    by_cases hi : v = i
    · subst hi
      by_cases hv : v < (rwipe ρ vs).length
      · rw [List.getElem?_set_self hv] at h; cases h
      · rw [List.getElem?_eq_none (by simpa using hv)] at h; cases h
    · rw [List.getElem?_set_ne hi] at h
      obtain ⟨h1, h2⟩ := rwipe_some h
      exact ⟨h1, by simp only [List.mem_cons, not_or]; exact ⟨fun e => hi e.symm, h2⟩⟩
theorem wipe_out' {σ : L2.St} {i : Nat} {vs : List Nat} (h : i ∉ vs) : (wipe σ vs)[i]? = σ[i]? := wipe_out h
theorem Ok.wiped {K : PySem.W.Frag} {C : En} {σ : L2.St} {H : Hp} {F : Addr → Prop} {ρ : Rho} (ok : Ok K C σ H F ρ) (vs : List Nat) : Ok K C (wipe σ vs) H F (rwipe ρ vs) :=
  ⟨by rw [rwipe_length, wipe_length]; exact ok.len, ok.keep, ok.f0, ok.fn, ok.fh, ok.bh, fun i s e => by
    obtain ⟨h1, h2⟩ := rwipe_some e
    obtain ⟨v, hv, hs⟩ := ok.sl i s h1
    exact ⟨v, by rw [wipe_out' h2]; exact hv, hs⟩, fun i j s t p e1 e2 m1 m2 h1 h2 => by
    obtain ⟨a1, a2⟩ := rwipe_some e1
    obtain ⟨b1, b2⟩ := rwipe_some e2
    rw [wipe_out' a2] at h1
    rw [wipe_out' b2] at h2
    exact ok.inj i j s t p a1 b1 m1 m2 h1 h2⟩
/-- behind the comprehension: the slots vs as they were, if they held data -/
def restR (ρ0 ρ : Rho) : List Nat → Rho
  | [] => ρ
  | v :: vs => (restR ρ0 ρ vs).set v (match ρ0[v]? with
    | some (some (.val d)) => some (.val d)
    | _ => none)
theorem restR_length (ρ0 ρ : Rho) : ∀ vs : List Nat, (restR ρ0 ρ vs).length = ρ.length
  | [] => rfl
  | v :: vs => by unfold restR; rw [List.length_set, restR_length ρ0 ρ vs]
theorem restR_some {ρ0 ρ : Rho} {i : Nat} {x : Sl} : ∀ {vs : List Nat}, (restR ρ0 ρ vs)[i]? = some (some x) → (i ∉ vs ∧ ρ[i]? = some (some x)) ∨ (i ∈ vs ∧ ∃ d, x = .val d ∧ ρ0[i]? = some (some (.val d)))
  | [], h => .inl ⟨by simp, h⟩
  | v :: vs, h => by
    unfold restR at h
    by_cases hi : v = i
    · subst hi
      by_cases hv : v < (restR ρ0 ρ vs).length
      · rw [List.getElem?_set_self hv] at h
        refine .inr ⟨List.mem_cons_self, ?_⟩
        split at h
        · rename_i d hd
          cases h
          exact ⟨d, rfl, hd⟩
        · cases h
      · rw [List.getElem?_eq_none (by simpa using hv)] at h; cases h
    · rw [List.getElem?_set_ne hi] at h
      rcases restR_some h with ⟨h1, h2⟩ | ⟨h1, h2⟩
      · exact .inl ⟨by simp only [List.mem_cons, not_or]; exact ⟨fun e => hi e.symm, h1⟩, h2⟩
      · exact .inr ⟨List.mem_cons_of_mem _ h1, h2⟩
theorem Ok.rest {K : PySem.W.Frag} {C : En} {σ : L2.St} {H H' : Hp} {F F' : Addr → Prop} {ρ ρ0 : Rho} {vs : List Nat} (ok0 : Ok K C σ H F ρ0) (g : Gr H F H' F') (ok : Ok K C (wipe σ vs) H' F' ρ) : Ok K C σ H' F' (restR ρ0 ρ vs) :=
  ⟨by rw [restR_length, ok.len, wipe_length], ok.keep, ok.f0, ok.fn, ok.fh, ok.bh, fun i s e => by
    rcases restR_some e with ⟨h1, h2⟩ | ⟨h1, d, h2, h3⟩
    · obtain ⟨v, hv, hs⟩ := ok.sl i s h2
      rw [wipe_out' h1] at hv
      exact ⟨v, hv, hs⟩
    · subst h2
      obtain ⟨v, hv, hs⟩ := ok0.sl i _ h3
      exact ⟨v, hv, Dt.mono g _ _ hs⟩, fun i j s t p e1 e2 m1 m2 h1 h2 => by
    rcases restR_some e1 with ⟨a1, a2⟩ | ⟨_, d, a2, _⟩
    · rcases restR_some e2 with ⟨b1, b2⟩ | ⟨_, d, b2, _⟩
      · rw [← wipe_out' a1] at h1
        rw [← wipe_out' b1] at h2
        exact ok.inj i j s t p a2 b2 m1 m2 h1 h2
      · subst b2; exact m2.elim
    · subst a2; exact m1.elim⟩
def compL (t : Tg) (tt : M Bool) (me : M Rv) (vs : List Nat) : List PyData → List PyData → Rho → Option (List PyData × Rho)
  | [], acc, ρ => some (acc, ρ)
  | d :: ds, acc, ρ => match t.set d ρ with
    | none => none
    | some ρ1 => match tt ρ1 with
      | .ok true ρ2 => match me ρ2 with
        | .ok r ρ3 => compL t tt me vs ds (acc ++ [r.d]) (rwipe ρ3 vs)
        | _ => none
      | .ok false ρ2 => compL t tt me vs ds acc (rwipe ρ2 vs)
      | _ => none
def compB (t : Tg) (tt : M Bool) (me : M Rv) (vs : List Nat) (ds : List PyData) : M Rv := fun ρ => bif decide (ds.length ≤ 100000) then
  (match compL t tt me vs ds [] (rwipe ρ vs) with
    | some (out, ρ') => .ok (.new out) (restR ρ ρ' vs)
    | none => .bad) else .bad
/-- the list at D, which no slot holds, is protected -/
def En.prot (C : En) (D : Addr) (ws : List V) : En := { C with H0 := upd C.H0 D (.lst ws) }
section
variable {K : PySem.W.Frag} {C : En} {σ : L2.St} {H : Hp} {F : Addr → Prop} {ρ : Rho} {D : Addr} {ws : List V}
theorem prot_h0 {a : Addr} (h : C.H0 a ≠ none) : (C.prot D ws).H0 a ≠ none := by
  show upd C.H0 D (.lst ws) a ≠ none
  by_cases e : a = D
  · subst e; rw [upd_same]; intro z; cases z
  · rw [upd_ne e]; exact h
theorem Ok.protect (ok : Ok K C σ H F ρ) (hn : H D = none) : Ok K (C.prot D ws) σ (upd H D (.lst ws)) F ρ := by
  have ok1 := ok.grow (o := .lst ws) hn
  refine ⟨ok1.len, fun a o e b => ?_, ok1.f0, fun a f => ?_, ok1.fh, fun a b => ⟨(ok1.bh a b).1, prot_h0 (ok1.bh a b).2⟩, fun i s e => ?_, ok1.inj⟩
  · by_cases h : a = D
    · subst h
      have e : upd C.H0 a (.lst ws) a = some o := e
      rw [upd_same] at e ⊢; exact e
    · have e : upd C.H0 D (.lst ws) a = some o := e
      rw [upd_ne h] at e
      exact ok1.keep a o e b
  · rcases ok1.fn a f with h | h
    · exact .inl h
    · have : a ≠ D := fun z => by subst z; exact ok.fh a f hn
      exact .inr (by show upd C.H0 D (.lst ws) a = none; rw [upd_ne this]; exact h)
  · obtain ⟨v, hv, hs⟩ := ok1.sl i s e
    refine ⟨v, hv, ?_⟩
    cases s with
    | val d => exact hs
    | own ds =>
      obtain ⟨p, vs, a, b, c, d, f⟩ := hs
      refine ⟨p, vs, a, b, c, d, ?_⟩
      have : p ≠ D := fun z => by
        subst z
        obtain ⟨q, us, h1, h2, _⟩ := ok.sname e trivial
        rw [hv] at h1
        rw [a] at h1
        cases h1
        rw [hn] at h2; cases h2
      show upd C.H0 D (.lst ws) p = none
      rw [upd_ne this]; exact f
    | brw k ds => exact hs
theorem Ok.unprotect (ok : Ok K (C.prot D ws) σ H F ρ) (h0 : C.H0 D = none) (hB : ¬ C.B D) : Ok K C σ H F ρ := by
  have nD : ∀ {a : Addr}, (C.prot D ws).H0 a = none → C.H0 a = none := fun {a} e => by
    have e : upd C.H0 D (.lst ws) a = none := e
    by_cases h : a = D
    · subst h; rw [upd_same] at e; cases e
    · rw [upd_ne h] at e; exact e
  refine ⟨ok.len, fun a o e b => ok.keep a o ?_ b, ok.f0, fun a f => ?_, ok.fh, fun a b => ⟨(ok.bh a b).1, ?_⟩, fun i s e => ?_, ok.inj⟩
  · show upd C.H0 D (.lst ws) a = some o
    rw [upd_ne (fun z => by subst z; rw [h0] at e; cases e)]; exact e
  · rcases ok.fn a f with h | h
    · exact .inl h
    · exact .inr (nD h)
  · have := (ok.bh a b).2
    have this : upd C.H0 D (.lst ws) a ≠ none := this
    rw [upd_ne (fun z => by subst z; exact hB b)] at this
    exact this
  · obtain ⟨v, hv, hs⟩ := ok.sl i s e
    refine ⟨v, hv, ?_⟩
    cases s with
    | val d => exact hs
    | own ds => obtain ⟨p, vs, a, b, c, d, f⟩ := hs; exact ⟨p, vs, a, b, c, d, nD f⟩
    | brw k ds => exact hs
theorem Ok.protAt (ok : Ok K (C.prot D ws) σ H F ρ) (hB : ¬ C.B D) : H D = some (.lst ws) := ok.keep D _ (show upd C.H0 D (.lst ws) D = _ from upd_same) hB
theorem Ok.protF (ok : Ok K (C.prot D ws) σ H F ρ) (hF : ¬ C.F0 D) : ¬ F D := fun f => by
  rcases ok.fn D f with h | h
  · exact hF h
  · have h : upd C.H0 D (.lst ws) D = none := h
    rw [upd_same] at h; cases h
theorem Ok.protNot (ok : Ok K (C.prot D ws) σ H F ρ) (hB : ¬ C.B D) : ∀ (i : Nat) (s : Sl), ρ[i]? = some (some s) → s.mut → σ[i]? ≠ some (some (.ref D)) := fun i s e m z => by
  obtain ⟨v, hv, hs⟩ := ok.sl i s e
  rw [z] at hv
  cases hv
  cases s with
  | val d => exact m
  | own ds =>
    obtain ⟨p, vs, a, b, c, d, f⟩ := hs
    cases a
    have f : upd C.H0 D (.lst ws) D = none := f
    rw [upd_same] at f; cases f
  | brw k ds =>
    obtain ⟨p, vs, a, b, c, d, f⟩ := hs
    cases a
    exact hB ⟨k, f⟩
/-- the protected list is written -/
theorem Ok.protSet (ok : Ok K (C.prot D ws) σ H F ρ) (hB : ¬ C.B D) (hF : ¬ C.F0 D) (us : List V) : Ok K (C.prot D us) σ (upd H D (.lst us)) F ρ ∧ Gr H F (upd H D (.lst us)) F := by
  have hp := ok.protAt hB
  have hf := ok.protF hF
  have g : Gr H F (upd H D (.lst us)) F := gr_write hp hf
  have hh : ∀ {a : Addr}, (C.prot D ws).H0 a = none → (C.prot D us).H0 a = none := fun {a} e => by
    have e : upd C.H0 D (.lst ws) a = none := e
    show upd C.H0 D (.lst us) a = none
    by_cases h : a = D
    · subst h; rw [upd_same] at e; cases e
    · rw [upd_ne h] at e ⊢; exact e
  refine ⟨⟨ok.len, fun a o e b => ?_, ok.f0, fun a f => (ok.fn a f).imp id hh, fun a f => ?_, fun a b => ?_, fun i s e => ?_, ok.inj⟩, g⟩
  · have e : upd C.H0 D (.lst us) a = some o := e
    by_cases h : a = D
    · subst h; rw [upd_same] at e ⊢; exact e
    · rw [upd_ne h] at e ⊢
      exact ok.keep a o (show upd C.H0 D (.lst ws) a = some o by rw [upd_ne h]; exact e) b
  · rw [upd_ne (fun z => by subst z; exact hf f)]; exact ok.fh a f
  · refine ⟨?_, prot_h0 (C := C) ?_⟩
    · rw [upd_ne (fun z => by subst z; exact hB b)]; exact (ok.bh a b).1
    · have this : upd C.H0 D (.lst ws) a ≠ none := (ok.bh a b).2
      rw [upd_ne (fun z => by subst z; exact hB b)] at this
      exact this
  · obtain ⟨v, hv, hs⟩ := ok.sl i s e
    have nD := ok.protNot hB i s e
    refine ⟨v, hv, ?_⟩
    cases s with
    | val d => exact Dt.mono g _ _ hs
    | own ds =>
      obtain ⟨p, vs, a, b, c, d, f⟩ := hs
      have : p ≠ D := fun z => nD trivial (by rw [hv, a, z])
      exact ⟨p, vs, a, by rw [upd_ne this]; exact b, DtA.mono g _ _ c, d, hh f⟩
    | brw k ds =>
      obtain ⟨p, vs, a, b, c, d, f⟩ := hs
      have : p ≠ D := fun z => nD trivial (by rw [hv, a, z])
      exact ⟨p, vs, a, by rw [upd_ne this]; exact b, DtA.mono g _ _ c, d, f⟩
end
abbrev WF : WX := fun _ _ _ _ => False
section
variable {X : Cx} {C : En} {W : WX} {mi : M (List PyData)} {me : M Rv} {tt : M Bool} {t : Tg}
/-- the tests of a comprehension -/
abbrev GTs (X : Cx) (C : En) (W : WX) (es : List Expr) (m : M Bool) : Prop := PTs X es (tT X.K X.mg C W m)
theorem _root_.L2.PTs.imp {es : List Expr} {t t' : TT} (h : PTs X es t) (k : ∀ σ H Q, t' σ H Q → t σ H Q) : PTs X es t' := ⟨fun pins s σ H Q I q => h.run pins s σ H Q I (k σ H Q q)⟩
theorem gts_nil : GTs X C W [] (M.pure true) := PTs.imp pts_nil fun σ H Q ⟨F, ρ, ok, h⟩ => h H F ok Gr.refl
theorem gts_one {c : Expr} {p : M Bool} (h : GT X C W c p) : GTs X C W [c] p := pts_one h
theorem wp_exc {α : Type} {m : M α} {ρ : Rho} {Q : α → Rho → Prop} {E : Str → PyData → Rho → Prop} (h : wp m ρ Q fun _ _ _ => False) : wp m ρ Q E := by
  unfold wp at h ⊢
  split at h <;> simp_all
theorem comp_rd {vs : List Nat} (hsl : ∀ i ∈ t.slots, i ∈ vs) {σ : L2.St} {H : Hp} {Q : VK} (h : tE X.K X.mg C W (M.bind mi (compB t tt me vs)) σ H Q) :
    tLc (tI X.K X.mg C W mi) (fun v σ H Q => ∃ C', tgR X.K C' t v σ H Q) (fun σ H Q => ∃ C', tT X.K X.mg C' WF tt σ H Q) (fun σ H Q => ∃ C', tE X.K X.mg C' WF me σ H Q) vs σ H Q := by
  obtain ⟨F, ρ, ok, h⟩ := h
  rw [wp_bind] at h
  refine ⟨F, ρ, ok, wp_mono h fun ds ρ1 h1 J H1 F1 ok1 g1 dw D hD => ?_⟩
  unfold wp compB at h1
  cases hl : decide (ds.length ≤ 100000) with
  | false => rw [hl] at h1; exact h1.elim
  | true =>
    rw [hl, cond_true] at h1
    have hlen : ds.length ≤ 100000 := of_decide_eq_true hl
    cases hc : compL t tt me vs ds [] (rwipe ρ1 vs) with
    | none => rw [hc] at h1; exact h1.elim
    | some fin =>
      obtain ⟨out, ρE⟩ := fin
      rw [hc] at h1
      have h1 : ∀ v H' F', Ok X.K C σ H' F' (restR ρ1 ρE vs) → Gr H F H' F' → RvOk X.K C σ H' F' (restR ρ1 ρE vs) v (.new out) → Q v H' := h1
      obtain ⟨n, G, Y, wk, hn, hG, hY⟩ := dw
      have hB : ¬ C.B D := fun b => (ok1.bh D b).1 hD
      have hF0 : ¬ C.F0 D := fun f => ok1.fh D (ok1.f0 D f) hD
      have h00 : C.H0 D = none := ok1.fresh0 hD
      refine lc_it wk (g := fun v σ H Q => ∃ C', tgR X.K C' t v σ H Q) (tt := fun σ H Q => ∃ C', tT X.K X.mg C' WF tt σ H Q) (te := fun σ H Q => ∃ C', tE X.K X.mg C' WF me σ H Q) (H1 := H1) (σ := σ) (vs := vs) (D := D) (Qd := fun H' => Q (.ref D) H') (fun i H' => ∃ F' ρ' acc accV, Ok X.K (C.prot D accV) (wipe σ vs) H' F' ρ' ∧ Gr H1 F1 H' F' ∧ acc.length ≤ i ∧ DtA X.K H' F' acc accV ∧ compL t tt me vs (ds.drop i) acc ρ' = some (out, ρE)) ?_ ?_ ?_ ?_
      · exact ⟨F1, rwipe ρ1 vs, [], [], (ok1.wiped vs).protect hD, gr_new hD, by simp, DtA.nil, hc⟩
      · rintro i H' _ ⟨F', ρ', acc, accV, ok', g', _⟩
        exact hG H' F' g'
      · rintro i x H2 H3 hi ⟨F', ρ', acc, accV, ok', g', hacc, dacc, hco⟩ hy
        obtain ⟨hHeap, hDt⟩ := hY i H2 F' x H3 g' hi hy
        have hi' : i < ds.length := by omega
        have hdr : ds.drop i = ds[i] :: ds.drop (i + 1) := List.drop_eq_getElem_cons hi'
        rw [hdr] at hco
        unfold compL at hco
        have dx : Dt X.K H3 F' ds[i] x := hDt _ (by simp [hi'])
        obtain ⟨ok3, g3⟩ : Ok X.K (C.prot D accV) (wipe σ vs) H3 F' ρ' ∧ Gr H2 F' H3 F' := by
          rcases hHeap with e | ⟨T, xs, hT, e⟩
          · subst e; exact ⟨ok', Gr.refl⟩
          · subst e; exact ⟨ok'.grow hT, gr_new hT⟩
        cases hs : t.set ds[i] ρ' with
        | none => rw [hs] at hco; cases hco
        | some ρ4 =>
          rw [hs] at hco
          simp only [] at hco
          refine ⟨C.prot D accV, F', ρ', ds[i], ρ4, ok3, dx, hs, fun σ4 ok4 hw => ⟨?_, C.prot D accV, F', ρ4, ok4, ?_⟩⟩
          · rw [hw vs hsl]
            exact wipe_wipe
          · refine wp_exc ?_
            unfold wp
            cases ht : tt ρ4 with
            | bad => rw [ht] at hco; cases hco
            | exc c d ρ5 => rw [ht] at hco; cases hco
            | ok b ρ5 =>
              rw [ht] at hco
              intro H5 F5 ok5 g5
              cases b with
              | false =>
                simp only [Bool.false_eq_true, if_false]
                simp only [] at hco
                have gg := (g'.trans g3).trans g5
                refine ⟨F5, rwipe ρ5 vs, acc, accV, ?_, gg, by omega, DtA.mono (g3.trans g5) _ _ dacc, hco⟩
                have := ok5.wiped vs
                rw [hw vs hsl, wipe_wipe] at this
                exact this
              | true =>
                simp only [if_true]
                simp only [] at hco
                refine ⟨C.prot D accV, F5, ρ5, ok5, wp_exc ?_⟩
                unfold wp
                cases hm : me ρ5 with
                | bad => rw [hm] at hco; cases hco
                | exc c d ρ5 => rw [hm] at hco; cases hco
                | ok r ρ6 =>
                  rw [hm] at hco
                  simp only [] at hco
                  intro y H6 F6 ok6 g6 rv6
                  obtain ⟨F7, ok7, g7, d7⟩ := ok6.freeze rv6
                  have ok8 := ok7.wiped vs
                  rw [hw vs hsl, wipe_wipe] at ok8
                  obtain ⟨ok9, g9⟩ := ok8.protSet hB hF0 (accV ++ [y])
                  have gg := ((g3.trans g5).trans g6).trans g7
                  have hle : accV.length = acc.length := dacc.len
                  refine ⟨accV, ok7.protAt hB, line5' (by omega), F7, rwipe ρ6 vs, acc ++ [r.d], accV ++ [y], ok9, (g'.trans gg).trans g9, by simp; omega, ?_, hco⟩
                  exact DtA.append (DtA.mono (gg.trans g9) _ _ dacc) (DtA.cons (Dt.mono g9 _ _ d7) DtA.nil)
      · rintro H' ⟨F', ρ', acc, accV, ok', g', _, dacc, hco⟩
        rw [hn, List.drop_length] at hco
        unfold compL at hco
        cases hco
        have ok2 := ok'.unprotect h00 hB
        have ok3 := ok1.rest g' ok2
        refine h1 _ H' F' ok3 (g1.trans g') ⟨D, accV, rfl, ok'.protAt hB, dacc, ok'.protF hF0, h00, fun i s e m z => ?_⟩
        rcases restR_some e with ⟨a1, a2⟩ | ⟨_, d, a2, _⟩
        · exact ok'.protNot hB i s a2 m (by rw [wipe_out' a1]; exact z)
        · subst a2; exact m
where
  wipe_wipe {σ : L2.St} {vs : List Nat} : wipe (wipe σ vs) vs = wipe σ vs := by
    have key : ∀ (us : List Nat) (σ : L2.St) , (∀ i ∈ us, σ[i]? = some none ∨ σ[i]? = none) → wipe σ us = σ := by
      intro us
      induction us with
      | nil => intro σ _; rfl
      | cons v us ih =>
        intro σ hs
        unfold wipe
        rw [ih σ fun i hi => hs i (List.mem_cons_of_mem _ hi)]
        apply List.ext_getElem?
        intro j
        by_cases e : v = j
        · subst e
          by_cases hv : v < σ.length
          · rw [List.getElem?_set_self hv]
            rcases hs v List.mem_cons_self with h | h
            · exact h.symm
            · rw [List.getElem?_eq_none_iff] at h; omega
          · rw [List.getElem?_eq_none (by simpa using hv), List.getElem?_eq_none (by simpa using hv)]
        · rw [List.getElem?_set_ne e]
    refine key vs _ fun i hi => ?_
    cases hx : (wipe σ vs)[i]? with
    | none => exact .inr rfl
    | some o =>
      cases o with
      | none => exact .inl rfl
      | some x => exact absurd hi (wipe_some hx).2
  line5' {n : Nat} (h : n < 100000) : n < sizeLine := Nat.lt_of_lt_of_le h (by decide)
theorem ge_lc {elt tg iter : Expr} {ifs : List Expr} {scope : Scope} {own : List (Str × Nat)} {pos : Pos} (hc : X.calm = true) (hN : X.N.Nodup) (hi : GI X C W tg iter mi) (ok : BlkOk X.N X.env.scope scope own)
    (hg : ∀ (C' : En) (s : Shared) (H : Hp) (Cl : Addr) (cl : List (Str × Addr)) (fp : List Addr), PG (X.blk s H scope (compEnvC scope cl Cl X.env) fp) tg (tgR X.K C' t))
    (ht : ∀ (C' : En) (s : Shared) (H : Hp) (Cl : Addr) (cl : List (Str × Addr)) (fp : List Addr), GTs (X.blk s H scope (compEnvC scope cl Cl X.env) fp) C' WF ifs tt)
    (he : ∀ (C' : En) (s : Shared) (H : Hp) (Cl : Addr) (cl : List (Str × Addr)) (fp : List Addr), GE (X.blk s H scope (compEnvC scope cl Cl X.env) fp) C' WF elt me)
    (hsl : ∀ i ∈ t.slots, i ∈ own.map (·.2) := by decide) (hs : ∀ x, foldedSetIterable iter X.env x = pure x := by intro _; rfl) :
    GE X C W (.ListComp elt [⟨tg, iter, ifs, 0⟩] scope pos) (M.bind mi (compB t tt me (own.map (·.2)))) :=
  (pe_lc (g := fun v σ H Q => ∃ C', tgR X.K C' t v σ H Q) (tt := fun σ H Q => ∃ C', tT X.K X.mg C' WF tt σ H Q) (te := fun σ H Q => ∃ C', tE X.K X.mg C' WF me σ H Q) hc hN hi ok
    (fun s H Cl cl fp => ⟨fun pins s σ H v u Q I r ⟨C', q⟩ => (hg C' _ _ Cl cl fp).run pins s σ H v u Q I r q⟩)
    (fun s H Cl cl fp => ⟨fun pins s σ H Q I ⟨C', q⟩ => (ht C' _ _ Cl cl fp).run pins s σ H Q I q⟩)
    (fun s H Cl cl fp => ⟨fun pins s σ H Q I ⟨C', q⟩ => (he C' _ _ Cl cl fp).run pins s σ H Q I q⟩) hs).imp fun σ H Q h => comp_rd hsl h
end
end Fx

set_option Elab.async false
set_option linter.all false
set_option maxRecDepth 100000
set_option maxHeartbeats 2000000
namespace Fx
open PySem PySem.Spec PyProof.Rows L2 RZ

inductive Out where
  | nx (ρ : Rho)
  | ret (r : Rv) (ρ : Rho)
  | brk (ρ : Rho)
  | cnt (ρ : Rho)
  | exc (c : Str) (d : PyData) (ρ : Rho)
  | bad
abbrev SM := Rho → Out
def PoS (K : PySem.W.Frag) (mg : Str → Option Value) (C : En) (W : WX) (H : Hp) (F : Addr → Prop) (D : Ends) : Out → Prop
  | .nx ρ' => ∀ σ' H' F', Ok K C σ' H' F' ρ' → Gr H F H' F' → D.nx σ' H'
  | .ret r ρ' => ∀ σ' v H' F', Ok K C σ' H' F' ρ' → Gr H F H' F' → RvOk K C σ' H' F' ρ' v r → D.rt v H'
  | .brk ρ' => ∀ σ' H' F', Ok K C σ' H' F' ρ' → Gr H F H' F' → D.bk σ' H'
  | .cnt ρ' => ∀ σ' H' F', Ok K C σ' H' F' ρ' → Gr H F H' F' → D.ct σ' H'
  | .exc c d ρ' => ∀ σ', ExcW K mg C W σ' c d ρ'
  | .bad => False
def tS (K : PySem.W.Frag) (mg : Str → Option Value) (C : En) (W : WX) (m : SM) : TS := fun D σ H => ∃ F ρ, Ok K C σ H F ρ ∧ PoS K mg C W H F D (m ρ)
abbrev GS (X : Cx) (C : En) (W : WX) (st : Stmt) (m : SM) : Prop := PS X st (tS X.K X.mg C W m)
abbrev GSs (X : Cx) (C : En) (W : WX) (st : List Stmt) (m : SM) : Prop := PSs X st (tS X.K X.mg C W m)
/-- an expression's outcome, then -/
def bindS {α : Type} (m : M α) (k : α → SM) : SM := fun ρ => match m ρ with
  | .ok a ρ' => k a ρ'
  | .exc c d ρ' => .exc c d ρ'
  | .bad => .bad
def seqS (a b : SM) : SM := fun ρ => match a ρ with
  | .nx ρ' => b ρ'
  | o => o
def nextS : SM := fun ρ => .nx ρ
section
variable {K : PySem.W.Frag} {mg : Str → Option Value} {C : En} {W : WX} {H H1 : Hp} {F F1 : Addr → Prop} {D D' : Ends}
theorem PoS.mono (g : Gr H F H1 F1) : ∀ {o : Out}, PoS K mg C W H F D o → PoS K mg C W H1 F1 D o
  | .nx _, h => fun σ' H' F' ok g' => h σ' H' F' ok (g.trans g')
  | .ret _ _, h => fun σ' v H' F' ok g' r => h σ' v H' F' ok (g.trans g') r
  | .brk _, h => fun σ' H' F' ok g' => h σ' H' F' ok (g.trans g')
  | .cnt _, h => fun σ' H' F' ok g' => h σ' H' F' ok (g.trans g')
  | .exc _ _ _, h => h
  | .bad, h => h
/-- an expression ahead: its wp from the statement's outcome (the slots as they are) -/
theorem wp_bindS {α : Type} {m : M α} {k : α → SM} {ρ : Rho} (σ : L2.St) (h : PoS K mg C W H F D (bindS m k ρ)) : wp m ρ (fun a ρ' => PoS K mg C W H F D (k a ρ')) (ExcW K mg C W σ) := by
  revert h
  unfold wp bindS
  cases m ρ with
  | ok a ρ' => exact fun h => h
  | exc c d ρ' => exact fun h => h σ
  | bad => exact fun h => h
end
section
variable {X : Cx} {C : En} {W : WX} {a b c e tg : Expr} {pos p2 : Pos} {m ma mb : M Rv} {q : M PyData} {p : M Bool} {s1 s2 sb : SM} {st : Stmt} {rest body els : List Stmt} {t : Tg}
theorem gss_nil : GSs X C W [] nextS := PSs.imp pss_nil fun D σ H ⟨F, ρ, ok, h⟩ => h σ H F ok Gr.refl
theorem gss_cons (h1 : GS X C W st s1) (h2 : GSs X C W rest s2) : GSs X C W (st :: rest) (seqS s1 s2) := (pss_cons h1 h2).imp fun D σ H ⟨F, ρ, ok, h⟩ => by
  refine ⟨F, ρ, ok, ?_⟩
  unfold seqS at h
  cases hs : s1 ρ with
  | nx ρ' => rw [hs] at h; exact fun σ' H' F' ok' g => ⟨F', ρ', ok', PoS.mono g h⟩
  | ret r ρ' => rw [hs] at h; exact h
  | brk ρ' => rw [hs] at h; exact h
  | cnt ρ' => rw [hs] at h; exact h
  | exc c d ρ' => rw [hs] at h; exact h
  | bad => rw [hs] at h; exact h
theorem gss_one (h1 : GS X C W st s1) : GSs X C W [st] s1 := pss_one h1
theorem gs_never : GS X C W st (fun _ => .bad) := PS.imp ps_never fun D σ H ⟨F, ρ, ok, h⟩ => h
theorem gs_pass : GS X C W (.Pass pos) nextS := PS.imp ps_pass fun D σ H ⟨F, ρ, ok, h⟩ => h σ H F ok Gr.refl
theorem gs_break : GS X C W (.Break pos) (fun ρ => .brk ρ) := PS.imp ps_break fun D σ H ⟨F, ρ, ok, h⟩ => h σ H F ok Gr.refl
theorem gs_continue : GS X C W (.Continue pos) (fun ρ => .cnt ρ) := PS.imp ps_continue fun D σ H ⟨F, ρ, ok, h⟩ => h σ H F ok Gr.refl
/-! ### x = e -/
def asgS (i : Nat) (m : M Rv) : SM := bindS m fun r ρ => .nx (ρ.set i (some r.sl))
theorem asg_rd {te : TE} {i : Nat} {σ : L2.St} {H : Hp} {D : Ends} (hte : ∀ σ H Q, tE X.K X.mg C W m σ H Q → te σ H Q) (h : tS X.K X.mg C W (asgS i m) D σ H) : tAsg te (gName i) D σ H := by
  obtain ⟨F, ρ, ok, h⟩ := h
  refine hte _ _ _ ⟨F, ρ, ok, ?_⟩
  exact wp_mono (wp_bindS σ h) fun r ρ' h' v H' F' ok' g rv => h' _ H' F' (ok'.store rv) g
theorem gs_set {i : Nat} {x : Str} {pos' : Pos} (hN : X.N.Nodup) (hi : X.N[i]? = some x) (he : GE X C W e m) (hx : Loc X.env.scope x := by first | exact .inl rfl | exact .inr rfl) (hs : swapsWith e (some (.Name x pos')) pos.line X.env = pure false := by rfl)
    (hf : X.fn x = true ∨ X.env.scope.names.lookup x = some .local := by first | exact .inl rfl | exact .inr rfl) : GS X C W (.Assign [.Name x pos'] e pos) (asgS i m) :=
  (ps_set hN hi hx he hs hf).imp fun D σ H h => asg_rd (fun _ _ _ h => h) h
/-- x = [..], on one line -/
theorem gs_setLc {i : Nat} {y : Str} {py : Pos} {elt tg iter : Expr} {ifs : List Expr} {scope : Scope} {own : List (Str × Nat)} {pos spos : Pos} {mi : M (List PyData)} {me : M Rv} {tt : M Bool} (hc : X.calm = true) (hN : X.N.Nodup) (hy : X.N[i]? = some y) (hyl : X.env.scope.names.lookup y = some .local)
    (hsw : swapsWith (.ListComp elt [⟨tg, iter, ifs, 0⟩] scope pos) (some (.Name y py)) spos.line X.env = pure true) (hi : GI X C W tg iter mi) (ok : BlkOk X.N X.env.scope scope own)
    (hg : ∀ (C' : En) (s : Shared) (H : Hp) (Cl : Addr) (cl : List (Str × Addr)) (fp : List Addr), PG (X.blk s H scope (compEnvC scope cl Cl X.env) fp) tg (tgR X.K C' t))
    (ht : ∀ (C' : En) (s : Shared) (H : Hp) (Cl : Addr) (cl : List (Str × Addr)) (fp : List Addr), GTs (X.blk s H scope (compEnvC scope cl Cl X.env) fp) C' WF ifs tt)
    (he : ∀ (C' : En) (s : Shared) (H : Hp) (Cl : Addr) (cl : List (Str × Addr)) (fp : List Addr), GE (X.blk s H scope (compEnvC scope cl Cl X.env) fp) C' WF elt me)
    (hsl : ∀ i ∈ t.slots, i ∈ own.map (·.2) := by decide) (hs : ∀ x, foldedSetIterable iter X.env x = pure x := by intro _; rfl) :
    GS X C W (.Assign [.Name y py] (.ListComp elt [⟨tg, iter, ifs, 0⟩] scope pos) spos) (asgS i (M.bind mi (compB t tt me (own.map (·.2))))) :=
  (ps_setLc (g := fun v σ H Q => ∃ C', tgR X.K C' t v σ H Q) (tt := fun σ H Q => ∃ C', tT X.K X.mg C' WF tt σ H Q) (te := fun σ H Q => ∃ C', tE X.K X.mg C' WF me σ H Q) hc hN hy hyl hsw hi ok
    (fun s H Cl cl fp => ⟨fun pins s σ H v u Q I r ⟨C', q⟩ => (hg C' _ _ Cl cl fp).run pins s σ H v u Q I r q⟩)
    (fun s H Cl cl fp => ⟨fun pins s σ H Q I ⟨C', q⟩ => (ht C' _ _ Cl cl fp).run pins s σ H Q I q⟩)
    (fun s H Cl cl fp => ⟨fun pins s σ H Q I ⟨C', q⟩ => (he C' _ _ Cl cl fp).run pins s σ H Q I q⟩) hs).imp fun D σ H h => asg_rd (fun _ _ _ h => comp_rd hsl h) h
/-- (a, b, ..) = e, e a tuple -/
def asgT (t : Tg) (m : M Rv) : SM := bindS m fun r ρ => match t.set r.d ρ with
  | some ρ' => .nx ρ'
  | none => .bad
theorem gs_asg (he : GE X C W e m) (hg : PG X tg (tgR X.K C t)) (hs : swapsWithSole [tg] e pos.line X.env = pure false := by rfl) (hw : swappedStores [tg] e X.env = pure none := by rfl)
    (h1 : (assignEach [tg] X.env).map (·.2) = [assign tg X.env] := by rfl) : GS X C W (.Assign [tg] e pos) (asgT t m) :=
  (ps_asg he hg hs hw h1).imp fun D σ H ⟨F, ρ, ok, h⟩ => by
    refine ⟨F, ρ, ok, wp_mono (wp_bindS σ h) fun r ρ1 h1 v H1 F1 ok1 g1 rv => ?_⟩
    obtain ⟨F2, ok2, g2, d2⟩ := ok1.freeze rv
    cases ht : t.set r.d ρ1 with
    | none => rw [ht] at h1; exact h1.elim
    | some ρ2 =>
      rw [ht] at h1
      exact ⟨F2, ρ1, r.d, ρ2, ok2, d2, ht, fun σ' ok' _ => h1 σ' H1 F2 ok' (g1.trans g2)⟩
/-! ### x, y = a, b -/
theorem ExcW.prot {σ : L2.St} {c : Str} {d : PyData} {ρ : Rho} {D : Addr} {ws : List V} (h0 : C.H0 D = none) (hB : ¬ C.B D) (h : ExcW X.K X.mg C W σ c d ρ) : ExcW X.K X.mg (C.prot D ws) W σ c d ρ :=
  fun H' F' Cl a v ok => h H' F' Cl a v (ok.unprotect h0 hB)
/-- a list that is there, in no slot, is protected -/
theorem Ok.protectAt {K : PySem.W.Frag} {σ : L2.St} {H : Hp} {F : Addr → Prop} {ρ : Rho} {D : Addr} {ws : List V} (ok : Ok K C σ H F ρ) (hD : H D = some (.lst ws)) (hf : ¬ F D) (h0 : C.H0 D = none) (hn : ∀ (i : Nat) (s : Sl), ρ[i]? = some (some s) → s.mut → σ[i]? ≠ some (some (.ref D))) :
    Ok K (C.prot D ws) σ H F ρ := by
  refine ⟨ok.len, fun a o e b => ?_, ok.f0, fun a f => ?_, ok.fh, fun a b => ⟨(ok.bh a b).1, prot_h0 (ok.bh a b).2⟩, fun i s e => ?_, ok.inj⟩
  · have e : upd C.H0 D (.lst ws) a = some o := e
    by_cases h : a = D
    · subst h
      rw [upd_same] at e
      cases e
      exact hD
    · rw [upd_ne h] at e
      exact ok.keep a o e b
  · rcases ok.fn a f with h | h
    · exact .inl h
    · have : a ≠ D := fun z => by subst z; exact hf f
      exact .inr (by show upd C.H0 D (.lst ws) a = none; rw [upd_ne this]; exact h)
  · obtain ⟨v, hv, hs⟩ := ok.sl i s e
    refine ⟨v, hv, ?_⟩
    cases s with
    | val d => exact hs
    | own ds =>
      obtain ⟨p, vs, a, b, c, d, f⟩ := hs
      have : p ≠ D := fun z => hn i _ e trivial (by rw [hv, a, z])
      refine ⟨p, vs, a, b, c, d, ?_⟩
      show upd C.H0 D (.lst ws) p = none
      rw [upd_ne this]; exact f
    | brw k ds => exact hs
def par2 (i j : Nat) (ma mb : M Rv) : SM := bindS ma fun r => bindS mb fun u ρ => .nx ((ρ.set i (some r.sl)).set j (some u.sl))
/-- two values in a row, none of them frozen -/
theorem pair_rd {σ : L2.St} {H : Hp} {F : Addr → Prop} {ρ : Rho} {D : Ends} {k : Rv → Rv → SM} {Q : V → V → Hp → Prop} {tb : TE} (ok : Ok X.K C σ H F ρ) (htb : ∀ C' σ H Q, tE X.K X.mg C' W mb σ H Q → tb σ H Q) (h : PoS X.K X.mg C W H F D (bindS ma (fun r => bindS mb (k r)) ρ))
    (q : ∀ r u ρ2 v w H2 F2, Ok X.K C σ H2 F2 ρ2 → Gr H F H2 F2 → RvOk X.K C σ H2 F2 ρ2 v r → RvOk X.K C σ H2 F2 ρ2 w u → (∀ p, v = .ref p → w = .ref p → (∃ ds, r = .new ds) → ∀ ds, u ≠ .new ds) → PoS X.K X.mg C W H2 F2 D (k r u ρ2) → Q v w H2) :
    tE X.K X.mg C W (fun ρ => ma ρ) σ H fun v H1 => tb σ H1 fun w H2 => Q v w H2 := by
  refine ⟨F, ρ, ok, wp_mono (wp_bindS σ h) fun r ρ1 h1 v H1 F1 ok1 g1 rv => ?_⟩
  cases r with
  | val d =>
    refine htb C _ _ _ ⟨F1, ρ1, ok1, wp_mono (wp_bindS σ h1) fun u ρ2 h2 w H2 F2 ok2 g2 rv2 => ?_⟩
    exact q (.val d) u ρ2 v w H2 F2 ok2 (g1.trans g2) (Dt.mono g2 _ _ rv) rv2 (fun p _ _ ⟨ds, z⟩ => by cases z) (PoS.mono (g1.trans g2) h2)
  | new ds =>
    obtain ⟨pp, vs, e1, hp, dd, hf, h0, hn⟩ := rv
    have hB : ¬ C.B pp := fun hk => (ok1.bh pp hk).2 h0
    have okp := ok1.protectAt hp hf h0 hn
    refine htb (C.prot pp vs) _ _ _ ⟨F1, ρ1, okp, ?_⟩
    have hw := wp_bindS σ h1
    have hw2 : wp mb ρ1 (fun u ρ2 => PoS X.K X.mg C W H F D (k (.new ds) u ρ2)) (ExcW X.K X.mg (C.prot pp vs) W σ) := by
      unfold wp at hw ⊢
      split <;> rename_i hm <;> rw [hm] at hw
      · exact hw
      · exact ExcW.prot h0 hB hw
      · exact hw
    refine wp_mono hw2 fun u ρ2 h2 w H2 F2 ok2 g2 rv2 => ?_
    have okq := ok2.unprotect h0 hB
    have hF0 : ¬ C.F0 pp := fun f => hf (ok1.f0 pp f)
    refine q (.new ds) u ρ2 v w H2 F2 okq (g1.trans g2) ⟨pp, vs, e1, ok2.protAt hB, DtA.mono g2 _ _ dd, ok2.protF hF0, h0, ok2.protNot hB⟩ ?_ ?_ (PoS.mono (g1.trans g2) h2)
    · cases u with
      | val d => exact rv2
      | new es =>
        obtain ⟨p', vs', a1, a2, a3, a4, a5, a6⟩ := rv2
        refine ⟨p', vs', a1, a2, a3, a4, ?_, a6⟩
        have a5 : upd C.H0 pp (.lst vs) p' = none := a5
        by_cases hx : p' = pp
        · subst hx; rw [upd_same] at a5; cases a5
        · rw [upd_ne hx] at a5; exact a5
    · intro p ev ew _ es z
      subst z
      obtain ⟨p', vs', a1, a2, a3, a4, a5, a6⟩ := rv2
      rw [ew] at a1
      cases a1
      rw [e1] at ev
      cases ev
      have a5 : upd C.H0 pp (.lst vs) pp = none := a5
      rw [upd_same] at a5; cases a5
end
end Fx

set_option Elab.async false
set_option linter.all false
set_option maxRecDepth 100000
set_option maxHeartbeats 2000000
namespace Fx
open PySem PySem.Spec PyProof.Rows L2 RZ
section
variable {X : Cx} {C : En} {W : WX} {a b c e tg : Expr} {pos p2 : Pos} {m ma mb mc : M Rv} {q : M PyData} {p : M Bool} {s1 s2 sb : SM} {st : Stmt} {rest body els : List Stmt} {t : Tg}
/-- storing two results -/
theorem Ok.store2 {K : PySem.W.Frag} {σ : L2.St} {H : Hp} {F : Addr → Prop} {ρ : Rho} {i j : Nat} {v w : V} {r u : Rv} (ok : Ok K C σ H F ρ) (hv : RvOk K C σ H F ρ v r) (hw : RvOk K C σ H F ρ w u)
    (ne : ∀ p, v = .ref p → w = .ref p → (∃ ds, r = .new ds) → ∀ ds, u ≠ .new ds) : Ok K C ((σ.set i (some v)).set j (some w)) H F ((ρ.set i (some r.sl)).set j (some u.sl)) := by
  have ok1 := ok.store (i := i) hv
  refine ok1.store (i := j) (r := u) ?_
  cases u with
  | val d => exact hw
  | new ds =>
    obtain ⟨p, vs, a, b, c, d, f, g⟩ := hw
    refine ⟨p, vs, a, b, c, d, f, fun k s e m z => ?_⟩
    by_cases hk : i = k
    · subst hk
      by_cases hlt : i < ρ.length
      · rw [List.getElem?_set_self hlt] at e
        cases e
        rw [List.getElem?_set_self (by rw [← ok.len]; exact hlt)] at z
        cases z
        cases r with
        | val d => exact m
        | new es => exact ne p rfl a ⟨es, rfl⟩ ds rfl
      · rw [List.getElem?_eq_none (by rw [List.length_set]; omega)] at e; cases e
    · rw [List.getElem?_set_ne hk] at e z
      exact g k s e m z
theorem gs_par {i j : Nat} {x y : Str} {px py pt : Pos} {kt k2 pt2} (hc : X.calm = true) (hN : X.N.Nodup) (hi : X.N[i]? = some x) (hj : X.N[j]? = some y) (hij : i ≠ j) (ha : GE X C W a ma) (hb : ∀ C', GE X C' W b mb)
    (hx : X.env.scope.names.lookup x = some .local := by rfl) (hy : X.env.scope.names.lookup y = some .local := by rfl)
    (hw : swappedStores [.Tuple [.Name x px, .Name y py] kt pt] (.Tuple [a, b] k2 pt2) X.env = pure (some [x, y]) := by rfl)
    (hs : swapsWithSole [.Tuple [.Name x px, .Name y py] kt pt] (.Tuple [a, b] k2 pt2) pos.line X.env = pure false := by rfl)
    (ha1 : starEach [a, b] X.env = (false, eval a X.env) :: starEach [b] X.env := by rfl) (hb1 : starEach [b] X.env = (false, eval b X.env) :: starEach [] X.env := by rfl) :
    GS X C W (.Assign [.Tuple [.Name x px, .Name y py] kt pt] (.Tuple [a, b] k2 pt2) pos) (par2 i j ma mb) :=
  (ps_par (ta := tCons (tE X.K X.mg C W ma) (tCons (fun σ H Q => ∃ C', tE X.K X.mg C' W mb σ H Q) tNil)) hc hN hi hj hij hx hy (pa_cons ha (pa_cons ⟨fun pins s σ H Q I ⟨C', z⟩ => (hb C').run pins s σ H Q I z⟩ pa_nil hb1) ha1) hw hs).imp fun D σ H ⟨F, ρ, ok, h⟩ =>
    pair_rd (tb := fun σ H Q => ∃ C', tE X.K X.mg C' W mb σ H Q) (Q := fun v w H2 => ∃ v' w', [v, w] = [v', w'] ∧ D.nx ((σ.set i (some v')).set j (some w')) H2) (k := fun r u ρ => .nx ((ρ.set i (some r.sl)).set j (some u.sl))) ok (fun C' σ H Q z => ⟨C', z⟩) h fun r u ρ2 v w H2 F2 ok2 g2 rv rw_ ne h2 => ⟨v, w, rfl, h2 _ H2 F2 (ok2.store2 rv rw_ ne) Gr.refl⟩
/-- three values, frozen -/
def par3 (i j l : Nat) (ms : M (List PyData)) : SM := bindS ms fun ds ρ => match ds with
  | [x, y, z] => .nx (((ρ.set i (some (.val x))).set j (some (.val y))).set l (some (.val z)))
  | _ => .bad
theorem gs_par3 {i j l : Nat} {x y z : Str} {px py pz pt : Pos} {kt k2 pt2} {ms : M (List PyData)} (hc : X.calm = true) (hN : X.N.Nodup) (hi : X.N[i]? = some x) (hj : X.N[j]? = some y) (hl : X.N[l]? = some z) (hij : i ≠ j) (hil : i ≠ l) (hjl : j ≠ l) (ha : GA X C W [a, b, c] ms)
    (hx : X.env.scope.names.lookup x = some .local := by rfl) (hy : X.env.scope.names.lookup y = some .local := by rfl) (hz : X.env.scope.names.lookup z = some .local := by rfl)
    (hw : swappedStores [.Tuple [.Name x px, .Name y py, .Name z pz] kt pt] (.Tuple [a, b, c] k2 pt2) X.env = pure (some [x, y, z]) := by rfl)
    (hs : swapsWithSole [.Tuple [.Name x px, .Name y py, .Name z pz] kt pt] (.Tuple [a, b, c] k2 pt2) pos.line X.env = pure false := by rfl) :
    GS X C W (.Assign [.Tuple [.Name x px, .Name y py, .Name z pz] kt pt] (.Tuple [a, b, c] k2 pt2) pos) (par3 i j l ms) :=
  (ps_par3 hc hN hi hj hl hij hil hjl hx hy hz ha hw hs).imp fun D σ H ⟨F, ρ, ok, h⟩ => by
    refine ⟨F, ρ, ok, wp_mono (wp_bindS σ h) fun ds ρ1 h1 vs H1 F1 ok1 g1 dd => ?_⟩
    split at h1
    · rename_i x y z
      rw [DtA] at dd
      obtain ⟨v1, r1, e1, d1, dd⟩ := dd
      rw [DtA] at dd
      obtain ⟨v2, r2, e2, d2, dd⟩ := dd
      rw [DtA] at dd
      obtain ⟨v3, r3, e3, d3, dd⟩ := dd
      rw [DtA] at dd
      subst dd e3 e2 e1
      exact ⟨v1, v2, v3, rfl, h1 _ H1 F1 (((ok1.store (r := .val _) d1).store (r := .val _) d2).store (r := .val _) d3) g1⟩
    · exact h1.elim
/-! ### the rest -/
def dropS (m : M Rv) : SM := bindS m fun _ ρ => .nx ρ
theorem gs_expr (he : GE X C W e m) (hs : swapsWith e none pos.line X.env = pure false := by rfl) : GS X C W (.Expr e pos) (dropS m) := (ps_expr he hs).imp fun D σ H ⟨F, ρ, ok, h⟩ =>
  ⟨F, ρ, ok, wp_mono (wp_bindS σ h) fun r ρ1 h1 v H1 F1 ok1 g1 rv => h1 σ H1 F1 ok1 g1⟩
def retS (m : M Rv) : SM := bindS m fun r ρ => .ret r ρ
theorem gs_ret (he : GE X C W e m) : GS X C W (.Return (some e) pos) (retS m) := (ps_ret he).imp fun D σ H ⟨F, ρ, ok, h⟩ =>
  ⟨F, ρ, ok, wp_mono (wp_bindS σ h) fun r ρ1 h1 v H1 F1 ok1 g1 rv => h1 σ v H1 F1 ok1 g1 rv⟩
theorem gs_retN : GS X C W (.Return none pos) (fun ρ => .ret (.val .none) ρ) := PS.imp ps_retN fun D σ H ⟨F, ρ, ok, h⟩ => h σ .non H F ok Gr.refl (by show Dt _ _ _ _ _; rw [Dt])
/-- return x, x a list of its own: it is handed over -/
def retV (i : Nat) : SM := fun ρ => match ρ[i]? with
  | some (some (.val d)) => .ret (.val d) ρ
  | some (some (.own ds)) => .ret (.new ds) (ρ.set i none)
  | _ => .bad
theorem gs_retV {i : Nat} {x : Str} {px : Pos} (hN : X.N[i]? = some x) (hv : Vis X.env.scope x := by first | exact .inl rfl | exact .inr (.inl rfl) | exact .inr (.inr rfl)) (hd : (x == ("__debug__" : Str)) = false := by decide)
    (hcd : (x == ("__classdict__" : Str)) = false := by decide) : GS X C W (.Return (some (.Name x px)) pos) (retV i) := (ps_ret (pe_var hN hv hd hcd)).imp fun D σ H ⟨F, ρ, ok, h⟩ => by
  unfold retV at h
  cases e : ρ[i]? with
  | none => rw [e] at h; exact h.elim
  | some o =>
    rw [e] at h
    cases o with
    | none => exact h.elim
    | some s =>
      obtain ⟨v, hv, hs⟩ := ok.sl i _ e
      cases s with
      | val d => exact ⟨v, hv, h σ v H F ok Gr.refl hs⟩
      | brw k ds => exact h.elim
      | own ds =>
        have hlt : i < ρ.length := by
          rcases Nat.lt_or_ge i ρ.length with h | h
          · exact h
          · rw [List.getElem?_eq_none h] at e; cases e
        have back : ∀ (j : Nat) (s : Sl), (ρ.set i none)[j]? = some (some s) → i ≠ j ∧ ρ[j]? = some (some s) := fun j s e => by
          by_cases h : i = j
          · subst h; rw [List.getElem?_set_self hlt] at e; cases e
          · rw [List.getElem?_set_ne h] at e; exact ⟨h, e⟩
        have ok1 : Ok X.K C σ H F (ρ.set i none) :=
          ⟨by rw [List.length_set]; exact ok.len, ok.keep, ok.f0, ok.fn, ok.fh, ok.bh, fun j s e => ok.sl j s (back j s e).2, fun j k s t p e1 e2 => ok.inj j k s t p (back _ _ e1).2 (back _ _ e2).2⟩
        obtain ⟨p, vs, a1, a2, a3, a4, a5⟩ := hs
        refine ⟨v, hv, h σ v H F ok1 Gr.refl ⟨p, vs, a1, a2, a3, a4, a5, fun j s e' m z => ?_⟩⟩
        exact (back j s e').1 (ok.inj i j _ s p e (back j s e').2 trivial m (by rw [hv, a1]) z)
def ifS (p : M Bool) (x y : SM) : SM := bindS p fun k ρ => bif k then x ρ else y ρ
theorem gs_if (hc : GT X C W c p) (ha : GSs X C W body s1) (hb : GSs X C W els s2) : GS X C W (.If c body els pos) (ifS p s1 s2) := (ps_if hc ha hb).imp fun D σ H ⟨F, ρ, ok, h⟩ => by
  refine ⟨F, ρ, ok, wp_mono (wp_bindS σ h) fun k ρ1 h1 H1 F1 ok1 g1 => ?_⟩
  cases k with
  | true => exact ⟨F1, ρ1, ok1, PoS.mono g1 h1⟩
  | false => exact ⟨F1, ρ1, ok1, PoS.mono g1 h1⟩
/-! ### loops -/
def forL (t : Tg) (body : SM) : List PyData → SM
  | [], ρ => .nx ρ
  | d :: ds, ρ => match t.set d ρ with
    | none => .bad
    | some ρ1 => match body ρ1 with
      | .nx ρ2 => forL t body ds ρ2
      | .cnt ρ2 => forL t body ds ρ2
      | .brk ρ2 => .nx ρ2
      | .ret r ρ2 => .ret r ρ2
      | .exc c d ρ2 => .exc c d ρ2
      | .bad => .bad
def forS (mi : M (List PyData)) (t : Tg) (body : SM) : SM := bindS mi fun ds => forL t body ds
theorem gs_for {mi : M (List PyData)} (hp : PassesOwn (model X.prog X.w) X.A X.env X.xe) (hc : X.calm = true) (hi : GI X C W tg e mi) (hg : PG X tg (tgR X.K C t)) (hb : GSs X C W body sb)
    (hs : ∀ x, foldedSetIterable e X.env x = pure x := by intro _; rfl) : GS X C W (.For tg e body [] pos) (forS mi t sb) := (ps_for hp hc hi hg hb hs).imp fun D σ H ⟨F, ρ, ok, h⟩ => by
  refine ⟨F, ρ, ok, wp_mono (wp_bindS σ h) fun ds ρ1 h1 J H1 F1 ok1 g1 dw => ?_⟩
  obtain ⟨n, G, Y, wk, hn, hG, hY⟩ := dw
  refine for_it wk (g := tgR X.K C t) (tb := tS X.K X.mg C W sb) (D := D) (fun i σ' H' => ∃ F' ρ', Ok X.K C σ' H' F' ρ' ∧ Gr H1 F1 H' F' ∧ PoS X.K X.mg C W H' F' D (forL t sb (ds.drop i) ρ')) ⟨F1, ρ1, ok1, Gr.refl, PoS.mono g1 h1⟩ ?_ ?_ ?_
  · rintro i σ' H' _ ⟨F', ρ', _, g', _⟩
    exact hG H' F' g'
  · rintro i x σ' H2 H3 hlt ⟨F', ρ', ok', g', hpo⟩ hy
    obtain ⟨hHeap, hDt⟩ := hY i H2 F' x H3 g' hlt hy
    have hi' : i < ds.length := by omega
    have hdr : ds.drop i = ds[i] :: ds.drop (i + 1) := List.drop_eq_getElem_cons hi'
    rw [hdr] at hpo
    unfold forL at hpo
    have dx : Dt X.K H3 F' ds[i] x := hDt _ (by simp [hi'])
    obtain ⟨ok3, g3⟩ : Ok X.K C σ' H3 F' ρ' ∧ Gr H2 F' H3 F' := by
      rcases hHeap with e | ⟨T, xs, hT, e⟩
      · subst e; exact ⟨ok', Gr.refl⟩
      · subst e; exact ⟨ok'.grow hT, gr_new hT⟩
    cases hs' : t.set ds[i] ρ' with
    | none => rw [hs'] at hpo; exact hpo.elim
    | some ρ4 =>
      rw [hs'] at hpo
      simp only [] at hpo
      refine ⟨F', ρ', ds[i], ρ4, ok3, dx, hs', fun σ4 ok4 _ => ⟨F', ρ4, ok4, ?_⟩⟩
      have hpo := PoS.mono g3 hpo
      cases hbd : sb ρ4 with
      | bad => rw [hbd] at hpo; exact hpo.elim
      | exc c d ρ5 => rw [hbd] at hpo; exact hpo
      | ret r ρ5 => rw [hbd] at hpo; exact hpo
      | brk ρ5 => rw [hbd] at hpo; exact hpo
      | nx ρ5 =>
        rw [hbd] at hpo
        exact fun σ5 H5 F5 ok5 g5 => ⟨F5, ρ5, ok5, (g'.trans g3).trans g5, PoS.mono g5 hpo⟩
      | cnt ρ5 =>
        rw [hbd] at hpo
        exact fun σ5 H5 F5 ok5 g5 => ⟨F5, ρ5, ok5, (g'.trans g3).trans g5, PoS.mono g5 hpo⟩
  · rintro σ' H' ⟨F', ρ', ok', g', hpo⟩
    rw [hn, List.drop_length] at hpo
    exact hpo σ' H' F' ok' Gr.refl
/-- while, by fuel -/
def whL (p : M Bool) (body : SM) : Nat → SM
  | 0, _ => .bad
  | n + 1, ρ => match p ρ with
    | .bad => .bad
    | .exc c d ρ1 => .exc c d ρ1
    | .ok false ρ1 => .nx ρ1
    | .ok true ρ1 => match body ρ1 with
      | .nx ρ2 => whL p body n ρ2
      | .cnt ρ2 => whL p body n ρ2
      | .brk ρ2 => .nx ρ2
      | .ret r ρ2 => .ret r ρ2
      | .exc c d ρ2 => .exc c d ρ2
      | .bad => .bad
/-- the outcome of a while, if it comes to an end -/
def whS (n : Nat) (p : M Bool) (body : SM) : SM := whL p body n
theorem gs_while {n : Nat} (hp : PassesOwn (model X.prog X.w) X.A X.env X.xe) (hc : GT X C W c p) (hb : GSs X C W body sb) : GS X C W (.While c body [] pos) (whS n p sb) := (ps_while hp hc hb).imp fun D σ H ⟨F, ρ, ok, h⟩ => by
  refine ⟨fun k σ' H' => ∃ F' ρ', Ok X.K C σ' H' F' ρ' ∧ PoS X.K X.mg C W H' F' D (whL p sb k ρ'), ⟨n, F, ρ, ok, h⟩, ?_⟩
  rintro k σ' H' ⟨F', ρ', ok', hpo⟩
  cases k with
  | zero => exact hpo.elim
  | succ k =>
    unfold whL at hpo
    refine ⟨F', ρ', ok', ?_⟩
    unfold wp
    cases hq : p ρ' with
    | bad => rw [hq] at hpo; exact hpo.elim
    | exc c d ρ1 => rw [hq] at hpo; exact hpo σ'
    | ok b ρ1 =>
      rw [hq] at hpo
      intro H1 F1 ok1 g1
      have hpo := PoS.mono g1 hpo
      cases b with
      | false => exact hpo σ' H1 F1 ok1 Gr.refl
      | true =>
        simp only [if_true]
        simp only [] at hpo
        refine ⟨fun σ2 H2 => ∃ F2 ρ2, Ok X.K C σ2 H2 F2 ρ2 ∧ PoS X.K X.mg C W H2 F2 D (whL p sb k ρ2), fun σ2 H2 z => ⟨k, Nat.lt_succ_self k, z⟩, F1, ρ1, ok1, ?_⟩
        cases hbd : sb ρ1 with
        | bad => rw [hbd] at hpo; exact hpo.elim
        | exc c d ρ5 => rw [hbd] at hpo; exact hpo
        | ret r ρ5 => rw [hbd] at hpo; exact hpo
        | brk ρ5 => rw [hbd] at hpo; exact hpo
        | nx ρ5 => rw [hbd] at hpo; exact fun σ5 H5 F5 ok5 g5 => ⟨F5, ρ5, ok5, PoS.mono g5 hpo⟩
        | cnt ρ5 => rw [hbd] at hpo; exact fun σ5 H5 F5 ok5 g5 => ⟨F5, ρ5, ok5, PoS.mono g5 hpo⟩
/-! ### x[k] = e, x.append(e), x a name that holds a list -/
/-- the list at slot i, changed -/
def updL (i : Nat) (f : List PyData → Option (List PyData)) : M Unit := fun ρ => match ρ[i]? with
  | some (some (.own ds)) => (match f ds with
    | some es => .ok () (ρ.set i (some (.own es)))
    | none => .bad)
  | some (some (.brw k ds)) => (match f ds with
    | some es => .ok () (ρ.set i (some (.brw k es)))
    | none => .bad)
  | _ => .bad
theorem wp_updL {i : Nat} {f : List PyData → Option (List PyData)} {ρ : Rho} {Q : Unit → Rho → Prop} {E : Str → PyData → Rho → Prop} (h : wp (updL i f) ρ Q E) :
    ∃ s ds es, ρ[i]? = some (some s) ∧ s.mut ∧ s.ls = some ds ∧ f ds = some es ∧ Q () (ρ.set i (some (s.put es))) := by
  unfold wp updL at h
  cases e : ρ[i]? with
  | none => rw [e] at h; exact h.elim
  | some o =>
    rw [e] at h
    cases o with
    | none => exact h.elim
    | some s =>
      cases s with
      | val d => exact h.elim
      | own ds =>
        cases hf : f ds with
        | none => simp only [hf] at h
        | some es => simp only [hf] at h; exact ⟨_, ds, es, rfl, trivial, rfl, hf, h⟩
      | brw k ds =>
        cases hf : f ds with
        | none => simp only [hf] at h
        | some es => simp only [hf] at h; exact ⟨_, ds, es, rfl, trivial, rfl, hf, h⟩
theorem Ok.mutAt {K : PySem.W.Frag} {σ : L2.St} {H : Hp} {F : Addr → Prop} {ρ : Rho} {i : Nat} {s : Sl} {ds : List PyData} {v : V} (ok : Ok K C σ H F ρ) (e : ρ[i]? = some (some s)) (m : s.mut) (hl : s.ls = some ds) (hv : σ[i]? = some (some v)) :
    ∃ p vs, v = .ref p ∧ H p = some (.lst vs) ∧ DtA K H F ds vs := by
  obtain ⟨v', hv', hs⟩ := ok.sl i s e
  rw [hv] at hv'; cases hv'
  cases s with
  | val d => exact m.elim
  | own es => cases hl; obtain ⟨p, vs, a, b, c, _⟩ := hs; exact ⟨p, vs, a, b, c⟩
  | brw k es => cases hl; obtain ⟨p, vs, a, b, c, _⟩ := hs; exact ⟨p, vs, a, b, c⟩
def setAt (k d : PyData) (ds : List PyData) : Option (List PyData) := match k with
  | .int j => (ixN ds.length j).map fun n => ds.set n d
  | _ => none
def setIx (i : Nat) (m mk : M Rv) : SM := bindS (M.bindD m fun d => M.bind (chk i) fun _ => M.bindD mk fun k => updL i (setAt k d)) fun _ ρ => .nx ρ
theorem gs_setIx {i : Nat} {x : Str} {px ps : Pos} {k : Expr} {mk : M Rv} (hN : X.N[i]? = some x) (he : GE X C W e m) (hk : GE X C W k mk) (hv : Vis X.env.scope x := by first | exact .inl rfl | exact .inr (.inl rfl) | exact .inr (.inr rfl))
    (hpg : ∀ {to ti : TE} (ho : PE X (.Name x px) to) (hi : PE X k ti), PG X (.Subscript (.Name x px) k ps) (gSub to ti rSetL) := by intro to ti ho hi; exact pg_sub ho hi set_list)
    (hs : swapsWithSole [.Subscript (.Name x px) k ps] e pos.line X.env = pure false := by rfl) (hw : swappedStores [.Subscript (.Name x px) k ps] e X.env = pure none := by rfl)
    (h1 : (assignEach [.Subscript (.Name x px) k ps] X.env).map (·.2) = [assign (.Subscript (.Name x px) k ps) X.env] := by rfl)
    (hd : (x == ("__debug__" : Str)) = false := by decide) (hcd : (x == ("__classdict__" : Str)) = false := by decide) : GS X C W (.Assign [.Subscript (.Name x px) k ps] e pos) (setIx i m mk) :=
  (ps_asg he (hpg (pe_var hN hv hd hcd) hk) hs hw h1).imp fun D σ H ⟨F, ρ, ok, h⟩ => by
    have h := wp_bindS σ h
    rw [wp_bindD] at h
    refine ⟨F, ρ, ok, wp_mono h fun r ρ1 h1 v H1 F1 ok1 g1 rv => ?_⟩
    obtain ⟨F2, ok2, g2, d2⟩ := ok1.freeze rv
    rw [wp_bind, wp_chk] at h1
    obtain ⟨⟨s, hs⟩, h1⟩ := h1
    obtain ⟨w, hw, _⟩ := ok2.sl i s hs
    refine ⟨w, hw, F2, ρ1, ok2, ?_⟩
    rw [wp_bindD] at h1
    refine wp_mono h1 fun r3 ρ3 h3 z H3 F3 ok3 g3 rv3 => ?_
    obtain ⟨F4, ok4, g4, d4⟩ := ok3.freeze rv3
    obtain ⟨s4, ds, es, e4, m4, l4, f4, h4⟩ := wp_updL h3
    obtain ⟨p, vs, ew, hp, dd⟩ := ok4.mutAt e4 m4 l4 hw
    subst ew
    unfold setAt at f4
    cases hk : r3.d with
    | int j =>
      rw [hk] at f4 d4
      rw [Dt] at d4
      obtain ⟨n, hn, en⟩ := Option.map_eq_some_iff.mp f4
      subst en
      have dv := Dt.mono (g3.trans g4) _ _ d2
      obtain ⟨ok5, g5⟩ := ok4.write e4 m4 hw (DtA.set dv n dd)
      exact ⟨p, vs, j, n, rfl, d4, hp, by rw [dd.len]; exact hn, h4 σ _ F4 ok5 ((((g1.trans g2).trans g3).trans g4).trans g5)⟩
    | _ => rw [hk] at f4; cases f4
def appL (d : PyData) (ds : List PyData) : Option (List PyData) := if ds.length < 100000 then some (ds ++ [d]) else none
def M.append (i : Nat) (m : M Rv) : M Rv := M.bind (chk i) fun _ => M.bindD m fun d => M.bind (updL i (appL d)) fun _ => M.pure (.val .none)
theorem line6 {n : Nat} (h : n < 100000) : n < sizeLine := Nat.lt_of_lt_of_le h (by decide)
/-- what stands at slot i is a list as it is asked for a method: it holds one ahead of the argument too -/
def chkL (i : Nat) : M Unit := fun ρ => match ρ[i]? with
  | some (some (.own _)) => .ok () ρ
  | some (some (.brw _ _)) => .ok () ρ
  | _ => .bad
theorem wp_chkL {i : Nat} {ρ : Rho} {Q : Unit → Rho → Prop} {E : Str → PyData → Rho → Prop} (h : wp (chkL i) ρ Q E) : (∃ s ds, ρ[i]? = some (some s) ∧ s.mut ∧ s.ls = some ds) ∧ Q () ρ := by
  unfold wp chkL at h
  cases e : ρ[i]? with
  | none => rw [e] at h; exact h.elim
  | some o =>
    rw [e] at h
    cases o with
    | none => exact h.elim
    | some s =>
      cases s with
      | val d => exact h.elim
      | own ds => exact ⟨⟨_, ds, rfl, trivial, rfl⟩, h⟩
      | brw k ds => exact ⟨⟨_, ds, rfl, trivial, rfl⟩, h⟩
/-- x.m(e), m a method that changes the list by f -/
def M.meth1 (i : Nat) (f : PyData → List PyData → Option (List PyData)) (m : M Rv) : M Rv := M.bind (chkL i) fun _ => M.bindD m fun d => M.bind (updL i (f d)) fun _ => M.pure (.val .none)
def MethOk (K : PySem.W.Frag) (r : V → List V → Hp → VK → Prop) (f : PyData → List PyData → Option (List PyData)) : Prop :=
  ∀ (H : Hp) (F : Addr → Prop) (p : Addr) (vs : List V) (ds es : List PyData) (v : V) (d : PyData) (Q : VK), H p = some (.lst vs) → DtA K H F ds vs → Dt K H F d v → ¬ F p → f d ds = some es → (∀ ws, DtA K H F es ws → Q .non (upd H p (.lst ws))) → r (.ref p) [v] H Q
theorem meth_append {K : PySem.W.Frag} : MethOk K rAppend appL := fun H F p vs ds es v d Q hp dd dv hf he q => by
  unfold appL at he
  split at he
  · rename_i hl
    cases he
    exact ⟨p, vs, v, rfl, rfl, hp, by rw [dd.len]; exact line6 hl, q _ (dd.append (DtA.cons dv DtA.nil))⟩
  · cases he
def extL (d : PyData) (ds : List PyData) : Option (List PyData) := match d with
  | .list es => if ds.length + es.length ≤ 100000 then some (ds ++ es) else none
  | _ => none
theorem meth_extend {K : PySem.W.Frag} : MethOk K rExtend extL := fun H F p vs ds es v d Q hp dd dv hf he q => by
  unfold extL at he
  cases d with
  | list zs =>
    simp only [] at he
    split at he
    · rename_i hl
      cases he
      rw [Dt] at dv
      obtain ⟨a, ws, e, fa, ha, dw⟩ := dv
      subst e
      exact ⟨p, a, vs, ws, rfl, rfl, hp, ha, by rw [dd.len, dw.len]; exact line5 hl, q _ (dd.append dw)⟩
    · cases he
  | _ => cases he
theorem ge_meth1 {i : Nat} {x name : Str} {id : String} {r : V → List V → Hp → VK → Prop} {f : PyData → List PyData → Option (List PyData)} {px apos cpos : Pos} (slot : Slot "list" name id) (hty : typeOf (.builtin id) = pure (.type "method_descriptor")) (hm : MtR X id r) (hf : MethOk X.K r f)
    (hN : X.N[i]? = some x) (ha : GE X C W e m) (hv : Vis X.env.scope x := by first | exact .inl rfl | exact .inr (.inl rfl) | exact .inr (.inr rfl)) (hd : (x == ("__debug__" : Str)) = false := by decide) (hcd : (x == ("__classdict__" : Str)) = false := by decide)
    (hbase : attributeBase (.Name x px) name X.env (eval (.Name x px) X.env) = eval (.Name x px) X.env := by rfl)
    (hfew : ((backTo cpos (starEach [e] X.env)).all (fun x => !x.1) && (backToKw cpos (keywordEach [] X.env)).all (fun x => x.1.isSome)
      && decide ([e].length + ([] : List Keyword).length + (if ([] : List Keyword).isEmpty then 0 else 1) < 30)) = true := by rfl)
    (hline : (apos.endLine == cpos.line) = true := by rfl) (hs : starEach [e] X.env = (false, eval e X.env) :: starEach [] X.env := by rfl) (hplain : (backTo cpos (starEach [] X.env)).any (·.1) = false := by rfl) :
    GE X C W (.Call (.Attribute (.Name x px) name apos) [e] [] cpos) (M.meth1 i f m) :=
  (pe_bm F.plainAttrs_list slot hty hm (pe_var hN hv hd hcd) (pa_cons ha pa_nil hs) hbase hfew hline hs hplain).imp fun σ H Q ⟨F, ρ, ok, h⟩ => by
    unfold M.meth1 at h
    rw [wp_bind] at h
    obtain ⟨⟨s, ds0, e0, m0, l0⟩, h⟩ := wp_chkL h
    obtain ⟨v, hv', _⟩ := ok.sl i s e0
    obtain ⟨p, vs0, ev, hp0, _⟩ := ok.mutAt e0 m0 l0 hv'
    subst ev
    refine ⟨.ref p, hv', .inl ⟨rfl, vs0, SqL.of hp0⟩, F, ρ, ok, ?_⟩
    rw [wp_bindD] at h
    refine wp_mono h fun r ρ1 h1 w H1 F1 ok1 g1 rv => ?_
    obtain ⟨F2, ok2, g2, d2⟩ := ok1.freeze rv
    rw [wp_bind] at h1
    obtain ⟨s4, ds, es, e4, m4, l4, f4, h4⟩ := wp_updL h1
    obtain ⟨p', vs, ew, hp, dd⟩ := ok2.mutAt e4 m4 l4 hv'
    cases ew
    obtain ⟨q1, us1, a1, a2, a3⟩ := ok2.sname e4 m4
    rw [hv'] at a1
    cases a1
    refine hf H1 F2 p vs ds es w r.d Q hp dd d2 a3 f4 fun ws dw => ?_
    obtain ⟨ok5, g5⟩ := ok2.write e4 m4 hv' dw
    exact h4 .non _ F2 ok5 ((g1.trans g2).trans g5) (by show Dt _ _ _ _ _; rw [Dt])
end
end Fx

set_option Elab.async false
set_option linter.all false
set_option maxRecDepth 100000
set_option maxHeartbeats 2000000
namespace Fx
open PySem PySem.Spec PyProof.Rows L2 RZ

/-! ### defs as functions of data -/
inductive Ag where
  | v (d : PyData)
  | r (ds : List PyData)
inductive FR where
  | ok (r : Rv) (outs : List (List PyData))
  | exc (c : Str) (d : PyData) (outs : List (List PyData))
  | bad
abbrev Fn := List Ag → FR
inductive AgsOk (K : PySem.W.Frag) (H : Hp) (F : Addr → Prop) : List Ag → List V → List Addr → Prop where
  | nil : AgsOk K H F [] [] []
  | v {d as v vs ps} : Dt K H F d v → AgsOk K H F as vs ps → AgsOk K H F (.v d :: as) (v :: vs) ps
  | r {ds as p ws vs ps} : H p = some (.lst ws) → DtA K H F ds ws → ¬ F p → AgsOk K H F as vs ps → AgsOk K H F (.r ds :: as) (.ref p :: vs) (p :: ps)
structure FrOk (ps : List Addr) (H : Hp) (F : Addr → Prop) (H' : Hp) (F' : Addr → Prop) : Prop where
  keep : ∀ a o, H a = some o → a ∉ ps → H' a = some o
  fz : ∀ a, F a → F' a
  fn : ∀ a, F' a → F a ∨ H a = none
  fh : ∀ a, F' a → H' a ≠ none
inductive OutsOk (K : PySem.W.Frag) (H : Hp) (F : Addr → Prop) : List Addr → List (List PyData) → Prop where
  | nil : OutsOk K H F [] []
  | cons {p ws o ps os} : H p = some (.lst ws) → DtA K H F o ws → ¬ F p → OutsOk K H F ps os → OutsOk K H F (p :: ps) (o :: os)
def RetOk (K : PySem.W.Frag) (H H' : Hp) (F' : Addr → Prop) (v : V) : Rv → Prop
  | .val d => Dt K H' F' d v
  | .new ds => ∃ p ws, v = .ref p ∧ H' p = some (.lst ws) ∧ DtA K H' F' ds ws ∧ ¬ F' p ∧ H p = none
def EndF (K : PySem.W.Frag) (mg : Str → Option Value) (ps : List Addr) (H : Hp) (F : Addr → Prop) (Q : VK) (E : XK) : FR → Prop
  | .ok r outs => ∀ v H' F', FrOk ps H F H' F' → OutsOk K H' F' ps outs → RetOk K H H' F' v r → Q v H'
  | .exc c d outs => ∀ Cl a v H' F', FrOk ps H F H' F' → OutsOk K H' F' ps outs → mg c = some (.ref Cl) → H' a = some (.xd [(("value" : Str), v)]) → Dt K H' F' d v → E (.ref Cl) (some a) H'
  | .bad => False
/-- a def does as the function f tells -/
def spF (K : PySem.W.Frag) (mg : Str → Option Value) (n : Nat) (f : Fn) : Sp := fun vs H Q E => vs.length = n ∧ ∃ F as ps, (∀ a, F a → H a ≠ none) ∧ AgsOk K H F as vs ps ∧ ps.Nodup ∧ EndF K mg ps H F Q E (f as)

/-! ### a body as such a function -/
def agR : Nat → List Ag → Rho
  | _, [] => []
  | k, .v d :: r => some (.val d) :: agR (k + 1) r
  | k, .r ds :: r => some (.brw k ds) :: agR (k + 1) r
def initR (n : Nat) (as : List Ag) : Rho := agR 0 as ++ List.replicate (n - as.length) none
def outsR : Nat → List Ag → Rho → Option (List (List PyData))
  | _, [], _ => some []
  | k, .v _ :: r, ρ => outsR (k + 1) r ρ
  | k, .r _ :: r, ρ => match ρ[k]? with
    | some (some (.brw k' ds)) => bif k' == k then (outsR (k + 1) r ρ).map (ds :: ·) else none
    | _ => none
def endR (as : List Ag) (r : Rv) (ρ : Rho) : FR := match outsR 0 as ρ with
  | some os => .ok r os
  | none => .bad
def endX (as : List Ag) (c : Str) (d : PyData) (ρ : Rho) : FR := match outsR 0 as ρ with
  | some os => .exc c d os
  | none => .bad
def runFn (n : Nat) (body : SM) : Fn := fun as => match body (initR n as) with
  | .ret r ρ => endR as r ρ
  | .nx ρ => endR as (.val .none) ρ
  | .exc c d ρ => endX as c d ρ
  | _ => .bad
section
variable {K : PySem.W.Frag} {mg : Str → Option Value} {H : Hp} {F : Addr → Prop}
theorem agR_len : ∀ {k : Nat} {as : List Ag}, (agR k as).length = as.length
  | _, [] => rfl
  | k, .v d :: r => by simp [agR, agR_len]
  | k, .r ds :: r => by simp [agR, agR_len]
theorem AgsOk.len : ∀ {as : List Ag} {vs : List V} {ps : List Addr}, AgsOk K H F as vs ps → vs.length = as.length
  | _, _, _, .nil => rfl
  | _, _, _, .v _ t => by simp [t.len]
  | _, _, _, .r _ _ _ t => by simp [t.len]
def baOf : Nat → List Ag → List V → Nat → Option Addr
  | k, .r _ :: as, .ref p :: vs, j => if j = k then some p else baOf (k + 1) as vs j
  | k, _ :: as, _ :: vs, j => baOf (k + 1) as vs j
  | _, _, _, _ => none
theorem baOf_mem : ∀ {as : List Ag} {vs : List V} {ps : List Addr} {k j : Nat} {p : Addr}, AgsOk K H F as vs ps → baOf k as vs j = some p → p ∈ ps
  | _, _, _, k, j, p, .nil, e => by cases e
  | _, _, _, k, j, p, .v (d := d) (v := v) h t, e => by
    unfold baOf at e
    exact baOf_mem t e
  | _, _, _, k, j, p, .r h d nf t, e => by
    unfold baOf at e
    split at e
    · cases e; exact List.mem_cons_self
    · exact List.mem_cons_of_mem _ (baOf_mem t e)
theorem baOf_lt : ∀ {as : List Ag} {vs : List V} {k j : Nat} {p : Addr}, baOf k as vs j = some p → k ≤ j
  | [], _, k, j, p, e => by unfold baOf at e; cases e
  | .v d :: as, [], k, j, p, e => by unfold baOf at e; cases e
  | .r d :: as, [], k, j, p, e => by unfold baOf at e; cases e
  | .v d :: as, v :: vs, k, j, p, e => by
    have e : baOf (k + 1) as vs j = some p := by unfold baOf at e; exact e
    have := baOf_lt e
    omega
  | .r d :: as, v :: vs, k, j, p, e => by
    cases v with
    | ref q =>
      unfold baOf at e
      split at e
      · omega
      · have := baOf_lt e; omega
    | _ =>
      have e : baOf (k + 1) as vs j = some p := by unfold baOf at e; exact e
      have := baOf_lt e
      omega
/-- the parameters' slots at the entry -/
theorem agR_slot : ∀ {as : List Ag} {vs : List V} {ps : List Addr} {k i : Nat} {s : Sl}, AgsOk K H F as vs ps → (agR k as)[i]? = some (some s) →
    ∃ v, vs[i]? = some v ∧ ((∃ d, s = .val d ∧ Dt K H F d v) ∨ ∃ ds p ws, s = .brw (k + i) ds ∧ v = .ref p ∧ H p = some (.lst ws) ∧ DtA K H F ds ws ∧ ¬ F p ∧ baOf k as vs (k + i) = some p)
  | _, _, _, k, i, s, .nil, e => by simp [agR] at e
  | _, _, _, k, 0, s, .v h t, e => by
    simp [agR] at e
    subst e
    exact ⟨_, by simp, .inl ⟨_, rfl, h⟩⟩
  | _, _, _, k, i + 1, s, .v h t, e => by
    obtain ⟨v, hv, r⟩ := agR_slot (k := k + 1) (i := i) t (by simpa [agR] using e)
    refine ⟨v, by simpa using hv, ?_⟩
    rcases r with r | ⟨ds, p, ws, a, b, c, d, f, g⟩
    · exact .inl r
    · have e1 : k + 1 + i = k + (i + 1) := by omega
      rw [e1] at a g
      refine .inr ⟨ds, p, ws, a, b, c, d, f, ?_⟩
      unfold baOf
      exact g
  | _, _, _, k, 0, s, .r hp d nf t, e => by
    simp [agR] at e
    subst e
    exact ⟨_, by simp, .inr ⟨_, _, _, rfl, rfl, hp, d, nf, by unfold baOf; simp⟩⟩
  | _, _, _, k, i + 1, s, .r hp d nf t, e => by
    obtain ⟨v, hv, r⟩ := agR_slot (k := k + 1) (i := i) t (by simpa [agR] using e)
    refine ⟨v, by simpa using hv, ?_⟩
    rcases r with r | ⟨ds, p, ws, a, b, c, d, f, g⟩
    · exact .inl r
    · have e1 : k + 1 + i = k + (i + 1) := by omega
      rw [e1] at a g
      refine .inr ⟨ds, p, ws, a, b, c, d, f, ?_⟩
      unfold baOf
      rw [if_neg (by omega)]
      exact g
theorem baOf_inj : ∀ {as : List Ag} {vs : List V} {ps : List Addr} {k i j : Nat} {p : Addr}, AgsOk K H F as vs ps → ps.Nodup → baOf k as vs i = some p → baOf k as vs j = some p → i = j
  | _, _, _, k, i, j, p, .nil, _, e, _ => by cases e
  | _, _, _, k, i, j, p, .v h t, nd, e1, e2 => by
    unfold baOf at e1 e2
    exact baOf_inj t nd e1 e2
  | _, _, _, k, i, j, p, .r hp d nf t, nd, e1, e2 => by
    obtain ⟨n1, n2⟩ := List.nodup_cons.mp nd
    unfold baOf at e1 e2
    split at e1
    · split at e2
      · omega
      · cases e1
        exact absurd (baOf_mem t e2) n1
    · split at e2
      · cases e2
        exact absurd (baOf_mem t e1) n1
      · exact baOf_inj t n2 e1 e2
theorem AgsOk.dom : ∀ {as : List Ag} {vs : List V} {ps : List Addr}, AgsOk K H F as vs ps → ∀ p ∈ ps, H p ≠ none ∧ ¬ F p
  | _, _, _, .nil => fun p h => by cases h
  | _, _, _, .v _ t => t.dom
  | _, _, _, .r hp _ nf t => fun p h => by
    rcases List.mem_cons.mp h with h | h
    · subst h; exact ⟨by (rw [hp]; intro z; cases z), nf⟩
    · exact t.dom p h
def enOf (H : Hp) (F : Addr → Prop) (as : List Ag) (vs : List V) : En := ⟨H, F, baOf 0 as vs⟩
theorem getElem?_pad {α : Type} {l : List (Option α)} {m i : Nat} {x : α} (h : (l ++ List.replicate m none)[i]? = some (some x)) : l[i]? = some (some x) := by
  by_cases hi : i < l.length
  · rw [List.getElem?_append_left hi] at h; exact h
  · rw [List.getElem?_append_right (by omega)] at h
    rw [List.getElem?_replicate] at h
    split at h <;> cases h
theorem start_ok {as : List Ag} {vs : List V} {ps : List Addr} {N : List Str} (fh : ∀ a, F a → H a ≠ none) (ag : AgsOk K H F as vs ps) (nd : ps.Nodup) (hn : vs.length ≤ N.length) : Ok K (enOf H F as vs) (L2.start N vs) H F (initR N.length as) := by
  have hl := ag.len
  have fwd : ∀ (i : Nat) (s : Sl), (initR N.length as)[i]? = some (some s) → (agR 0 as)[i]? = some (some s) := fun i s e => getElem?_pad e
  have stt : ∀ (i : Nat) (v : V), vs[i]? = some v → (L2.start N vs)[i]? = some (some v) := fun i v e => by
    unfold L2.start
    obtain ⟨hi, _⟩ := List.getElem?_eq_some_iff.mp e
    rw [List.getElem?_append_left (by simpa using hi), List.getElem?_map, e]
    rfl
  refine ⟨?_, fun a o e _ => e, fun a f => f, fun a f => .inl f, fh, fun a ⟨k, hk⟩ => ?_, fun i s e => ?_, fun i j s t p e1 e2 m1 m2 h1 h2 => ?_⟩
  · unfold initR L2.start
    simp only [List.length_append, agR_len, List.length_replicate, List.length_map]
    omega
  · have := ag.dom a (baOf_mem ag hk)
    exact ⟨this.1, this.1⟩
  · obtain ⟨v, hv, r⟩ := agR_slot (k := 0) ag (fwd i s e)
    refine ⟨v, stt i v hv, ?_⟩
    rcases r with ⟨d, e, dt⟩ | ⟨ds, p, ws, e1, e2, e3, e4, e5, e6⟩
    · subst e; exact dt
    · rw [Nat.zero_add] at e1 e6
      subst e1
      exact ⟨p, ws, e2, e3, e4, e5, e6⟩
  · obtain ⟨v, hv, r⟩ := agR_slot (k := 0) ag (fwd i s e1)
    obtain ⟨w, hw, r'⟩ := agR_slot (k := 0) ag (fwd j t e2)
    rw [stt i v hv] at h1
    rw [stt j w hw] at h2
    cases h1
    cases h2
    rcases r with ⟨d, e, dt⟩ | ⟨ds, p1, ws, a1, a2, a3, a4, a5, a6⟩
    · subst e; exact m1.elim
    · rcases r' with ⟨d, e, dt⟩ | ⟨ds', p2, ws', b1, b2, b3, b4, b5, b6⟩
      · subst e; exact m2.elim
      · cases a2
        cases b2
        have := baOf_inj ag nd a6 b6
        omega
/-- the by-reference parameters at the end -/
theorem outs_ok {C : En} {σ : L2.St} {H' : Hp} {F' : Addr → Prop} {ρ : Rho} (ok : Ok K C σ H' F' ρ) : ∀ {as : List Ag} {vs : List V} {ps : List Addr} {k : Nat} {os : List (List PyData)}, AgsOk K H F as vs ps → (∀ j p, baOf k as vs j = some p → C.Ba j = some p) → outsR k as ρ = some os → OutsOk K H' F' ps os
  | _, _, _, k, os, .nil, _, e => by simp [outsR] at e; subst e; exact .nil
  | _, _, _, k, os, .v h t, hb, e => by
    refine outs_ok ok (k := k + 1) t (fun j p hj => hb j p ?_) (by simpa [outsR] using e)
    unfold baOf; exact hj
  | _, _, _, k, os, .r (p := p0) hp d nf t, hb, e => by
    unfold outsR at e
    split at e
    · rename_i k' ds hk
      cases hkk : (k' == k) with
      | false => rw [hkk] at e; cases e
      | true =>
        have : k' = k := by simpa using hkk
        subst this
        rw [hkk, cond_true] at e
        obtain ⟨os', h1, h2⟩ := Option.map_eq_some_iff.mp e
        subst h2
        obtain ⟨v, hv, q, ws, a1, a2, a3, a4, a5⟩ := ok.sl _ _ hk
        have hq : C.Ba k' = some p0 := hb k' p0 (by unfold baOf; simp)
        rw [a5] at hq
        cases hq
        refine .cons a2 a3 a4 (outs_ok ok (k := k' + 1) t (fun j p hj => hb j p ?_) h1)
        have := baOf_lt hj
        unfold baOf
        rw [if_neg (by omega)]
        exact hj
    · cases e
theorem frame_ok {as : List Ag} {vs : List V} {ps : List Addr} {σ : L2.St} {H' : Hp} {F' : Addr → Prop} {ρ : Rho} (ag : AgsOk K H F as vs ps) (ok : Ok K (enOf H F as vs) σ H' F' ρ) : FrOk ps H F H' F' :=
  ⟨fun a o e n => ok.keep a o e fun ⟨k, hk⟩ => n (baOf_mem ag hk), ok.f0, ok.fn, ok.fh⟩
/-- the body's reading, by the promise -/
theorem fn_rd {N : List Str} {n : Nat} {body : SM} {vs : List V} {Q : VK} {E : XK} (hn : n ≤ N.length) (h : spF K mg n (runFn N.length body) vs H Q E) :
    ∃ C, tS K mg C (fun cls d _ H => E cls d H) body { nx := fun _ H' => Q .non H', rt := Q } (L2.start N vs) H := by
  obtain ⟨hl, F, as, ps, fh, ag, nd, he⟩ := h
  refine ⟨enOf H F as vs, F, initR N.length as, start_ok fh ag nd (by omega), ?_⟩
  unfold runFn at he
  cases hb : body (initR N.length as) with
  | bad => rw [hb] at he; exact he.elim
  | brk ρ => rw [hb] at he; exact he.elim
  | cnt ρ => rw [hb] at he; exact he.elim
  | nx ρ =>
    rw [hb] at he
    simp only [endR] at he
    intro σ' H' F' ok' g
    cases ho : outsR 0 as ρ with
    | none => rw [ho] at he; exact he.elim
    | some os =>
      rw [ho] at he
      refine he .non H' F' (frame_ok ag ok') (outs_ok ok' ag (fun _ _ e => e) ho) ?_
      show Dt _ _ _ _ _
      rw [Dt]
  | ret r ρ =>
    rw [hb] at he
    simp only [endR] at he
    intro σ' v H' F' ok' g rv
    cases ho : outsR 0 as ρ with
    | none => rw [ho] at he; exact he.elim
    | some os =>
      rw [ho] at he
      refine he v H' F' (frame_ok ag ok') (outs_ok ok' ag (fun _ _ e => e) ho) ?_
      cases r with
      | val d => exact rv
      | new ds => obtain ⟨p, ws, a, b, c, d, e, _⟩ := rv; exact ⟨p, ws, a, b, c, d, e⟩
  | exc c d ρ =>
    rw [hb] at he
    simp only [endX] at he
    intro σ' H' F' Cl a v ok' hm hx dt
    cases ho : outsR 0 as ρ with
    | none => rw [ho] at he; exact he.elim
    | some os =>
      rw [ho] at he
      exact he Cl a v H' F' (frame_ok ag ok') (outs_ok ok' ag (fun _ _ e => e) ho) hm hx dt
end
/-- THE RULE for a def -/
theorem fn_ok {P : Program} {w : World} {K : PySem.W.Frag} {mg : Str → Option Value} {base : Heap} {x qual : Str} {st : Stmt} {f : Addr} {fd : FuncData} {N ps : List Str} {k : Nat} {body : SM} (Fu : Fun K x qual st f fd) (S : FnScope N ps (defScope st)) (hn : ps.length ≤ N.length)
    (hbody : ∀ (cdv : Value) (A : Around) (outer : List Env) (s : Shared) (H : Hp) (E : XK) (C : En), Room k (A.deeper (envOfC qual (defScope st) s.heap.objs.size f cdv)) →
      GSs (cxOf (L2.CX P w) P w K mg base N qual (defScope st) f cdv A outer s H E) C (fun cls d _ H => E cls d H) (defBody st) body) :
    FnOk P w K mg base (L2.CX P w) (k + 1) f fd ps (spF K mg ps.length (runFn N.length body)) := by
  refine Fu.okX S (fun vs H Q E h => h.1) fun cdv A outer s H vs Q E hr h => ?_
  obtain ⟨C, hC⟩ := fn_rd (N := N) hn h
  exact ⟨_, hbody cdv A outer s H E C hr, hC⟩
end Fx

set_option Elab.async false
set_option linter.all false
set_option maxRecDepth 100000
set_option maxHeartbeats 2000000
namespace Fx
open PySem PySem.Spec PyProof.Rows L2 RZ
/-! ### promises that hold where no repr is under way (guards known): what FnOk is, for fewer callers -/
structure FnG (P : Program) (w : World) (K : PySem.W.Frag) (mg : Str → Option Value) (base : Heap) (CX : CXT) (k : Nat) (f : Addr) (fd : FuncData) (ps : List Str) (sp : Sp) : Prop where
  ln : ∀ vs H Q E, sp vs H Q E → vs.length = ps.length
  go : ∀ (A : Around) (outer : List Env) (s : Shared) (H : Hp) (args : Args) (us : List Value) (vs : List V) (Q : VK) (E : XK), Room k A → A.guards = some [] → Env0 P w K mg base A outer s H → BindsTo s fd args (ps.zip us) → Vals vs us → sp vs H Q E →
    codeAny (model P w) A (.call (.ref f) args) (CR CX outer P w H s Q E) s
theorem FnG.mono {P : Program} {w : World} {K : PySem.W.Frag} {mg : Str → Option Value} {base : Heap} {CX : CXT} {j k : Nat} {f : Addr} {fd : FuncData} {ps : List Str} {sp : Sp} (F : FnG P w K mg base CX j f fd ps sp) (h : j ≤ k) :
    FnG P w K mg base CX k f fd ps sp := ⟨F.ln, fun A outer s H args us vs Q E hr hg => F.go A outer s H args us vs Q E (hr.mono h) hg⟩
theorem fnG_of {CX : CXT} {P : Program} {w : World} {K : PySem.W.Frag} {mg : Str → Option Value} {base : Heap} {k : Nat} {x qual : Str} {params : Arguments} {bd : List Stmt} {scope : Scope} {dvs : List V} {kws : List (Str × V)} {f : Addr} {fd : FuncData} {N ps : List Str} {sp : Sp}
    (F : FunD K x qual params bd scope dvs kws f fd) (S : FnScope N ps scope) (len : ∀ vs H Q E, sp vs H Q E → vs.length = ps.length)
    (hbody : ∀ (cdv : Value) (A : Around) (outer : List Env) (s : Shared) (H : Hp) (vs : List V) (Q : VK) (E : XK), Room k (A.deeper (envOfC qual scope s.heap.objs.size f cdv)) → (A.deeper (envOfC qual scope s.heap.objs.size f cdv)).guards = some [] → sp vs H Q E →
      ∃ t, PSs (cxOf CX P w K mg base N qual scope f cdv A outer s H E) bd t ∧ t { nx := fun _ H' => Q .non H', rt := Q } (start N vs) H) : FnG P w K mg base CX (k + 1) f fd ps sp := by
  obtain ⟨oc, od, dV, kV, doc, pm, an, cdv, ct, osl, rfl, lk, hcd, _, _⟩ := F.ex
  refine ⟨len, fun A outer s H args us vs Q E hr hg e0 hb r hsp => ?_⟩
  have old := fun b o e => (e0.bs b o e).1
  have KX : K.In s.heap := e0.mod.kin.keeps old
  have par : ∀ y ∈ ps.zip us, scope.names.lookup y.1 = some .local ∨ (scope.names.lookup y.1 = some .cell ∧ ((cellsFrom (s.heap.objs.size + 1) scope.names []).lookup y.1).isSome = true) := by
    rintro ⟨n, v⟩ hy
    rcases S.par n (List.of_mem_zip hy).1 with q | q
    · exact .inl q
    · exact .inr ⟨q, PySem.W.cellsFrom_some _ _ _ (.inl q)⟩
  refine codeAny_call_function hr.depth (KX _ _ lk) rfl S.co S.gen rfl (PySem.W.codeRec_of KX hcd) (hb _ _ _ _ ?_)
  refine wpAny_newFunctionEnv_cells S.kind par fun env he s1 x => ?_
  subst he
  refine ⟨(e0.mod.nolimit.keeps old).keeps x.toInCall.keep, codeAny_func ?_⟩
  obtain ⟨t, ht, hq⟩ := hbody cdv A outer s H vs Q E (hr.deeper _) hg hsp
  refine wpAny_mono (ht.run [] s1 (start N vs) H _ (inv_start S hr.hd e0 (len _ _ _ _ hsp) r x) hq) (fun fl s' hs => ?_) fun e s' hs => hs
  cases fl with
  | ret u =>
    obtain ⟨v, σ', H', J, rv, q⟩ := hs
    exact ⟨v, H', J.os, J.bare, J.base, J.hok, rv, q⟩
  | next =>
    obtain ⟨σ', H', J, q⟩ := hs
    exact ⟨V.non, H', J.os, J.bare, J.base, J.hok, rfl, q⟩
  | brk =>
    obtain ⟨_, _, _, q⟩ := hs
    exact q.elim
  | cont =>
    obtain ⟨_, _, _, q⟩ := hs
    exact q.elim
section
variable {X : Cx} {CX : CXT} {k : Nat} {f : Addr} {fd : FuncData} {ps : List Str} {sp : Sp} {E : L2.St → XK} {x : Str} {p pos : Pos} {e : Expr} {es : List Expr} {t : TA}
theorem pe_callG (F : FnG X.prog X.w X.K X.mg X.base CX k f fd ps sp) (hr : Room k X.A) (hgd : X.A.guards = some []) (hg : Gl X x) (hm : X.mg x = some (.ref f)) (hk : PySem.W.keepIn X.K (.ref f) = true) (hb : Binds X.K fd ps []) (hx : ∀ σ, PassesAt CX X σ (E σ))
    (ha : PA X (e :: es) t) (hdb : (x == ("__debug__" : Str)) = false := by decide) (he : starEach (e :: es) X.env = (false, eval e X.env) :: starEach es X.env := by rfl) (hpl : (backTo pos (starEach es X.env)).any (·.1) = false := by rfl) :
    PE X (.Call (.Name x p) (e :: es) [] pos) (tCallS sp E t) := by
  refine ⟨fun pins s σ H Q I h => wpAny_Call_Name_kw (ld_glob I hg hm ?_ hdb)⟩
  refine PySem.W.callWith_K (h₀ := X.base) I.ok.mod.kin hk (thn (ha.run pos pins s σ H _ I h) fun us s1 ⟨vs, H1, I1, r, q⟩ => ⟨I1.kIn, ?_⟩) he hpl
  have hl : us.length = ps.length := by rw [← r.length]; exact F.ln _ _ _ _ q
  have b := hb s1 us I1.kIn (by rw [List.append_nil]; exact hl)
  rw [List.append_nil] at b
  refine wpAny_call (codeAny_mono (F.go X.A X.stack s1 H1 ⟨us, []⟩ us vs Q (E σ) hr hgd I1.env0 b r q) fun r s' hq => ?_)
  cases r with
  | error e => exact hx σ pins H1 s1 e s' I1 hq
  | ok fl =>
    cases fl with
    | ret u => exact I1.after hq
    | next => exact hq.elim
    | brk => exact hq.elim
    | cont => exact hq.elim
end
/-! ### repr of data -/
def rReprD (K : PySem.W.Frag) : List V → Hp → VK → Prop := fun xs H Q => ∃ x d, xs = [x] ∧ Dp K H x d ∧ d.showable = true ∧ d.depth < 60 ∧ d.shown.length ≤ sizeLine ∧ Q (.str d.shown) H

mutual
theorem dp_noDict {K : PySem.W.Frag} {H : Hp} : ∀ (d : PyData) (v : V), Dp K H v d → d.hasDict = false
  | .none, _, _ => rfl
  | .bool _, _, _ => rfl
  | .int _, _, _ => rfl
  | .str _, _, _ => rfl
  | .list ds, _, h => by
    cases h with
    | lst _ ha => unfold PyData.hasDict; exact dp_noDictAll ds _ ha
  | .tuple ds, _, h => by
    cases h with
    | tup _ ha => unfold PyData.hasDict; exact dp_noDictAll ds _ ha
  | .dict _, _, h => by cases h
theorem dp_noDictAll {K : PySem.W.Frag} {H : Hp} : ∀ (ds : List PyData) (vs : List V), DpAll K H vs ds → PyData.hasDictAll ds = false
  | [], _, _ => rfl
  | d :: ds, _, h => by
    cases h with
    | cons h1 h2 => unfold PyData.hasDictAll; rw [dp_noDict d _ h1, dp_noDictAll ds _ h2]; rfl
end
section
variable {X : Cx}
theorem call_reprD {k : Nat} (hgd : X.A.guards = some []) (hr : Room k X.A) : CallR X (.builtin "repr") (rReprD X.K) := by
  intro pins s σ H xs us Q I r h
  obtain ⟨x, d, rfl, hd, hs, hdep, hz, q⟩ := h
  obtain ⟨u, rfl, ru⟩ := vals1 r
  have hu : X.A.units + (d.depth + 1) < cLine := by have := hr.un; omega
  have big : ∀ a, RelV x (.ref a) → wpAny (model X.prog X.w) X.A (call (.builtin "repr") [.ref a]) (EP X pins σ Q) X.xe s := fun a ra => by
    obtain ⟨as, r1⟩ := Dp.reads I d x (.ref a) hd ra
    exact repr_of_reads' r1 hs (PyData.noDict_hsm (dp_noDict d x hd)) hgd hu (fun _ _ e => e) (fun h' u tk hk => ⟨.str _, H, I.kept hk, ⟨_, rfl⟩, q⟩) hz
  cases hd with
  | non => cases ru; exact PySem.P.repr_of_none ⟨.str _, H, I.tok _, ⟨_, rfl⟩, q⟩
  | bl b => cases ru; exact PySem.P.repr_of_bool ⟨.str _, H, I.tok _, ⟨_, rfl⟩, q⟩
  | int i =>
    obtain ⟨t, rfl⟩ := ru
    unfold PyData.showable at hs
    exact PySem.P.repr_of_int (of_decide_eq_true hs) ⟨.str _, H, I.tok _, ⟨_, rfl⟩, q⟩
  | str z =>
    obtain ⟨t, rfl⟩ := ru
    exact PySem.P.repr_of_str ⟨.str _, H, I.tok _, ⟨_, rfl⟩, q⟩ hz
  | lst _ _ => cases ru; exact big _ rfl
  | tup _ _ => cases ru; exact big _ rfl
end
def reprO (d : PyData) : Option Rv := if (d.showable = true ∧ d.hasDict = false) ∧ d.depth < 60 ∧ d.shown.length ≤ 100000 then some (.val (.str d.shown)) else none
theorem pure_repr {K : PySem.W.Frag} : PureC1 K (rReprD K) reprO := fun C σ H F ρ x a z Q ok dx e q => by
  unfold reprO at e
  split at e
  · rename_i hc
    cases e
    exact ⟨x, a, rfl, dx.dp hc.1.2, hc.1.1, hc.2.1, Nat.le_trans hc.2.2 (by decide), q _ H F ok Gr.refl (dStr (K := K) (H := H) (F := F))⟩
  · cases e
end Fx

set_option Elab.async false
set_option linter.all false
set_option maxRecDepth 100000
set_option maxHeartbeats 2000000
namespace Fx
open PySem PySem.Spec PyProof.Rows L2 RZ

/-! ### arguments: data, or a slot handed on -/
inductive AE where
  | v (d : PyData)
  | s (i : Nat)
inductive AEOk (K : PySem.W.Frag) (H : Hp) (F : Addr → Prop) (σ : L2.St) : List AE → List V → Prop where
  | nil : AEOk K H F σ [] []
  | v {d es v vs} : Dt K H F d v → AEOk K H F σ es vs → AEOk K H F σ (.v d :: es) (v :: vs)
  | s {i es v vs} : σ[i]? = some (some v) → AEOk K H F σ es vs → AEOk K H F σ (.s i :: es) (v :: vs)
theorem AEOk.mono {K : PySem.W.Frag} {H H' : Hp} {F F' : Addr → Prop} {σ : L2.St} (g : Gr H F H' F') : ∀ {es : List AE} {vs : List V}, AEOk K H F σ es vs → AEOk K H' F' σ es vs
  | _, _, .nil => .nil
  | _, _, .v h t => .v (Dt.mono g _ _ h) (t.mono g)
  | _, _, .s h t => .s h (t.mono g)
theorem AEOk.len {K : PySem.W.Frag} {H : Hp} {F : Addr → Prop} {σ : L2.St} : ∀ {es : List AE} {vs : List V}, AEOk K H F σ es vs → vs.length = es.length
  | _, _, .nil => rfl
  | _, _, .v _ t => by simp [t.len]
  | _, _, .s _ t => by simp [t.len]
def tAr (K : PySem.W.Frag) (mg : Str → Option Value) (C : En) (W : WX) (m : M (List AE)) : TA := fun σ H Q => ∃ F ρ, Ok K C σ H F ρ ∧ wp m ρ (fun es ρ' => ∀ vs H' F', Ok K C σ H' F' ρ' → Gr H F H' F' → AEOk K H' F' σ es vs → Q vs H') (ExcW K mg C W σ)
abbrev GR (X : Cx) (C : En) (W : WX) (es : List Expr) (m : M (List AE)) : Prop := PA X es (tAr X.K X.mg C W m)
def M.consV (m : M Rv) (ms : M (List AE)) : M (List AE) := M.bindD m fun d => M.bind ms fun ds => M.pure (.v d :: ds)
def M.consS (i : Nat) (ms : M (List AE)) : M (List AE) := M.bind (chk i) fun _ => M.bind ms fun ds => M.pure (.s i :: ds)
section
variable {X : Cx} {C : En} {W : WX} {e : Expr} {es : List Expr} {m : M Rv} {ms : M (List AE)}
theorem gr_nil : GR X C W [] (M.pure []) := PA.imp pa_nil fun σ H Q ⟨F, ρ, ok, h⟩ => h [] H F ok Gr.refl .nil
theorem gr_val (h : GE X C W e m) (hs : GR X C W es ms) (hst : starEach (e :: es) X.env = (false, eval e X.env) :: starEach es X.env := by rfl) : GR X C W (e :: es) (M.consV m ms) := (pa_cons h hs hst).imp fun σ H Q ⟨F, ρ, ok, h⟩ => by
  unfold M.consV at h
  rw [wp_bindD] at h
  refine ⟨F, ρ, ok, wp_mono h fun r ρ1 h1 v H1 F1 ok1 g1 rv => ?_⟩
  obtain ⟨F2, ok2, g2, d2⟩ := ok1.freeze rv
  rw [wp_bind] at h1
  refine ⟨F2, ρ1, ok2, wp_mono h1 fun ds ρ3 h3 vs H3 F3 ok3 g3 d3 => ?_⟩
  exact h3 (v :: vs) H3 F3 ok3 ((g1.trans g2).trans g3) (.v (Dt.mono g3 _ _ d2) d3)
theorem gr_ref {i : Nat} {x : Str} {px : Pos} (hN : X.N[i]? = some x) (hs : GR X C W es ms) (hv : Vis X.env.scope x := by first | exact .inl rfl | exact .inr (.inl rfl) | exact .inr (.inr rfl)) (hd : (x == ("__debug__" : Str)) = false := by decide)
    (hcd : (x == ("__classdict__" : Str)) = false := by decide) (hst : starEach (.Name x px :: es) X.env = (false, eval (.Name x px) X.env) :: starEach es X.env := by rfl) : GR X C W (.Name x px :: es) (M.consS i ms) := (pa_cons (pe_var hN hv hd hcd) hs hst).imp fun σ H Q ⟨F, ρ, ok, h⟩ => by
  unfold M.consS at h
  rw [wp_bind, wp_chk] at h
  obtain ⟨⟨s, hs⟩, h⟩ := h
  obtain ⟨v, hv, _⟩ := ok.sl i s hs
  rw [wp_bind] at h
  refine ⟨v, hv, F, ρ, ok, wp_mono h fun ds ρ3 h3 vs H3 F3 ok3 g3 d3 => ?_⟩
  exact h3 (v :: vs) H3 F3 ok3 g3 (.s hv d3)
end
/-! ### the call -/
def slotsOf : List AE → List Nat
  | [] => []
  | .v _ :: es => slotsOf es
  | .s i :: es => i :: slotsOf es
def resolve (ρ : Rho) : List AE → Option (List Ag)
  | [] => some []
  | .v d :: es => (resolve ρ es).map (.v d :: ·)
  | .s i :: es => match ρ[i]? with
    | some (some (.own ds)) => (resolve ρ es).map (.r ds :: ·)
    | some (some (.brw _ ds)) => (resolve ρ es).map (.r ds :: ·)
    | _ => none
def setOuts : List Nat → List (List PyData) → Rho → Rho
  | i :: is, o :: os, ρ => setOuts is os (match ρ[i]? with
    | some (some s) => ρ.set i (some (s.put o))
    | _ => ρ)
  | _, _, ρ => ρ
def nodupB (l : List Nat) : Bool := decide l.Nodup
def callB (n : Nat) (f : Fn) (es : List AE) : M Rv := fun ρ => match resolve ρ es with
  | none => .bad
  | some as => bif es.length == n && nodupB (slotsOf es) then (match f as with
    | .ok r outs => bif outs.length == (slotsOf es).length then .ok r (setOuts (slotsOf es) outs ρ) else .bad
    | .exc c d outs => bif outs.length == (slotsOf es).length then .exc c d (setOuts (slotsOf es) outs ρ) else .bad
    | .bad => .bad) else .bad
theorem setOuts_len : ∀ {is : List Nat} {os : List (List PyData)} {ρ : Rho}, (setOuts is os ρ).length = ρ.length
  | [], _, _ => by unfold setOuts; rfl
  | i :: is, [], _ => by unfold setOuts; rfl
  | i :: is, o :: os, ρ => by
    unfold setOuts
    rw [setOuts_len]
    split
    · rw [List.length_set]
    · rfl
theorem setOuts_get : ∀ {is : List Nat} {os : List (List PyData)} {ρ : Rho} {j : Nat} {s : Sl}, is.Nodup → os.length = is.length → (setOuts is os ρ)[j]? = some (some s) →
    (j ∉ is ∧ ρ[j]? = some (some s)) ∨ ∃ (n : Nat) (s0 : Sl) (o : List PyData), is[n]? = some j ∧ os[n]? = some o ∧ ρ[j]? = some (some s0) ∧ s = s0.put o
  | [], _, ρ, j, s, _, _, e => .inl ⟨by simp, by unfold setOuts at e; exact e⟩
  | i :: is, [], ρ, j, s, _, hl, _ => by simp at hl
  | i :: is, o :: os, ρ, j, s, nd, hl, e => by
    obtain ⟨n1, n2⟩ := List.nodup_cons.mp nd
    unfold setOuts at e
    have ih := setOuts_get (is := is) (os := os) n2 (by simpa using hl) e
    have old : ∀ {t : Sl}, i ≠ j → (match ρ[i]? with | some (some s) => ρ.set i (some (s.put o)) | _ => ρ)[j]? = some (some t) → ρ[j]? = some (some t) := fun {t} hne h => by
      split at h
      · rw [List.getElem?_set_ne hne] at h; exact h
      · exact h
    rcases ih with ⟨h1, h2⟩ | ⟨n, s0, o', a, b, c, d⟩
    · by_cases hij : i = j
      · subst hij
        split at h2
        · rename_i s0 hs0
          have hlt : i < ρ.length := by
            rcases Nat.lt_or_ge i ρ.length with h | h
            · exact h
            · rw [List.getElem?_eq_none h] at hs0; cases hs0
          rw [List.getElem?_set_self hlt] at h2
          cases h2
          exact .inr ⟨0, s0, o, rfl, rfl, hs0, rfl⟩
        · rename_i hno
          exact absurd h2 (hno s)
      · exact .inl ⟨by simp only [List.mem_cons, not_or]; exact ⟨fun z => hij z.symm, h1⟩, old hij h2⟩
    · have hij : i ≠ j := fun z => by
        subst z
        exact n1 (List.mem_of_getElem? a)
      exact .inr ⟨n + 1, s0, o', by simpa using a, by simpa using b, old hij c, d⟩
/-- slots and their lists' addresses, side by side -/
inductive PsOk (σ : L2.St) (ρ : Rho) : List Nat → List Addr → Prop where
  | nil : PsOk σ ρ [] []
  | cons {i p is ps s} : ρ[i]? = some (some s) → s.mut → σ[i]? = some (some (.ref p)) → PsOk σ ρ is ps → PsOk σ ρ (i :: is) (p :: ps)
theorem PsOk.get {σ : L2.St} {ρ : Rho} : ∀ {is : List Nat} {ps : List Addr} {n i : Nat}, PsOk σ ρ is ps → is[n]? = some i → ∃ p s, ps[n]? = some p ∧ ρ[i]? = some (some s) ∧ s.mut ∧ σ[i]? = some (some (.ref p))
  | _, _, n, i, .nil, e => by simp at e
  | _, _, 0, i, .cons a b c t, e => by simp at e; subst e; exact ⟨_, _, rfl, a, b, c⟩
  | _, _, n + 1, i, .cons a b c t, e => by
    obtain ⟨p, s, h⟩ := t.get (n := n) (by simpa using e)
    exact ⟨p, s, by simpa using h⟩
theorem PsOk.mem {σ : L2.St} {ρ : Rho} : ∀ {is : List Nat} {ps : List Addr} {p : Addr}, PsOk σ ρ is ps → p ∈ ps → ∃ i s, i ∈ is ∧ ρ[i]? = some (some s) ∧ s.mut ∧ σ[i]? = some (some (.ref p))
  | _, _, p, .nil, e => by cases e
  | _, _, p, .cons a b c t, e => by
    rcases List.mem_cons.mp e with e | e
    · subst e; exact ⟨_, _, List.mem_cons_self, a, b, c⟩
    · obtain ⟨i, s, h1, h2⟩ := t.mem e
      exact ⟨i, s, List.mem_cons_of_mem _ h1, h2⟩
theorem PsOk.len {σ : L2.St} {ρ : Rho} : ∀ {is : List Nat} {ps : List Addr}, PsOk σ ρ is ps → ps.length = is.length
  | _, _, .nil => rfl
  | _, _, .cons _ _ _ t => by simp [t.len]
section
variable {K : PySem.W.Frag} {mg : Str → Option Value} {C : En} {σ : L2.St} {H H' : Hp} {F F' : Addr → Prop} {ρ : Rho}
theorem resolve_ok (ok : Ok K C σ H F ρ) : ∀ {es : List AE} {vs : List V} {as : List Ag}, AEOk K H F σ es vs → resolve ρ es = some as → ∃ ps, AgsOk K H F as vs ps ∧ PsOk σ ρ (slotsOf es) ps
  | _, _, as, .nil, e => by cases e; exact ⟨[], .nil, .nil⟩
  | _, _, as, .v h t, e => by
    unfold resolve at e
    obtain ⟨as', h1, h2⟩ := Option.map_eq_some_iff.mp e
    subst h2
    obtain ⟨ps, a, b⟩ := resolve_ok ok t h1
    exact ⟨ps, .v h a, b⟩
  | _, _, as, .s (i := i) (v := v) hv t, e => by
    unfold resolve at e
    split at e
    · rename_i ds hi
      obtain ⟨as', h1, h2⟩ := Option.map_eq_some_iff.mp e
      subst h2
      obtain ⟨ps, a, b⟩ := resolve_ok ok t h1
      obtain ⟨v', hv', p, ws, q1, q2, q3, q4, _⟩ := ok.sl i _ hi
      rw [hv] at hv'
      cases hv'
      subst q1
      exact ⟨p :: ps, .r q2 q3 q4 a, .cons hi trivial hv b⟩
    · rename_i k ds hi
      obtain ⟨as', h1, h2⟩ := Option.map_eq_some_iff.mp e
      subst h2
      obtain ⟨ps, a, b⟩ := resolve_ok ok t h1
      obtain ⟨v', hv', p, ws, q1, q2, q3, q4, _⟩ := ok.sl i _ hi
      rw [hv] at hv'
      cases hv'
      subst q1
      exact ⟨p :: ps, .r q2 q3 q4 a, .cons hi trivial hv b⟩
    · cases e
theorem OutsOk.get : ∀ {ps : List Addr} {os : List (List PyData)} {n : Nat} {p : Addr} {o : List PyData}, OutsOk K H' F' ps os → ps[n]? = some p → os[n]? = some o → ∃ ws, H' p = some (.lst ws) ∧ DtA K H' F' o ws ∧ ¬ F' p
  | _, _, n, p, o, .nil, e, _ => by simp at e
  | _, _, 0, p, o, .cons a b c t, e, e' => by simp at e e'; subst e e'; exact ⟨_, a, b, c⟩
  | _, _, n + 1, p, o, .cons a b c t, e, e' => t.get (n := n) (by simpa using e) (by simpa using e')
theorem OutsOk.len : ∀ {ps : List Addr} {os : List (List PyData)}, OutsOk K H' F' ps os → os.length = ps.length
  | _, _, .nil => rfl
  | _, _, .cons _ _ _ t => by simp [t.len]
theorem OutsOk.mem : ∀ {ps : List Addr} {os : List (List PyData)} {p : Addr}, OutsOk K H' F' ps os → p ∈ ps → ∃ ws, H' p = some (.lst ws)
  | _, _, p, .nil, e => by cases e
  | _, _, p, .cons a b c t, e => by
    rcases List.mem_cons.mp e with e | e
    · subst e; exact ⟨_, a⟩
    · exact t.mem e
theorem ps_nodup (ok : Ok K C σ H F ρ) : ∀ {is : List Nat} {ps : List Addr}, PsOk σ ρ is ps → is.Nodup → ps.Nodup
  | _, _, .nil, _ => List.nodup_nil
  | _, _, .cons a b c t, nd => by
    obtain ⟨n1, n2⟩ := List.nodup_cons.mp nd
    refine List.nodup_cons.mpr ⟨fun hm => ?_, ps_nodup ok t n2⟩
    obtain ⟨j, s, h1, h2, h3, h4⟩ := t.mem hm
    have := ok.inj _ j _ s _ a h2 b h3 c h4
    subst this
    exact n1 h1
/-- behind the call -/
theorem after_call (ok : Ok K C σ H F ρ) {is : List Nat} {ps : List Addr} {os : List (List PyData)} (pk : PsOk σ ρ is ps) (nd : is.Nodup) (fr : FrOk ps H F H' F') (oo : OutsOk K H' F' ps os) : Ok K C σ H' F' (setOuts is os ρ) ∧ Gr H F H' F' := by
  have hlen : os.length = is.length := by rw [oo.len, pk.len]
  have pmem : ∀ p ∈ ps, ∃ vs, H p = some (.lst vs) ∧ ¬ F p := fun p hp => by
    obtain ⟨i, s, _, h2, h3, h4⟩ := pk.mem hp
    obtain ⟨q, vs, a, b, c⟩ := ok.sname h2 h3
    rw [h4] at a; cases a
    exact ⟨vs, b, c⟩
  have g : Gr H F H' F' := by
    refine ⟨fun a xs e => fr.keep a _ e fun hp => ?_, fun a o u e => fr.keep a _ e fun hp => ?_, fun a xs f e => fr.keep a _ e fun hp => (pmem a hp).elim fun vs h => h.2 f, fr.fz⟩
    · obtain ⟨vs, h, _⟩ := pmem a hp; rw [h] at e; cases e
    · obtain ⟨vs, h, _⟩ := pmem a hp; rw [h] at e; cases e
  refine ⟨⟨by rw [setOuts_len]; exact ok.len, fun a o e b => ?_, fun a f => fr.fz a (ok.f0 a f), fun a f => ?_, fr.fh, fun a b => ⟨?_, (ok.bh a b).2⟩, fun i s e => ?_, fun i j s t p e1 e2 m1 m2 h1 h2 => ?_⟩, g⟩
  · refine fr.keep a o (ok.keep a o e b) fun hp => ?_
    obtain ⟨i, s, _, h2, h3, h4⟩ := pk.mem hp
    obtain ⟨v, hv, hs⟩ := ok.sl i s h2
    rw [h4] at hv; cases hv
    cases s with
    | val d => exact h3
    | own ds => obtain ⟨p, vs, a1, _, _, _, a5⟩ := hs; cases a1; rw [e] at a5; cases a5
    | brw k ds => obtain ⟨p, vs, a1, _, _, _, a5⟩ := hs; cases a1; exact b ⟨k, a5⟩
  · rcases fr.fn a f with h | h
    · exact ok.fn a h
    · exact .inr (ok.fresh0 h)
  · by_cases hp : a ∈ ps
    · obtain ⟨ws, h⟩ := oo.mem hp; rw [h]; intro z; cases z
    · have := (ok.bh a b).1
      cases hx : H a with
      | none => exact absurd hx this
      | some o => rw [fr.keep a o hx hp]; intro z; cases z
  · rcases setOuts_get nd hlen e with ⟨h1, h2⟩ | ⟨n, s0, o, h1, h2, h3, h4⟩
    · obtain ⟨v, hv, hs⟩ := ok.sl i s h2
      refine ⟨v, hv, hs.mono g fun p vs ev m hp hf => ?_⟩
      have np : p ∉ ps := fun hp' => by
        obtain ⟨j, s', a1, a2, a3, a4⟩ := pk.mem hp'
        have := ok.inj i j s s' p h2 a2 m a3 (by rw [hv, ev]) a4
        subst this
        exact h1 a1
      refine ⟨fr.keep p _ hp np, fun f => ?_⟩
      rcases fr.fn p f with z | z
      · exact hf z
      · rw [hp] at z; cases z
    · subst h4
      obtain ⟨p, s', a1, a2, a3, a4⟩ := pk.get h1
      rw [h3] at a2
      cases a2
      obtain ⟨ws, b1, b2, b3⟩ := oo.get a1 h2
      refine ⟨_, a4, ?_⟩
      obtain ⟨v, hv, hs⟩ := ok.sl i _ h3
      rw [a4] at hv; cases hv
      cases s0 with
      | val d => exact a3.elim
      | own ds => obtain ⟨q, vs, c1, _, _, _, c5⟩ := hs; cases c1; exact ⟨p, ws, rfl, b1, b2, b3, c5⟩
      | brw k ds => obtain ⟨q, vs, c1, _, _, _, c5⟩ := hs; cases c1; exact ⟨p, ws, rfl, b1, b2, b3, c5⟩
  · have back : ∀ (i : Nat) (s : Sl), (setOuts is os ρ)[i]? = some (some s) → s.mut → ∃ s', ρ[i]? = some (some s') ∧ s'.mut := fun i s e m => by
      rcases setOuts_get nd hlen e with ⟨_, h2⟩ | ⟨n, s0, o, _, _, h3, h4⟩
      · exact ⟨s, h2, m⟩
      · subst h4
        refine ⟨s0, h3, ?_⟩
        cases s0 with
        | val d => exact m
        | own ds => trivial
        | brw k ds => trivial
    obtain ⟨s', a1, a2⟩ := back i s e1 m1
    obtain ⟨t', b1, b2⟩ := back j t e2 m2
    exact ok.inj i j s' t' p a1 b1 a2 b2 h1 h2
end
/-- a def that may be called by its name -/
structure Cal (P : Program) (w : World) (K : PySem.W.Frag) (mg : Str → Option Value) (base : Heap) (k : Nat) (x : Str) (n : Nat) (f : Fn) : Prop where
  ex : ∃ (a : Addr) (fd : FuncData) (ps : List Str), FnG P w K mg base (L2.CX P w) k a fd ps (spF K mg n f) ∧ mg x = some (.ref a) ∧ PySem.W.keepIn K (.ref a) = true ∧ L2.Binds K fd ps []
section
variable {X : Cx} {C : En} {W : WX} {e : Expr} {es : List Expr} {ms : M (List AE)}
theorem ge_call {x : Str} {n k j : Nat} {f : Fn} {p pos : Pos} (c : Cal X.prog X.w X.K X.mg X.base k x n f) (tk : Takes X W) (hr : Room j X.A) (hgd : X.A.guards = some []) (ha : GR X C W (e :: es) ms) (hk : k ≤ j := by decide) (hg : Gl X x := by rfl)
    (hdb : (x == ("__debug__" : Str)) = false := by decide) (he : starEach (e :: es) X.env = (false, eval e X.env) :: starEach es X.env := by rfl) (hpl : (backTo pos (starEach es X.env)).any (·.1) = false := by rfl) :
    GE X C W (.Call (.Name x p) (e :: es) [] pos) (M.bind ms (callB n f)) := by
  obtain ⟨a, fd, ps, Fo, hm, kp, b⟩ := c.ex
  refine (pe_callG (E := WE W) Fo (hr.mono hk) hgd hg hm kp b (fun σ => passAt tk σ) ha hdb he hpl).imp fun σ H Q ⟨F, ρ, ok, h⟩ => ?_
  rw [wp_bind] at h
  refine ⟨F, ρ, ok, wp_mono h fun es' ρ1 h1 vs H1 F1 ok1 g1 ae => ?_⟩
  unfold wp callB at h1
  cases hrs : resolve ρ1 es' with
  | none => rw [hrs] at h1; exact h1.elim
  | some as =>
    rw [hrs] at h1
    cases hnd : (es'.length == n && nodupB (slotsOf es')) with
    | false => simp only [hnd, cond_false] at h1
    | true =>
      simp only [hnd, cond_true] at h1
      rw [Bool.and_eq_true] at hnd
      have hln : es'.length = n := by simpa using hnd.1
      have nd : (slotsOf es').Nodup := of_decide_eq_true hnd.2
      obtain ⟨qs, ag, pk⟩ := resolve_ok ok1 ae hrs
      have fin : EndF X.K X.mg qs H1 F1 Q (WE W σ) (f as) := by
        cases hf : f as with
        | bad => simp only [hf] at h1
        | ok r outs =>
          simp only [hf] at h1
          cases hol : (outs.length == (slotsOf es').length) with
          | false => rw [hol] at h1; exact h1.elim
          | true =>
            rw [hol, cond_true] at h1
            intro v H2 F2 fr oo rt
            obtain ⟨ok2, g2⟩ := after_call ok1 pk nd fr oo
            refine h1 v H2 F2 ok2 (g1.trans g2) ?_
            cases r with
            | val d => exact rt
            | new ds =>
              obtain ⟨q, ws, r1, r2, r3, r4, r5⟩ := rt
              refine ⟨q, ws, r1, r2, r3, r4, ok1.fresh0 r5, fun i s e m z => ?_⟩
              rcases setOuts_get nd (by simpa using hol) e with ⟨_, h2⟩ | ⟨n, s0, o, _, _, h3, h4⟩
              · exact ok1.notIn r5 i s h2 m z
              · subst h4
                refine ok1.notIn r5 i s0 h3 ?_ z
                cases s0 with
                | val d => exact m
                | own ds => trivial
                | brw k ds => trivial
        | exc c d outs =>
          simp only [hf] at h1
          cases hol : (outs.length == (slotsOf es').length) with
          | false => rw [hol] at h1; exact h1.elim
          | true =>
            rw [hol, cond_true] at h1
            intro Cl a' v H2 F2 fr oo hm' hx dt
            obtain ⟨ok2, g2⟩ := after_call ok1 pk nd fr oo
            exact h1 H2 F2 Cl a' v ok2 hm' hx dt
      exact ⟨by rw [ae.len, hln], F1, as, qs, ok1.fh, ag, ps_nodup ok1 pk nd, fin⟩
end
end Fx

set_option Elab.async false
set_option linter.all false
set_option maxRecDepth 100000
set_option maxHeartbeats 2000000
namespace Fx
open PySem PySem.Spec PyProof.Rows L2 RZ
/-! ### each operator of Python, on data -/
section
variable {X : Cx}
abbrev rAddA (K : PySem.W.Frag) : R2 := fun x y H Q => rI0 (fun i j => .int (i + j)) x y H Q ∨ ((∃ i j, x = .str i ∧ y = .str j ∧ i.length + j.length ≤ sizeLine ∧ Q (.str (i ++ j)) H) ∨ (rCat x y H Q ∨ rCatA K x y H Q))
theorem opAdd : OpR X (binaryOp .Add) (rAddA X.K) := op_add.or (op_add_str.or (op_cat.or op_catA))
def addO (a b : PyData) : Option Rv := (intO yes2 (fun i j => i + j) a b).or ((catS a b).or ((catL a b).or (catT a b)))
theorem pureAdd : Pure2 X.K (rAddA X.K) addO := pure_rI0.or (pure_catS.or (pure_catL.or pure_catT))
abbrev rSubA : R2 := rI0 fun i j => .int (i - j)
theorem opSub : OpR X (binaryOp .Sub) rSubA := op_sub
def subO : PyData → PyData → Option Rv := intO yes2 fun i j => i - j
theorem pureSub : Pure2 X.K rSubA subO := pure_rI0
def mulC (i j : Int) : Bool := decide (i.natAbs.log2 + j.natAbs.log2 < 1000000)
abbrev rMulA (K : PySem.W.Frag) : R2 := fun x y H Q => rI CMulW (fun i j => .int (i * j)) x y H Q ∨ (rRep x y H Q ∨ rRepT K x y H Q)
theorem opMul : OpR X (binaryOp .Mult) (rMulA X.K) := op_mulW.or (op_rep.or op_repT)
def mulO (a b : PyData) : Option Rv := (intO mulC (fun i j => i * j) a b).or ((repL a b).or (repT a b))
theorem pureMul : Pure2 X.K (rMulA X.K) mulO := (pure_rI (c := mulC) fun i j h => show i.natAbs.log2 + j.natAbs.log2 < 1000000 from of_decide_eq_true h).or (pure_repL.or pure_repT)
def divC (i j : Int) : Bool := decide (0 < j ∧ j.natAbs.log2 < 9000)
theorem opDiv : OpR X (binaryOp .FloorDiv) (rI CDivW fun i j => .int (i / j)) := op_fdivW
def divO : PyData → PyData → Option Rv := intO divC fun i j => i / j
theorem pureDiv : Pure2 X.K (rI CDivW fun i j => .int (i / j)) divO := pure_rI (c := divC) fun i j h => show 0 < j ∧ j.natAbs.log2 < 9000 from of_decide_eq_true h
def modC (i j : Int) : Bool := decide (0 < j)
theorem opMod : OpR X (binaryOp .Mod) (rI (fun _ j => 0 < j) fun i j => .int (i % j)) := op_mod
def modO : PyData → PyData → Option Rv := intO modC fun i j => i % j
theorem pureMod : Pure2 X.K (rI (fun _ j => 0 < j) fun i j => .int (i % j)) modO := pure_rI (c := modC) fun i j h => show 0 < j from of_decide_eq_true h
def CPowW (i j : Int) : Prop := 0 ≤ j ∧ (Builtin.Int.intBits i : Int) * j ≤ 2 ^ 27
theorem opPow : OpR X (binaryOp .Pow) (rI CPowW fun i j => .int (i ^ j.toNat)) := opI fun _ _ _ _ _ _ _ hc q => pow_int hc.1 hc.2 q
def powC (i j : Int) : Bool := decide (0 ≤ j ∧ (Builtin.Int.intBits i : Int) * j ≤ 2 ^ 27)
def powO : PyData → PyData → Option Rv := intO powC fun i j => i ^ j.toNat
theorem purePow : Pure2 X.K (rI CPowW fun i j => .int (i ^ j.toNat)) powO := pure_rI (c := powC) fun i j h => show 0 ≤ j ∧ (Builtin.Int.intBits i : Int) * j ≤ 2 ^ 27 from of_decide_eq_true h
/-! comparisons -/
def ltO : PyData → PyData → Option Rv := boolO fun i j => decide (i < j)
def leO : PyData → PyData → Option Rv := boolO fun i j => decide (i ≤ j)
def gtO : PyData → PyData → Option Rv := boolO fun i j => decide (j < i)
def geO : PyData → PyData → Option Rv := boolO fun i j => decide (j ≤ i)
theorem pureLt : Pure2 X.K (rI0 fun i j => .bl (decide (i < j))) ltO := pure_rIB
theorem pureLe : Pure2 X.K (rI0 fun i j => .bl (decide (i ≤ j))) leO := pure_rIB
theorem pureGt : Pure2 X.K (rI0 fun i j => .bl (decide (j < i))) gtO := pure_rIB
theorem pureGe : Pure2 X.K (rI0 fun i j => .bl (decide (j ≤ i))) geO := pure_rIB
theorem hu64 {k : Nat} (hr : Room k X.A) : X.A.units + 64 < cLine := hr.units
theorem hu65 {k : Nat} (hr : Room k X.A) : X.A.units + 65 < cLine := by have := hr.un; omega
abbrev rInA (K : PySem.W.Frag) : R2 := fun x y H Q => (rInD K x y H Q ∨ rIn K false x y H Q) ∨ (∃ i j, x = .str i ∧ y = .str j ∧ Q (.bl (!(Builtin.Str.occurrences j i 0 j.length 1).isEmpty)) H)
theorem opIn {k : Nat} (hr : Room k X.A) : OpR X (compareOp .In) (rInA X.K) := ((op_inD (hu65 hr)).or op_in_seq).or op_in_str
def inO (a b : PyData) : Option Rv := ((inLO false a b).or (inTO false a b)).or (inSO false a b)
theorem pureIn : Pure2 X.K (rInA X.K) inO := (pure_inL.or pure_inT).or pure_inS
abbrev rNotInA (K : PySem.W.Frag) : R2 := fun x y H Q => (rNotInD K x y H Q ∨ rIn K true x y H Q) ∨ (∃ i j, x = .str i ∧ y = .str j ∧ Q (.bl (!(!(Builtin.Str.occurrences j i 0 j.length 1).isEmpty))) H)
theorem opNotIn {k : Nat} (hr : Room k X.A) : OpR X (compareOp .NotIn) (rNotInA X.K) := ((op_notInD (hu65 hr)).or op_notIn_seq).or op_notin_str
def notInO (a b : PyData) : Option Rv := ((inLO true a b).or (inTO true a b)).or (inSO true a b)
theorem pureNotIn : Pure2 X.K (rNotInA X.K) notInO := (pure_notInL.or pure_inT).or pure_notInS
abbrev rIsA : R2 := fun x y H Q => (y = .non ∧ Q (.bl (decide (x = .non))) H) ∨ rIsB x y H Q
theorem opIs : OpR X (compareOp .Is) rIsA := op_isN.or op_isBl
def isO (a b : PyData) : Option Rv := (isNO false a b).or (isBO false a b)
theorem pureIs : Pure2 X.K rIsA isO := pure_isN.or pure_isB
abbrev rIsNotA : R2 := fun x y H Q => (y = .non ∧ Q (.bl (!decide (x = .non))) H) ∨ rNotB x y H Q
theorem opIsNot : OpR X (compareOp .IsNot) rIsNotA := op_notN.or op_notBl
def isNotO (a b : PyData) : Option Rv := (isNO true a b).or (isBO true a b)
theorem pureIsNot : Pure2 X.K rIsNotA isNotO := pure_notN.or pure_notB
/-- -a -/
def negO : PyData → Option Rv
  | .int i => some (.val (.int (-i)))
  | _ => none
theorem ge_neg {C : En} {W : WX} {a : Expr} {q : M PyData} {pos : Pos} (ha : GB X C W a q) : GE X C W (.UnaryOp .USub a pos) (M.bind q fun d => M.lift (negO d)) := (pe_un un_neg ha).imp fun σ H Q ⟨F, ρ, ok, h⟩ => by
  rw [wp_bind] at h
  refine ⟨F, ρ, ok, wp_mono h fun d ρ1 h1 v H1 F1 ok1 g1 bd => ?_⟩
  rw [wp_lift] at h1
  obtain ⟨z, hz, q⟩ := h1
  cases d with
  | int i => cases hz; exact ⟨i, bd.int, q _ H1 F1 ok1 g1 (dInt (K := X.K) (H := H1) (F := F1))⟩
  | _ => cases hz
end
/-! ### isinstance -/
section
variable {X : Cx} {C : En} {W : WX} {a : Expr} {pos p p2 : Pos} {q : M PyData}
def tyName : PyData → Option String
  | .none => some "NoneType"
  | .bool _ => some "bool"
  | .int _ => some "int"
  | .str _ => some "str"
  | .list _ => some "list"
  | .tuple _ => some "tuple"
  | .dict _ => none
theorem tyX_of {K : PySem.W.Frag} {H : Hp} {F : Addr → Prop} {d : PyData} {v : V} {T : String} (h : Bd K H F d v) (e : tyName d = some T) : TyX K H v (.type T) := by
  cases d with
  | none => rw [h.none]; cases e; exact .base .non
  | bool b => rw [h.bool]; cases e; exact .base (.bl _)
  | int b => rw [h.int]; cases e; exact .base (.int _)
  | str b => rw [h.str]; cases e; exact .base (.str _)
  | list ds => obtain ⟨p, vs, e1, h1, _⟩ := h.list; subst e1; cases e; exact .base (.lst h1)
  | tuple ds =>
    obtain ⟨p, vs, e1, h1, _⟩ := h.tuple
    subst e1
    cases e
    rcases h1 with (h1 | ⟨o, h1⟩) | ⟨o, its, n, hk, hc, _⟩
    · exact .base (.tup h1)
    · exact .fTuple h1
    · exact .kTuple hk hc
  | dict ds => cases e
def isInstO (T : String) (d : PyData) : Option Rv := (tyName d).bind fun t => (kitB t T).map fun b => .val (.bool b)
/-- isinstance(a, T), T a built-in type -/
theorem ge_isinst {T : String} {x : Str} {px : Pos} (hm : X.mg "isinstance" = none) (hT : X.mg x = none) (hb : bootBuiltins x = some (.type T)) (ha : GB X C W a q) (hg : Gl X "isinstance" := by rfl) (hgT : Gl X x := by rfl) (hnx : x ≠ "__name__" := by decide) (hdx : (x == ("__debug__" : Str)) = false := by decide)
    (h2 : starEach [a, .Name x px] X.env = (false, eval a X.env) :: starEach [.Name x px] X.env := by rfl) (h1 : starEach [.Name x px] X.env = (false, eval (.Name x px) X.env) :: starEach [] X.env := by rfl)
    (hpl : (backTo pos (starEach [.Name x px] X.env)).any (·.1) = false := by rfl) :
    GE X C W (.Call (.Name "isinstance" p) [a, .Name x px] [] pos) (M.bind q fun d => M.lift (isInstO T d)) :=
  (pe_callB call_isi hg hm (by decide +kernel) (pa_cons ha (pa_cons (pe_bltn (v := .ty T) hgT hT hb rfl hnx hdx) pa_nil h1) h2) (by decide) (by decide) h2 hpl).imp fun σ H Q ⟨F, ρ, ok, h⟩ => by
    rw [wp_bind] at h
    refine ⟨F, ρ, ok, wp_mono h fun d ρ1 h1 v H1 F1 ok1 g1 bd => ?_⟩
    rw [wp_lift] at h1
    obtain ⟨z, hz, q⟩ := h1
    unfold isInstO at hz
    obtain ⟨t, ht, hz⟩ := Option.bind_eq_some_iff.mp hz
    obtain ⟨b, hb', hz⟩ := Option.map_eq_some_iff.mp hz
    subst hz
    exact ⟨v, .ty T, .type t, .type T, b, rfl, .ty T, tyX_of bd ht, kit_ty hb', q _ H1 F1 ok1 g1 (dBool (K := X.K) (H := H1) (F := F1))⟩
end
/-! ### THE RULE for a def with FunD -/
theorem fn_okD {P : Program} {w : World} {K : PySem.W.Frag} {mg : Str → Option Value} {base : Heap} {x qual : Str} {params : Arguments} {bd : List Stmt} {scope : Scope} {kws : List (Str × V)} {f : Addr} {fd : FuncData} {N ps : List Str} {k : Nat} {body : SM}
    (Fu : FunD K x qual params bd scope [] kws f fd) (S : FnScope N ps scope) (hn : ps.length ≤ N.length)
    (hbody : ∀ (cdv : Value) (A : Around) (outer : List Env) (s : Shared) (H : Hp) (E : XK) (C : En), Room k (A.deeper (envOfC qual scope s.heap.objs.size f cdv)) → (A.deeper (envOfC qual scope s.heap.objs.size f cdv)).guards = some [] →
      GSs (cxOf (L2.CX P w) P w K mg base N qual scope f cdv A outer s H E) C (fun cls d _ H => E cls d H) bd body) :
    FnG P w K mg base (L2.CX P w) (k + 1) f fd ps (spF K mg ps.length (runFn N.length body)) := by
  refine fnG_of Fu S (fun vs H Q E h => h.1) fun cdv A outer s H vs Q E hr hgd h => ?_
  obtain ⟨C, hC⟩ := fn_rd (N := N) hn h
  exact ⟨_, hbody cdv A outer s H E C hr hgd, hC⟩
/-- a def of the module, as the head tells it -/
structure Df (K : PySem.W.Frag) (mg : Str → Option Value) (x : Str) (st : Stmt) (ps : List Str) : Prop where
  ex : ∃ (f : Addr) (fd : FuncData), FunD K x x (defArgs st) (defBody st) (defScope st) [] [] f fd ∧ mg x = some (.ref f) ∧ L2.Binds K fd ps []
theorem cal_of {P : Program} {w : World} {K : PySem.W.Frag} {mg : Str → Option Value} {base : Heap} {x : Str} {st : Stmt} {N ps : List Str} {k : Nat} {body : SM} (D : Df K mg x st ps) (S : FnScope N ps (defScope st)) (hn : ps.length ≤ N.length)
    (hbody : ∀ (f : Addr) (cdv : Value) (A : Around) (outer : List Env) (s : Shared) (H : Hp) (E : XK) (C : En), Room k (A.deeper (envOfC x (defScope st) s.heap.objs.size f cdv)) → (A.deeper (envOfC x (defScope st) s.heap.objs.size f cdv)).guards = some [] →
      GSs (cxOf (L2.CX P w) P w K mg base N x (defScope st) f cdv A outer s H E) C (fun cls d _ H => E cls d H) (defBody st) body) :
    Cal P w K mg base (k + 1) x ps.length (runFn N.length body) := by
  obtain ⟨f, fd, Fu, hm, hb⟩ := D.ex
  exact ⟨f, fd, ps, fn_okD Fu S hn fun cdv A outer s H E C hr hgd => hbody f cdv A outer s H E C hr hgd, hm, Fu.kp, hb⟩
end Fx

set_option Elab.async false
set_option linter.all false
set_option maxRecDepth 100000
set_option maxHeartbeats 2000000
namespace Fx
open PySem PySem.Spec PyProof.Rows L2 RZ
/-! ### short names for the generated texts -/
abbrev E2 (f : PyData → PyData → Option Rv) (a : M Rv) (b : M PyData) : M Rv := M.bindD a fun x => M.bind b fun y => M.lift (f x y)
abbrev IxN (i : Nat) (k : M Rv) : M Rv := M.bind (chk i) fun _ => M.bindD k fun k => M.bind (peek i) fun d => M.lift (getO d k)
abbrev SlN (i : Nat) (l h : M (Option Int)) : M Rv := M.bind (chk i) fun _ => M.bind l fun l => M.bind h fun u => M.bind (peek i) fun d => M.lift (sliceO l u d)
abbrev SlE (a : M Rv) (l h : M (Option Int)) : M Rv := M.bindD a fun d => M.bind l fun l => M.bind h fun u => M.lift (sliceO l u d)
abbrev brkS : SM := fun ρ => .brk ρ
abbrev cntS : SM := fun ρ => .cnt ρ
abbrev neverS : SM := fun _ => .bad
abbrev retNS : SM := fun ρ => .ret (.val .none) ρ
def FUEL : Nat := 1000000000000
/-- a constant of the module -/
def GC (K : PySem.W.Frag) (mg : Str → Option Value) (x : Str) (d : PyData) : Prop := ∃ v u, mg x = some u ∧ RelV v u ∧ ∀ H F, Dt K H F d v
theorem gc_int {K : PySem.W.Frag} {mg : Str → Option Value} {x : Str} {i : Int} (h : ∃ t, mg x = some (.int i t)) : GC K mg x (.int i) := by
  obtain ⟨t, h⟩ := h
  exact ⟨.int i, _, h, ⟨t, rfl⟩, fun _ _ => dInt⟩
section
variable {X : Cx} {C : En} {W : WX} {pos : Pos}
theorem ge_gc {x : Str} {d : PyData} (h : GC X.K X.mg x d) (hg : Gl X x := by rfl) (hdb : (x == ("__debug__" : Str)) = false := by decide) : GE X C W (.Name x pos) (M.pure (.val d)) := by
  obtain ⟨v, u, hm, r, hd⟩ := h
  exact ge_glob hm r hd hg hdb
theorem opEqD {k : Nat} (hr : Room k X.A) : OpR X (compareOp .Eq) (rEqD X.K) := op_eqD (hu64 hr)
theorem opNeD {k : Nat} (hr : Room k X.A) : OpR X (compareOp .NotEq) (rNeD X.K) := op_neD (hu64 hr)
theorem pureEq : Pure2 X.K (rEqD X.K) eqO := pure_eq
theorem pureNe : Pure2 X.K (rNeD X.K) neO := pure_ne
/-! list(range(..)) -/
def lrg (lo hi : Int) : Option Rv := if (-(2 ^ 62) ≤ lo ∧ lo < 2 ^ 62) ∧ (-(2 ^ 62) ≤ hi ∧ hi < 2 ^ 62) ∧ (hi - lo).toNat ≤ 100000 then some (.new (rangeD1 lo (hi - lo).toNat)) else none
def lrg1O : PyData → Option Rv
  | .int n => lrg 0 n
  | _ => none
def lrg2O : PyData → PyData → Option Rv
  | .int a, .int b => lrg a b
  | _, _ => none
theorem rgA {K : PySem.W.Frag} {H : Hp} {F : Addr → Prop} {lo hi : Int} : DtA K H F (rangeD1 lo (hi - lo).toNat) (rgV lo hi) := by
  unfold rangeD1 rgV
  generalize List.range (hi - lo).toNat = l
  induction l with
  | nil => exact DtA.nil
  | cons n l ih => exact DtA.cons dInt ih
theorem lrg_ok {σ : L2.St} {H : Hp} {F : Addr → Prop} {ρ : Rho} {lo hi : Int} {r : Rv} {Q : VK} (ok : Ok X.K C σ H F ρ) (e : lrg lo hi = some r) (q : ∀ v H' F', Ok X.K C σ H' F' ρ → Gr H F H' F' → RvOk X.K C σ H' F' ρ v r → Q v H') :
    RgOk lo hi ∧ ∀ p, H p = none → Q (.ref p) (upd H p (.lst (rgV lo hi))) := by
  unfold lrg at e
  split at e
  · rename_i h
    cases e
    obtain ⟨⟨h1, h2⟩, ⟨h3, h4⟩, h5⟩ := h
    refine ⟨⟨h1, h2, h3, h4, Nat.le_trans h5 (by decide)⟩, fun p hp => ?_⟩
    obtain ⟨o, g, r⟩ := ok.newList hp (rgA (lo := lo) (hi := hi))
    exact q _ _ _ o g r
  · cases e
theorem ge_lrg1 {a : Expr} {q : M PyData} {p p2 pos2 : Pos} (hc : X.calm = true) (hml : X.mg "list" = none) (hmr : X.mg "range" = none) (ha : GB X C W a q) (hgl : Gl X "list" := by rfl) (hgr : Gl X "range" := by rfl)
    (n1 : starEach [a] X.env = (false, eval a X.env) :: starEach [] X.env := by rfl) (n2 : starEach [.Call (.Name "range" p2) [a] [] pos2] X.env = (false, eval (.Call (.Name "range" p2) [a] [] pos2) X.env) :: starEach [] X.env := by rfl) :
    GE X C W (.Call (.Name "list" p) [.Call (.Name "range" p2) [a] [] pos2] [] pos) (M.bind q fun d => M.lift (lrg1O d)) :=
  (pe_listRg hc hgl hml (prg_1 hgr hmr ha n1) n2).imp fun σ H Q ⟨F, ρ, ok, h⟩ => by
    rw [wp_bind] at h
    refine ⟨F, ρ, ok, wp_mono h fun d ρ1 h1 v H1 F1 ok1 g1 bd => ?_⟩
    rw [wp_lift] at h1
    obtain ⟨z, hz, q⟩ := h1
    cases d with
    | int n => exact ⟨n, bd.int, lrg_ok ok1 hz fun v H' F' o g r => q v H' F' o (g1.trans g) r⟩
    | _ => cases hz
theorem ge_lrg2 {a b : Expr} {m : M Rv} {q : M PyData} {p p2 pos2 : Pos} (hc : X.calm = true) (hml : X.mg "list" = none) (hmr : X.mg "range" = none) (ha : GE X C W a m) (hb : GB X C W b q) (hgl : Gl X "list" := by rfl) (hgr : Gl X "range" := by rfl)
    (n1 : starEach [a, b] X.env = (false, eval a X.env) :: starEach [b] X.env := by rfl) (n3 : starEach [b] X.env = (false, eval b X.env) :: starEach [] X.env := by rfl) (n4 : (backTo pos2 (starEach [b] X.env)).any (·.1) = false := by rfl)
    (n2 : starEach [.Call (.Name "range" p2) [a, b] [] pos2] X.env = (false, eval (.Call (.Name "range" p2) [a, b] [] pos2) X.env) :: starEach [] X.env := by rfl) :
    GE X C W (.Call (.Name "list" p) [.Call (.Name "range" p2) [a, b] [] pos2] [] pos) (M.bindD m fun d => M.bind q fun e => M.lift (lrg2O d e)) :=
  (pe_listRg hc hgl hml (prg_2 hgr hmr ha hb n1 n3 n4) n2).imp fun σ H Q ⟨F, ρ, ok, h⟩ => by
    rw [wp_bindD] at h
    refine ⟨F, ρ, ok, wp_mono h fun r ρ0 h0 v H0 F0 ok0 g0 rv0 => ?_⟩
    obtain ⟨F3, ok3, g3, d3⟩ := ok0.freeze rv0
    rw [wp_bind] at h0
    refine ⟨F3, ρ0, ok3, wp_mono h0 fun d ρ1 h1 w H1 F1 ok1 g1 bd => ?_⟩
    rw [wp_lift] at h1
    obtain ⟨z, hz, q⟩ := h1
    have d3 := Dt.mono g1 _ _ d3
    cases hr : r.d with
    | int i =>
      rw [hr] at d3 hz
      rw [Dt] at d3
      cases d with
      | int n => exact ⟨i, n, d3, bd.int, lrg_ok ok1 hz fun v H' F' o g r => q v H' F' o (((g0.trans g3).trans g1).trans g) r⟩
      | _ => cases hz
    | _ => rw [hr] at hz; cases hz
end
end Fx

set_option Elab.async false
set_option linter.all false
set_option maxRecDepth 100000
set_option maxHeartbeats 2000000
namespace Fx
open PySem PySem.Spec PyProof.Rows L2 RZ
/-! ### constants of the module, looked at in the head's part of the heap -/
mutual
def cstB (K : PySem.W.Frag) : PyData → Value → Bool
  | .none, .none => true
  | .bool b, .bool c => b == c
  | .int i, .int j _ => decide (i = j)
  | .str x, .str y _ => decide (x = y)
  | .tuple ds, .ref a => (match K.lookup a with
    | some ⟨.type c, _, .seq its _, _⟩ => decide (c = "tuple") && (decide (its.size ≤ 100000) && cstAll K ds its.toList)
    | _ => false)
  | _, _ => false
def cstAll (K : PySem.W.Frag) : List PyData → List Value → Bool
  | [], [] => true
  | d :: ds, v :: vs => cstB K d v && cstAll K ds vs
  | _, _ => false
end
theorem and2 {a b : Bool} (h : (a && b) = true) : a = true ∧ b = true := Bool.and_eq_true_iff.mp h
mutual
theorem cst_ok {K : PySem.W.Frag} : ∀ (d : PyData) (u : Value), cstB K d u = true → ∃ v, RelV v u ∧ ∀ H F, Dt K H F d v
  | .none, u, h => by
    cases u with
    | none => exact ⟨.non, rfl, fun _ _ => dNone⟩
    | _ => simp [cstB] at h
  | .bool b, u, h => by
    cases u with
    | bool c =>
      have e : b = c := by simpa [cstB] using h
      subst e
      exact ⟨.bl b, rfl, fun _ _ => dBool⟩
    | _ => simp [cstB] at h
  | .int i, u, h => by
    cases u with
    | int c t =>
      have e : i = c := by simpa [cstB] using h
      subst e
      exact ⟨.int i, ⟨t, rfl⟩, fun _ _ => dInt⟩
    | _ => simp [cstB] at h
  | .str i, u, h => by
    cases u with
    | str c t =>
      have e : i = c := by simpa [cstB] using h
      subst e
      exact ⟨.str i, ⟨t, rfl⟩, fun _ _ => dStr⟩
    | _ => simp [cstB] at h
  | .list ds, u, h => by cases u <;> simp [cstB] at h
  | .dict ds, u, h => by cases u <;> simp [cstB] at h
  | .tuple ds, u, h => by
    cases u with
    | ref a =>
      unfold cstB at h
      split at h
      · rename_i c od its n sl hk
        obtain ⟨h1, h2⟩ := and2 h
        obtain ⟨h2, h3⟩ := and2 h2
        obtain ⟨vs, r, hd⟩ := cst_okAll ds its.toList h3
        refine ⟨.ref a, rfl, fun H F => ?_⟩
        rw [Dt]
        exact ⟨a, vs, rfl, .inr ⟨_, its, n, hk, by rw [of_decide_eq_true h1], rfl, Nat.le_trans (of_decide_eq_true h2) (by decide), r⟩, hd H F⟩
      · cases h
    | _ => simp [cstB] at h
theorem cst_okAll {K : PySem.W.Frag} : ∀ (ds : List PyData) (us : List Value), cstAll K ds us = true → ∃ vs, Vals vs us ∧ ∀ H F, DtA K H F ds vs
  | [], us, h => by
    cases us with
    | nil => exact ⟨[], .nil, fun _ _ => DtA.nil⟩
    | cons u us => simp [cstAll] at h
  | d :: ds, us, h => by
    cases us with
    | nil => simp [cstAll] at h
    | cons u us =>
      unfold cstAll at h
      obtain ⟨h1, h2⟩ := and2 h
      obtain ⟨v, r, hd⟩ := cst_ok d u h1
      obtain ⟨vs, rs, hds⟩ := cst_okAll ds us h2
      exact ⟨v :: vs, .cons r rs, fun H F => DtA.cons (hd H F) (hds H F)⟩
end
def constB (K : PySem.W.Frag) (x : Str) (d : PyData) : Bool := match PySem.W.nsIn K mainGlobals x with
  | some (some v) => cstB K d v
  | _ => false
theorem gc_const {K : PySem.W.Frag} {h : Heap} {mg : Str → Option Value} (X : K.In h) (G : h.Ns mainGlobals mg) {x : Str} {d : PyData} (c : constB K x d = true) : GC K mg x d := by
  unfold constB at c
  split at c
  · rename_i v hv
    obtain ⟨u, r, hd⟩ := cst_ok d v c
    exact ⟨u, v, PySem.W.mg_of X G hv, r, hd⟩
  · cases c
/-! ### a def of the top, by the head's facts -/
def dfD (x : Str) (st : Stmt) : He.DefD := ⟨(x, none), x, x, defArgs st, defBody st, defScope st, [], []⟩
theorem df_of {K : PySem.W.Frag} {h : Heap} {mg : Str → Option Value} (X : K.In h) (G : h.Ns mainGlobals mg) {fa : List He.Fa} {fn : List He.DefD} (c : He.SaysD fa fn K) {x : Str} {st : Stmt} {ps : List Str} (i j : Nat) (hf : fa[i]? = some (.glo x)) (hd : fn[j]? = some (dfD x st))
    (hb : ∀ (kV doc pm : Value) (an : Option Addr) (cdv ct : Value) (us : List Value), us.length = ps.length → bindArgs (PySem.W.fnOf x x (defArgs st) (defBody st) (defScope st) .none kV doc pm an cdv ct) ⟨us, []⟩ = pure (ps.zip us)) : Df K mg x st ps := by
  obtain ⟨fd, F⟩ := c.def_ j hd
  exact ⟨He.fAd K (x, none), fd, F, He.glo_ok X G (c.fact i hf), F.bindsN hb⟩
/-! ### the law's end, for a promise that holds where guards are known -/
theorem law_callG {P : Program} {w : World} {K : PySem.W.Frag} {mg mb : Str → Option Value} {CX : CXT} {k : Nat} {fa a : Addr} {sp : Sp} {s₁ : Shared} {vs : List Value} {ns : List Int} (KX : K.In s₁.heap) (hns : s₁.heap.Ns mainGlobals mg) (hb : s₁.heap.Ns builtinsNs mb)
    (hbb : ∀ x : Str, x ≠ "__name__" → mb x = bootBuiltins x) (hlim : s₁.heap.NoLimit) (hg : s₁.gens = #[]) (ha : s₁.heap.get? a = some { cls := .type "list", data := .seq vs.toArray }) (hi : IntsAre vs ns) (hl : ns.length ≤ sizeLine) (hr : Room k callerA)
    (F : ∀ base : Heap, K.In base → base.Ns mainGlobals mg → ∃ (fd : FuncData) (ps : List Str), FnG P w K mg base CX k fa fd ps sp ∧ L2.Binds K fd ps []) (hsp : ∀ H : Hp, Only H → SqL K H a (ns.map V.int) → sp [.ref a] H (fun v _ => v = .bl true) fun _ _ _ => False)
    (hCX : ∀ H e s', CX [] H s₁ (fun _ _ _ => False) e s' → False) :
    codeAny (model P w) callerA (.call (.ref fa) ⟨[.ref a], []⟩) (fun r s' => r = .ok (.ret (.bool true)) ∧ OldK s₁.heap s'.heap ∧ s'.os = s₁.os ∧ AllBare s'.gens) s₁ := by
  have rv := vals_ints hi
  have main : ∀ H : Hp, Only H ∧ SqL K H a (ns.map V.int) ∧ HOk P w H s₁.heap ∧ (∀ b, H b ≠ none → b = a) ∧ (H a ≠ none → K.lookup a = none) →
      codeAny (model P w) callerA (.call (.ref fa) ⟨[.ref a], []⟩) (fun r s' => r = .ok (.ret (.bool true)) ∧ OldK s₁.heap s'.heap ∧ s'.os = s₁.os ∧ AllBare s'.gens) s₁ := by
    rintro H ⟨hO, hS, hok, hA, hK⟩
    have free : ∀ {b : Addr}, b ≠ a → H b = none := fun {b} hne => by
      cases q : H b with
      | none => rfl
      | some u => exact absurd (hA b (by rw [q]; intro z; cases z)) hne
    have notA : ∀ {b : Addr} {o : Obj} {es : Array DictEntry} {ep : Nat}, s₁.heap.get? b = some o → o.data = .dict es ep → b ≠ a := fun {b o es ep} e d z => by
      subst z
      rw [ha] at e
      cases e
      cases (show Data.seq vs.toArray _ = Data.dict es ep from d)
    have ns' : ∀ {b : Addr} {m : Str → Option Value}, s₁.heap.Ns b m → (hidT s₁.heap H).Ns b m := fun {b m} ⟨o, es, ep, e, d, r⟩ => ⟨o, es, ep, hidT_get e (free (notA e d)), d, r⟩
    have kb : K.In (hidT s₁.heap H) := fun b o e => hidT_get (KX b o e) (by
      by_cases hba : b = a
      · subst hba
        cases q : H b with
        | none => rfl
        | some u => rw [hK (by rw [q]; intro z; cases z)] at e; cases e
      · exact free hba)
    obtain ⟨mc, l1, l2⟩ := hlim
    have e0 : Env0 P w K mg (hidT s₁.heap H) callerA [] s₁ H :=
      ⟨rfl, ⟨kb, ns' hns, ⟨mb, ns' hb, hbb⟩, ⟨mc, ns' l1, l2⟩⟩, fun b o e => of_hidT e, Nat.le_of_eq (hidT_size _ _), trivial, fun b hb => (by cases hb), hok, .of_eq hg⟩
    obtain ⟨fd, ps, FG, hbd⟩ := F _ kb (ns' hns)
    have b := hbd s₁ [.ref a] KX (by rw [List.append_nil]; exact FG.ln _ _ _ _ (hsp H hO hS))
    rw [List.append_nil] at b
    refine codeAny_mono (FG.go callerA [] s₁ H ⟨[.ref a], []⟩ [.ref a] [.ref a] _ _ hr rfl e0 b (.cons rfl .nil) (hsp H hO hS)) fun r s' h => ?_
    match r, h with
    | .error e, h => exact (hCX H e s' h).elim
    | .ok .next, h => exact False.elim h
    | .ok .brk, h => exact False.elim h
    | .ok .cont, h => exact False.elim h
    | .ok (.ret u), h =>
      obtain ⟨v, H', os, bare, un, hok', r', q⟩ := h
      have q' : v = .bl true := q
      subst q'
      obtain rfl : u = Value.bool true := r'
      refine ⟨rfl, OldK.of_keep fun b o e => ?_, os, bare⟩
      rcases hO b with z | ⟨ob, xs, z⟩
      · exact un.keep b o e z (fun hm => by cases hm) (fun hm => by cases hm)
      · obtain ⟨old, _⟩ := hok b _ z
        obtain ⟨now, _⟩ := hok' b _ (un.frzs b ob _ z)
        cases e.symm.trans old
        exact now
  cases hk : K.lookup a with
  | some o =>
    have e := KX a o hk
    rw [ha] at e
    cases e
    exact main (fun _ => none) ⟨fun _ => .inl rfl, .inr ⟨_, vs.toArray, _, hk, rfl, rfl, rfl, by rw [List.size_toArray, hi.length]; exact hl, by simpa using rv⟩, fun b u z => (Option.some_ne_none u z.symm).elim, fun b z => absurd rfl z, fun z => absurd rfl z⟩
  | none =>
    have at_ : ∀ b, (if b = a then some (HO.frz { cls := .type "list", data := .seq vs.toArray } (.lst (ns.map V.int))) else none) = none ∨ b = a := fun b => by
      by_cases hb : b = a
      · exact .inr hb
      · exact .inl (if_neg hb)
    refine main (fun b => if b = a then some (.frz { cls := .type "list", data := .seq vs.toArray } (.lst (ns.map V.int))) else none) ⟨fun b => ?_, .inl (.inr ⟨_, if_pos rfl⟩), fun b u z => ?_, fun b z => (at_ b).resolve_left z, fun _ => hk⟩
    · rcases at_ b with h | h
      · exact .inl h
      · exact .inr ⟨_, _, if_pos h⟩
    · rcases at_ b with h | h
      · exact (Option.some_ne_none u (z.symm.trans h)).elim
      · have z' := (if_pos h).symm.trans z
        cases z'
        subst h
        exact ⟨ha, by rw [List.length_map]; exact hl, vs, _, rv, ha⟩
theorem walk_ofG {l : PySem.W.OpenLaw} {n k : Nat} {q : Program} {loose : List Str} {XP : (Str → Option Value) → Heap → Prop} {YP : World → Heap → Prop} {d : DefRec} (hn : l.most = some n) (hn2 : n ≤ sizeLine) (hdf : d.params.defaults = []) (hr : Room k callerA)
    (F : ∀ (w : World) (mg : Str → Option Value) (fa : Addr) (h : Heap), YP w h → h.Ns mainGlobals mg → mg d.name = some (.ref fa) →
      ∃ (K : PySem.W.Frag) (sp : Sp), K.In h ∧ (∀ (H : Hp) (a : Addr) (ns : List Int), ns.length ≤ n → Only H → SqL K H a (ns.map V.int) → sp [.ref a] H (fun v _ => v = .bl true) fun _ _ _ => False) ∧
        ∀ base : Heap, K.In base → base.Ns mainGlobals mg → ∃ (fd : FuncData) (ps : List Str), FnG l.prog w K mg base (L2.CX l.prog w) k fa fd ps sp ∧ L2.Binds K fd ps [])
    (hCX : ∀ (w : World) (H : Hp) (s : Shared) (e : Value) (s' : Shared), L2.CX l.prog w [] H s (fun _ _ _ => False) e s' → False) :
    PySem.W.WalkO q loose XP YP l.row.toRowW d [] (fun f vs => PySem.call f vs) :=
  Att.attach_call hn hdf fun w s₀ s₁ mg mb fa o pm cd doc a vs ns G Y ho hd hcd hmg hobj hints hlen hg => by
    obtain ⟨K, sp, KX, hsp, hF⟩ := F w mg fa _ Y G.T.g hmg
    exact law_callG KX G.T.g G.T.b G.T.builtins G.T.nolimit hg hobj hints (Nat.le_trans hlen hn2) hr hF (fun H hO hS => hsp H a ns hlen hO hS) fun H e s' => hCX w H s₁ e s'
theorem noCX {P : Program} (w : World) (H : Hp) (s : Shared) (e : Value) (s' : Shared) (h : L2.CX P w [] H s (fun _ _ _ => False) e s') : False := by
  obtain ⟨_, _, _, _, _, _, _, _, _, _, _, _, z⟩ := h
  exact z
/-- the law's promise, from what its function answers -/
theorem law_sp {K : PySem.W.Frag} {mg : Str → Option Value} {H : Hp} {a : Addr} {ns : List Int} {f : Fn} (hO : Only H) (hS : SqL K H a (ns.map V.int)) (e : f [.v (.dict (roK ns))] = .ok (.val (.bool true)) []) :
    spF K mg 1 f [.ref a] H (fun v _ => v = .bl true) fun _ _ _ => False := by
  have ro : RoL K H a (ns.map V.int) := by
    rcases hS with (h | h) | h
    · rcases hO a with z | ⟨o, xs, z⟩
      · rw [h] at z; cases z
      · rw [h] at z; cases z
    · exact .inl h
    · exact .inr h
  refine ⟨rfl, fun _ => False, [.v (.dict (roK ns))], [], fun _ h => h.elim, .v ?_ .nil, List.nodup_nil, ?_⟩
  · rw [Dt]
    exact ⟨a, ns, rfl, rfl, ro⟩
  · rw [e]
    intro v H' F' fr oo rt
    have rt : Dt K H' F' (.bool true) v := rt
    rw [Dt] at rt
    exact rt
theorem cal_at {P : Program} {w : World} {K : PySem.W.Frag} {mg : Str → Option Value} {base : Heap} {k n : Nat} {x : Str} {f : Fn} {fa : Addr} (c : Cal P w K mg base k x n f) (hm : mg x = some (.ref fa)) :
    ∃ (fd : FuncData) (ps : List Str), FnG P w K mg base (L2.CX P w) k fa fd ps (spF K mg n f) ∧ L2.Binds K fd ps [] := by
  obtain ⟨a, fd, ps, F, ha, _, b⟩ := c.ex
  cases hm.symm.trans ha
  exact ⟨fd, ps, F, b⟩
end Fx

set_option Elab.async false
set_option linter.all false
set_option maxRecDepth 100000
set_option maxHeartbeats 2000000
namespace Fx
open PySem PySem.Spec PyProof.Rows L2 RZ
/-! ### running the functions: simp equations, all applied to the slots -/
section
variable {α β : Type} {ρ : Rho}
def Res.bnd (r : Res α) (f : α → M β) : Res β := match r with
  | .ok a ρ => f a ρ
  | .exc c d ρ => .exc c d ρ
  | .bad => .bad
@[simp] theorem bnd_ok {a : α} {f : α → M β} : Res.bnd (.ok a ρ) f = f a ρ := rfl
@[simp] theorem bnd_exc {c d} {f : α → M β} : Res.bnd (.exc c d ρ) f = .exc c d ρ := rfl
@[simp] theorem bnd_bad {f : α → M β} : Res.bnd .bad f = .bad := rfl
@[simp] theorem pure_ap {a : α} : M.pure a ρ = .ok a ρ := rfl
@[simp] theorem bind_ap {m : M α} {f : α → M β} : M.bind m f ρ = (m ρ).bnd f := rfl
@[simp] theorem bindD_ap {m : M Rv} {f : PyData → M β} : M.bindD m f ρ = (m ρ).bnd fun r => f r.d := rfl
@[simp] theorem lift_some {r : Rv} : M.lift (some r) ρ = .ok r ρ := rfl
@[simp] theorem lift_none : M.lift none ρ = .bad := rfl
@[simp] theorem ofB_ap {m : M Rv} : M.ofB m ρ = (m ρ).bnd fun r => M.pure r.d := rfl
@[simp] theorem truth_ap {m : M PyData} : M.truth m ρ = (m ρ).bnd truB := rfl
@[simp] theorem asB_ap {b : Bool} : asB (.val (.bool b)) ρ = .ok b ρ := rfl
def cnd (x : Bool) (a b : M α) : M α := bif x then a else b
@[simp] theorem cnd_t {a b : M α} : cnd true a b = a := rfl
@[simp] theorem cnd_f {a b : M α} : cnd false a b = b := rfl
@[simp] theorem ite_ap {c : M Bool} {a b : M α} : M.ite c a b ρ = (c ρ).bnd fun x => cnd x a b := rfl
@[simp] theorem and_ap {a b : M Bool} : M.and a b ρ = (a ρ).bnd fun x => cnd x b (M.pure false) := rfl
@[simp] theorem or_ap {a b : M Bool} : M.or a b ρ = (a ρ).bnd fun x => cnd x (M.pure true) b := rfl
@[simp] theorem not_ap {a : M Bool} : M.not a ρ = (a ρ).bnd fun x => M.pure (!x) := rfl
@[simp] theorem ofBool_ap {a : M Bool} : M.ofBool a ρ = (a ρ).bnd fun b => M.pure (.val (.bool b)) := rfl
@[simp] theorem andV_ap {a b : M Rv} : M.andV a b ρ = ((a ρ).bnd asB).bnd fun x => cnd x b (M.pure (.val (.bool false))) := rfl
@[simp] theorem orV_ap {a b : M Rv} : M.orV a b ρ = ((a ρ).bnd asB).bnd fun x => cnd x (M.pure (.val (.bool true))) b := rfl
@[simp] theorem cons_ap {m : M Rv} {ms : M (List PyData)} : M.cons m ms ρ = (m ρ).bnd fun r => M.bind ms fun ds => M.pure (r.d :: ds) := rfl
@[simp] theorem consV_ap {m : M Rv} {ms : M (List AE)} : M.consV m ms ρ = (m ρ).bnd fun r => M.bind ms fun ds => M.pure (.v r.d :: ds) := rfl
@[simp] theorem consS_ap {i : Nat} {ms : M (List AE)} : M.consS i ms ρ = (chk i ρ).bnd fun _ => M.bind ms fun ds => M.pure (.s i :: ds) := rfl
@[simp] theorem E2_ap {f : PyData → PyData → Option Rv} {a : M Rv} {b : M PyData} : E2 f a b ρ = (a ρ).bnd fun x => M.bind b fun y => M.lift (f x.d y) := rfl
@[simp] theorem IxN_ap {i : Nat} {k : M Rv} : IxN i k ρ = (chk i ρ).bnd fun _ => M.bindD k fun k => M.bind (peek i) fun d => M.lift (getO d k) := rfl
@[simp] theorem SlN_ap {i : Nat} {l h : M (Option Int)} : SlN i l h ρ = (chk i ρ).bnd fun _ => M.bind l fun l => M.bind h fun u => M.bind (peek i) fun d => M.lift (sliceO l u d) := rfl
@[simp] theorem SlE_ap {a : M Rv} {l h : M (Option Int)} : SlE a l h ρ = (a ρ).bnd fun r => M.bind l fun l => M.bind h fun u => M.lift (sliceO l u r.d) := rfl
def partR (r : Rv) : M (Option Int) := fun ρ => match r with
  | .val (.int i) => .ok (some i) ρ
  | _ => .bad
@[simp] theorem partR_int {i : Int} : partR (.val (.int i)) ρ = .ok (some i) ρ := rfl
@[simp] theorem part_ap {m : M Rv} : M.part m ρ = (m ρ).bnd partR := rfl
@[simp] theorem chain_ap {f g : PyData → PyData → Option Rv} {ma mb mc : M Rv} : M.chain f g ma mb mc ρ = (ma ρ).bnd fun x => M.bindD mb fun y => M.ite (M.bind (M.lift (f x.d y)) asB) (M.bindD mc fun z => M.lift (g y z)) (M.pure (.val (.bool false))) := rfl
/-! slots -/
def sv : Option (Option Sl) → Rho → Nat → Res Rv
  | some (some (.val d)), ρ, _ => .ok (.val d) ρ
  | some (some (.own ds)), ρ, i => .ok (.val (.list ds)) (ρ.set i (some (.val (.list ds))))
  | _, _, _ => .bad
@[simp] theorem var_ap {i : Nat} : var i ρ = sv ρ[i]? ρ i := by
  unfold var sv
  generalize ρ[i]? = o
  rcases o with _ | _ | _ | _ | _ <;> rfl
@[simp] theorem sv_val {d ρ i} : sv (some (some (.val d))) ρ i = .ok (.val d) ρ := rfl
@[simp] theorem sv_own {ds ρ i} : sv (some (some (.own ds))) ρ i = .ok (.val (.list ds)) (ρ.set i (some (.val (.list ds)))) := rfl
def pv' : Option (Option Sl) → Rho → Res PyData
  | some (some (.val d)), ρ => .ok d ρ
  | some (some (.own ds)), ρ => .ok (.list ds) ρ
  | some (some (.brw _ ds)), ρ => .ok (.list ds) ρ
  | _, _ => .bad
@[simp] theorem peek_ap {i : Nat} : peek i ρ = pv' ρ[i]? ρ := by
  unfold peek pv'
  generalize ρ[i]? = o
  rcases o with _ | _ | _ | _ | _ <;> rfl
@[simp] theorem pv'_val {d ρ} : pv' (some (some (.val d))) ρ = .ok d ρ := rfl
@[simp] theorem pv'_own {ds ρ} : pv' (some (some (.own ds))) ρ = .ok (.list ds) ρ := rfl
@[simp] theorem pv'_brw {k ds ρ} : pv' (some (some (.brw k ds))) ρ = .ok (.list ds) ρ := rfl
def cv : Option (Option Sl) → Rho → Res Unit
  | some (some _), ρ => .ok () ρ
  | _, _ => .bad
@[simp] theorem chk_ap {i : Nat} : chk i ρ = cv ρ[i]? ρ := by
  unfold chk cv
  generalize ρ[i]? = o
  rcases o with _ | _ | _ | _ | _ <;> rfl
@[simp] theorem cv_some {s ρ} : cv (some (some s)) ρ = .ok () ρ := rfl
/-! statements -/
def Res.bnS (r : Res α) (f : α → SM) : Out := match r with
  | .ok a ρ => f a ρ
  | .exc c d ρ => .exc c d ρ
  | .bad => .bad
@[simp] theorem bnS_ok {a : α} {f : α → SM} : Res.bnS (.ok a ρ) f = f a ρ := rfl
@[simp] theorem bnS_bad {f : α → SM} : Res.bnS .bad f = .bad := rfl
@[simp] theorem bindS_ap {m : M α} {f : α → SM} : bindS m f ρ = (m ρ).bnS f := rfl
def Out.sq (o : Out) (b : SM) : Out := match o with
  | .nx ρ => b ρ
  | o => o
@[simp] theorem sq_nx {b : SM} : Out.sq (.nx ρ) b = b ρ := rfl
@[simp] theorem sq_ret {r : Rv} {b : SM} : Out.sq (.ret r ρ) b = .ret r ρ := rfl
@[simp] theorem sq_brk {b : SM} : Out.sq (.brk ρ) b = .brk ρ := rfl
@[simp] theorem sq_cnt {b : SM} : Out.sq (.cnt ρ) b = .cnt ρ := rfl
@[simp] theorem sq_bad {b : SM} : Out.sq .bad b = .bad := rfl
@[simp] theorem seqS_ap {a b : SM} : seqS a b ρ = (a ρ).sq b := by
  unfold seqS Out.sq
  cases a ρ <;> rfl
@[simp] theorem nextS_ap : nextS ρ = .nx ρ := rfl
@[simp] theorem brkS_ap : brkS ρ = .brk ρ := rfl
@[simp] theorem cntS_ap : cntS ρ = .cnt ρ := rfl
@[simp] theorem neverS_ap : neverS ρ = .bad := rfl
@[simp] theorem asgS_ap {i : Nat} {m : M Rv} : asgS i m ρ = (m ρ).bnS fun r ρ => .nx (ρ.set i (some r.sl)) := rfl
@[simp] theorem retS_ap {m : M Rv} : retS m ρ = (m ρ).bnS fun r ρ => .ret r ρ := rfl
@[simp] theorem dropS_ap {m : M Rv} : dropS m ρ = (m ρ).bnS fun _ ρ => .nx ρ := rfl
def cndS (x : Bool) (a b : SM) : SM := fun ρ => bif x then a ρ else b ρ
@[simp] theorem cndS_t {a b : SM} : cndS true a b = a := rfl
@[simp] theorem cndS_f {a b : SM} : cndS false a b = b := rfl
@[simp] theorem ifS_ap {p : M Bool} {a b : SM} : ifS p a b ρ = (p ρ).bnS fun x => cndS x a b := rfl
@[simp] theorem par2_ap {i j : Nat} {a b : M Rv} : par2 i j a b ρ = (a ρ).bnS fun r => bindS b fun u ρ => .nx ((ρ.set i (some r.sl)).set j (some u.sl)) := rfl
@[simp] theorem asgT_ap {t : Tg} {m : M Rv} : asgT t m ρ = (m ρ).bnS fun r ρ => match t.set r.d ρ with
  | some ρ' => .nx ρ'
  | none => .bad := rfl
@[simp] theorem forS_ap {mi : M (List PyData)} {t : Tg} {b : SM} : forS mi t b ρ = (mi ρ).bnS fun ds => forL t b ds := rfl
@[simp] theorem whS_ap {n : Nat} {p : M Bool} {b : SM} : whS n p b ρ = whL p b n ρ := rfl
@[simp] theorem setIx_ap {i : Nat} {m mk : M Rv} : setIx i m mk ρ = (m ρ).bnS fun r => bindS (chk i) fun _ => bindS mk fun k => bindS (updL i (setAt k.d r.d)) fun _ ρ => .nx ρ := by
  show bindS _ _ ρ = _
  simp only [bindS_ap, bindD_ap]
  cases m ρ with
  | ok a ρ1 =>
    simp only [bnd_ok, bnS_ok, bind_ap, bindS_ap]
    cases chk i ρ1 with
    | ok u ρ2 =>
      simp only [bnd_ok, bnS_ok, bindD_ap, bindS_ap]
      cases mk ρ2 <;> rfl
    | exc c d ρ2 => rfl
    | bad => rfl
  | exc c d ρ2 => rfl
  | bad => rfl
/-! lists of ints as data -/
end
abbrev I (L : List Int) : List PyData := L.map PyData.int
theorem I_len {L : List Int} : (I L).length = L.length := by simp
@[simp] theorem okD_int {i : Int} : okD (.int i) = true := by simp [okD, SeqAt.shaped, PyData.canLay0, PyData.depth, PyData.hasDict]
theorem cl_I : ∀ L : List Int, PyData.canLayAll0 (I L) = true
  | [] => by simp [PyData.canLayAll0]
  | x :: L => by
    have := cl_I L
    simp only [I, List.map_cons, PyData.canLayAll0, PyData.canLay0, Bool.true_and] at this ⊢
    exact this
theorem dp_I : ∀ L : List Int, PyData.depthAll (I L) = 0
  | [] => by simp [PyData.depthAll]
  | x :: L => by
    have := dp_I L
    simp only [I, List.map_cons, PyData.depthAll, PyData.depth] at this ⊢
    rw [this]; rfl
theorem hd_I : ∀ L : List Int, PyData.hasDictAll (I L) = false
  | [] => by simp [PyData.hasDictAll]
  | x :: L => by
    have := hd_I L
    simp only [I, List.map_cons, PyData.hasDictAll, PyData.hasDict, Bool.false_or] at this ⊢
    exact this
@[simp] theorem okD_tupI {L : List Int} : okD (.tuple (I L)) = true := by
  simp only [okD, SeqAt.shaped, PyData.canLay0, PyData.depth, PyData.hasDict, cl_I, dp_I, hd_I]; decide
@[simp] theorem okD_lstI {L : List Int} : okD (.list (I L)) = true := by
  simp only [okD, SeqAt.shaped, PyData.canLay0, PyData.depth, PyData.hasDict, cl_I, dp_I, hd_I]; decide
@[simp] theorem okD_bool {b : Bool} : okD (.bool b) = true := by simp [okD, SeqAt.shaped, PyData.canLay0, PyData.depth, PyData.hasDict]
@[simp] theorem okD_none : okD .none = true := by simp [okD, SeqAt.shaped, PyData.canLay0, PyData.depth, PyData.hasDict]
theorem eqvAll_I : ∀ a b : List Int, PyData.eqvAll (I a) (I b) = decide (a = b)
  | [], [] => by simp [PyData.eqvAll]
  | [], y :: b => by simp [PyData.eqvAll]
  | x :: a, [] => by simp [PyData.eqvAll]
  | x :: a, y :: b => by
    have := eqvAll_I a b
    simp only [I, List.map_cons, PyData.eqvAll, PyData.eqv] at this ⊢
    rw [this]
    by_cases h : x = y <;> simp [h]
theorem eqO_int {a b : Int} : eqO (.int a) (.int b) = some (.val (.bool (decide (a = b)))) := by
  simp only [eqO, okD_int, and_self, if_true, PyData.eqv]; rfl
theorem neO_int {a b : Int} : neO (.int a) (.int b) = some (.val (.bool (!decide (a = b)))) := by
  simp only [neO, okD_int, and_self, if_true, PyData.eqv]; rfl
theorem eqO_tup {a b : List Int} : eqO (.tuple (I a)) (.tuple (I b)) = some (.val (.bool (decide (a = b)))) := by
  simp only [eqO, okD_tupI, and_self, if_true, PyData.eqv, eqvAll_I]
theorem neO_tup {a b : List Int} : neO (.tuple (I a)) (.tuple (I b)) = some (.val (.bool (!decide (a = b)))) := by
  simp only [neO, okD_tupI, and_self, if_true, PyData.eqv, eqvAll_I]
theorem eqO_nil {a : List Int} : eqO (.tuple (I a)) (.tuple []) = some (.val (.bool (decide (a = [])))) := eqO_tup (b := [])
theorem neO_nil {a : List Int} : neO (.tuple (I a)) (.tuple []) = some (.val (.bool (!decide (a = [])))) := neO_tup (b := [])
/-! ints -/
theorem addO_int {a b : Int} : addO (.int a) (.int b) = some (.val (.int (a + b))) := rfl
theorem subO_int {a b : Int} : subO (.int a) (.int b) = some (.val (.int (a - b))) := rfl
theorem log_lt {a k : Nat} (h : a < 2 ^ k) : a.log2 < k + 1 := by
  by_cases h0 : a = 0
  · subst h0; simp
  · have := (Nat.log2_lt h0).mpr h
    omega
theorem mulO_int {a b : Int} (ha : a.natAbs < 2 ^ 4000) (hb : b.natAbs < 2 ^ 4000) : mulO (.int a) (.int b) = some (.val (.int (a * b))) := by
  have h1 := log_lt ha
  have h2 := log_lt hb
  have : mulC a b = true := decide_eq_true (by omega)
  simp [mulO, intO, this]
theorem modO_int {a b : Int} (h : 0 < b) : modO (.int a) (.int b) = some (.val (.int (a % b))) := by simp [modO, intO, modC, h]
theorem divO_int {a b : Int} (h : 0 < b) (h2 : b.natAbs < 2 ^ 4000) : divO (.int a) (.int b) = some (.val (.int (a / b))) := by
  have h1 := log_lt h2
  have : divC a b = true := decide_eq_true ⟨h, by omega⟩
  simp [divO, intO, this]
theorem gtO_int {a b : Int} : gtO (.int a) (.int b) = some (.val (.bool (decide (b < a)))) := rfl
theorem ltO_int {a b : Int} : ltO (.int a) (.int b) = some (.val (.bool (decide (a < b)))) := rfl
theorem geO_int {a b : Int} : geO (.int a) (.int b) = some (.val (.bool (decide (b ≤ a)))) := rfl
theorem leO_int {a b : Int} : leO (.int a) (.int b) = some (.val (.bool (decide (a ≤ b)))) := rfl
theorem negO_int {a : Int} : negO (.int a) = some (.val (.int (-a))) := rfl
theorem intO1_int {a : Int} : intO1 (.int a) = some (.val (.int a)) := rfl
theorem lenO_tup {ds : List PyData} : lenO (.tuple ds) = some (.val (.int ds.length)) := rfl
theorem lenO_lst {ds : List PyData} : lenO (.list ds) = some (.val (.int ds.length)) := rfl
theorem listO_tup {ds : List PyData} : listO (.tuple ds) = some (.new ds) := rfl
theorem listO_lst {ds : List PyData} : listO (.list ds) = some (.new ds) := rfl
theorem tupleO_tup {ds : List PyData} : tupleO (.tuple ds) = some (.val (.tuple ds)) := rfl
theorem tupleO_lst {ds : List PyData} : tupleO (.list ds) = some (.val (.tuple ds)) := rfl
theorem max2O_int {a b : Int} : max2O [.int a, .int b] = some (.val (.int (max a b))) := by
  simp only [max2O]
  congr 3
  omega
theorem min2O_int {a b : Int} : min2O [.int a, .int b] = some (.val (.int (min a b))) := by
  simp only [min2O]
  congr 3
  omega
theorem tupO_le {ds : List PyData} (h : ds.length ≤ 100000) : tupO ds = some (.val (.tuple ds)) := if_pos h
theorem lstO_le {ds : List PyData} (h : ds.length ≤ 100000) : lstO ds = some (.new ds) := if_pos h
@[simp] theorem tupO0 : tupO [] = some (.val (.tuple [])) := rfl
@[simp] theorem tupO1 {a} : tupO [a] = some (.val (.tuple [a])) := rfl
@[simp] theorem tupO2 {a b} : tupO [a, b] = some (.val (.tuple [a, b])) := rfl
@[simp] theorem tupO3 {a b c} : tupO [a, b, c] = some (.val (.tuple [a, b, c])) := rfl
@[simp] theorem tupO4 {a b c d} : tupO [a, b, c, d] = some (.val (.tuple [a, b, c, d])) := rfl
@[simp] theorem lstO0 : lstO [] = some (.new []) := rfl
@[simp] theorem lstO1 {a} : lstO [a] = some (.new [a]) := rfl
@[simp] theorem lstO2 {a b} : lstO [a, b] = some (.new [a, b]) := rfl
@[simp] theorem lstO3 {a b c} : lstO [a, b, c] = some (.new [a, b, c]) := rfl
@[simp] theorem lstO4 {a b c d} : lstO [a, b, c, d] = some (.new [a, b, c, d]) := rfl
@[simp] theorem lstO5 {a b c d e} : lstO [a, b, c, d, e] = some (.new [a, b, c, d, e]) := rfl
theorem getO_lst {ds : List PyData} {i : Int} : getO (.list ds) (.int i) = (atI ds i).map .val := rfl
theorem getO_tup {ds : List PyData} {i : Int} : getO (.tuple ds) (.int i) = (atI ds i).map .val := rfl
theorem atI_nat {α : Type} {ds : List α} {i : Int} {n : Nat} (h : i = n) (hl : n < ds.length) : atI ds i = ds[n]? := by
  subst h
  unfold atI ixN
  rw [if_pos (by omega), if_pos (by omega)]
  rfl
theorem atI_neg {α : Type} {ds : List α} {i : Int} {n : Nat} (h : i = -(n + 1 : Nat)) (hl : n < ds.length) : atI ds i = ds[ds.length - 1 - n]? := by
  subst h
  unfold atI ixN
  rw [if_neg (by omega), if_pos (by omega)]
  show ds[_]? = _
  congr 1
  omega
/-! enumerations, ranges -/
def enK : Nat → List PyData → List PyData
  | _, [] => []
  | k, x :: L => .tuple [.int (k : Int), x] :: enK (k + 1) L
theorem rangeD1_succ (k : Int) (n : Nat) : rangeD1 k (n + 1) = .int k :: rangeD1 (k + 1) n := by
  unfold rangeD1
  rw [List.range_succ_eq_map, List.map_cons, List.map_map]
  congr 1
  · simp
  · refine List.map_congr_left fun i _ => ?_
    show PyData.int _ = PyData.int _
    congr 1
    simp only [Nat.succ_eq_add_one]
    omega
theorem enumD_eq : ∀ (L : List PyData) (k : Nat), zipD (rangeD1 (k : Int) L.length) L = enK k L
  | [], k => by simp [zipD, rangeD1, enK]
  | x :: L, k => by
    have := enumD_eq L (k + 1)
    rw [List.length_cons, rangeD1_succ]
    unfold enK
    rw [← this]
    rfl
theorem enumD_enK (L : List PyData) : enumD L = enK 0 L := enumD_eq L 0
def upK (k : Int) (n : Nat) : List PyData := rangeD1 k n
/-- range(n - 1, -1, -1) -/
def dnK : Nat → List PyData
  | 0 => []
  | n + 1 => .int (n : Int) :: dnK n
theorem rangeD_dn : ∀ n : Nat, rangeD ((n : Int) - 1) (-1) n = dnK n
  | 0 => rfl
  | n + 1 => by
    have := rangeD_dn n
    unfold dnK
    rw [← this]
    unfold rangeD
    rw [List.range_succ_eq_map, List.map_cons, List.map_map]
    congr 1
    · show PyData.int _ = PyData.int _
      congr 1
      omega
    · refine List.map_congr_left fun i _ => ?_
      show PyData.int _ = PyData.int _
      congr 1
      simp only [Nat.succ_eq_add_one]
      omega
@[simp] theorem guard_t {α : Type} {a : α} : M.guard true a = M.pure a := rfl
theorem zipB_lst {a b : List PyData} : zipB [.list a, .list b] = M.pure (zipD a b) := rfl
theorem enumB_tup {a : List PyData} : enumB [.tuple a] = M.pure (enumD a) := rfl
theorem enumB_lst {a : List PyData} : enumB [.list a] = M.pure (enumD a) := rfl
theorem rng1_int {j : Int} (h : -(2 ^ 62) ≤ j ∧ j < 2 ^ 62) : rng1 [.int j] = M.pure (rangeD1 0 j.toNat) := by simp only [rng1, h]; rfl
theorem rng2_int {i j : Int} (h : -(2 ^ 62) ≤ i ∧ i < 2 ^ 62 ∧ -(2 ^ 62) ≤ j ∧ j < 2 ^ 62) : rng2 [.int i, .int j] = M.pure (rangeD1 i (j - i).toNat) := by simp only [rng2, h]; rfl
theorem rng3_dn {i : Int} (h : -(2 ^ 62) ≤ i ∧ i < 2 ^ 62) : rng3 [.int i, .int (-1), .int (-1)] = M.pure (dnK (i + 1).toNat) := by
  have e : rng3 [.int i, .int (-1), .int (-1)] = M.pure (rangeD i (-1) (i - -1).toNat) := by simp only [rng3, h]; rfl
  rw [e]
  congr 1
  by_cases h0 : 0 ≤ i + 1
  · have := rangeD_dn (i + 1).toNat
    rw [← this]
    congr 1
    · omega
  · have e1 : (i + 1).toNat = 0 := by omega
    have e2 : (i - -1).toNat = 0 := by omega
    rw [e1, e2]
    rfl
/-! comprehensions without a test -/
theorem compB_ok {t : Tg} {tt : M Bool} {me : M Rv} {vs : List Nat} {ds out : List PyData} {ρ ρ' : Rho} (hl : ds.length ≤ 100000) (h : compL t tt me vs ds [] (rwipe ρ vs) = some (out, ρ')) : compB t tt me vs ds ρ = .ok (.new out) (restR ρ ρ' vs) := by
  unfold compB
  rw [decide_eq_true hl, cond_true, h]
/-! ### calls -/
def cres (r : FR) (ρ : Rho) : Res Rv := match r with
  | .ok r [] => .ok r ρ
  | .exc c d [] => .exc c d ρ
  | _ => .bad
theorem cres_ok {r : Rv} {ρ : Rho} : cres (.ok r []) ρ = .ok r ρ := rfl
theorem resolve_v : ∀ (es : List PyData) (ρ : Rho), resolve ρ (es.map AE.v) = some (es.map Ag.v)
  | [], _ => rfl
  | d :: es, ρ => by
    show (resolve ρ (es.map AE.v)).map (Ag.v d :: ·) = _
    rw [resolve_v es ρ]; rfl
theorem slots_v : ∀ es : List PyData, slotsOf (es.map AE.v) = []
  | [] => rfl
  | d :: es => slots_v es
theorem callB_v (n : Nat) (f : Fn) (es : List PyData) (ρ : Rho) (h : es.length = n) : callB n f (es.map AE.v) ρ = cres (f (es.map Ag.v)) ρ := by
  unfold callB
  rw [resolve_v, slots_v, List.length_map]
  have e : (es.length == n && nodupB []) = true := by subst h; simp [nodupB]
  simp only [e, cond_true]
  cases f (es.map Ag.v) with
  | bad => rfl
  | ok r outs => cases outs <;> rfl
  | exc c d outs => cases outs <;> rfl
theorem call1 {f : Fn} {a} {ρ : Rho} : callB 1 f [.v a] ρ = cres (f [.v a]) ρ := callB_v 1 f [a] ρ rfl
theorem call2 {f : Fn} {a b} {ρ : Rho} : callB 2 f [.v a, .v b] ρ = cres (f [.v a, .v b]) ρ := callB_v 2 f [a, b] ρ rfl
theorem call3 {f : Fn} {a b c} {ρ : Rho} : callB 3 f [.v a, .v b, .v c] ρ = cres (f [.v a, .v b, .v c]) ρ := callB_v 3 f [a, b, c] ρ rfl
theorem call4 {f : Fn} {a b c d} {ρ : Rho} : callB 4 f [.v a, .v b, .v c, .v d] ρ = cres (f [.v a, .v b, .v c, .v d]) ρ := callB_v 4 f [a, b, c, d] ρ rfl
theorem call5 {f : Fn} {a b c d e} {ρ : Rho} : callB 5 f [.v a, .v b, .v c, .v d, .v e] ρ = cres (f [.v a, .v b, .v c, .v d, .v e]) ρ := callB_v 5 f [a, b, c, d, e] ρ rfl
/-- with one list by reference, first -/
theorem callR {n : Nat} {f : Fn} {i : Nat} {es : List PyData} {ρ : Rho} {s : Sl} {ds o : List PyData} {r : Rv} (hn : es.length + 1 = n) (hs : ρ[i]? = some (some s)) (hm : s.ls = some ds) (hu : s.mut) (hf : f (.r ds :: es.map Ag.v) = .ok r [o]) : callB n f (.s i :: es.map AE.v) ρ = .ok r (ρ.set i (some (s.put o))) := by
  have hr : resolve ρ (.s i :: es.map AE.v) = some (.r ds :: es.map Ag.v) := by
    unfold resolve
    rw [resolve_v]
    cases s with
    | val d => exact hu.elim
    | own d => cases hm; simp only [hs]; rfl
    | brw k d => cases hm; simp only [hs]; rfl
  have hl : slotsOf (.s i :: es.map AE.v) = [i] := by
    show i :: slotsOf (es.map AE.v) = _
    rw [slots_v]
  unfold callB
  rw [hr, hl]
  have e : ((AE.s i :: es.map AE.v).length == n && nodupB [i]) = true := by subst hn; simp [nodupB]
  simp only [e, cond_true, hf]
  show Res.ok r (setOuts [i] [o] ρ) = _
  unfold setOuts
  simp only [hs]
  unfold setOuts
  rfl
/-! ### the end of a def -/
theorem run_v {n : Nat} {body : SM} {ds : List PyData} {r : Rv} {ρ : Rho} (h : body (initR n (ds.map Ag.v)) = .ret r ρ) : runFn n body (ds.map Ag.v) = .ok r [] := by
  unfold runFn
  rw [h]
  show endR _ r ρ = _
  have e : ∀ (k : Nat) (ds : List PyData), outsR k (ds.map Ag.v) ρ = some [] := fun k ds => by
    induction ds generalizing k with
    | nil => rfl
    | cons d ds ih => exact ih (k + 1)
  unfold endR
  rw [e]
theorem run_nx {n : Nat} {body : SM} {ds : List PyData} {ρ : Rho} (h : body (initR n (ds.map Ag.v)) = .nx ρ) : runFn n body (ds.map Ag.v) = .ok (.val .none) [] := by
  unfold runFn
  rw [h]
  show endR _ _ ρ = _
  have e : ∀ (k : Nat) (ds : List PyData), outsR k (ds.map Ag.v) ρ = some [] := fun k ds => by
    induction ds generalizing k with
    | nil => rfl
    | cons d ds ih => exact ih (k + 1)
  unfold endR
  rw [e]
theorem truth_bool {b : Bool} {ρ : Rho} : truB (.bool b) ρ = .ok b ρ := rfl
theorem inst_int {i : Int} : isInstO "int" (.int i) = some (.val (.bool true)) := by rfl
theorem isl_own {ds : List PyData} : Sl.ls (.own ds) = some ds := rfl
theorem set_tp2 {i j : Nat} {a b : PyData} {ρ : Rho} : Tg.set (.tp [i, j]) (.tuple [a, b]) ρ = some ((ρ.set i (some (.val a))).set j (some (.val b))) := rfl
theorem set_tp3 {i j k : Nat} {a b c : PyData} {ρ : Rho} : Tg.set (.tp [i, j, k]) (.tuple [a, b, c]) ρ = some (((ρ.set i (some (.val a))).set j (some (.val b))).set k (some (.val c))) := rfl
theorem set_ls2 {i j : Nat} {a b : PyData} {ρ : Rho} : Tg.set (.ls [i, j]) (.list [a, b]) ρ = some ((ρ.set i (some (.val a))).set j (some (.val b))) := rfl
theorem set_nm {i : Nat} {a : PyData} {ρ : Rho} : Tg.set (.nm i) a ρ = some (ρ.set i (some (.val a))) := rfl
def uv (f : List PyData → Option (List PyData)) : Option (Option Sl) → Rho → Nat → Res Unit
  | some (some (.own ds)), ρ, i => (match f ds with
    | some es => .ok () (ρ.set i (some (.own es)))
    | none => .bad)
  | some (some (.brw k ds)), ρ, i => (match f ds with
    | some es => .ok () (ρ.set i (some (.brw k es)))
    | none => .bad)
  | _, _, _ => .bad
theorem updL_ap {i : Nat} {f : List PyData → Option (List PyData)} {ρ : Rho} : updL i f ρ = uv f ρ[i]? ρ i := by
  unfold updL uv
  generalize ρ[i]? = o
  rcases o with _ | _ | _ | _ | _ <;> rfl
theorem uv_own {f : List PyData → Option (List PyData)} {ds es : List PyData} {ρ : Rho} {i : Nat} (h : f ds = some es) : uv f (some (some (.own ds))) ρ i = .ok () (ρ.set i (some (.own es))) := by
  unfold uv; simp only [h]
theorem uv_brw {f : List PyData → Option (List PyData)} {ds es : List PyData} {ρ : Rho} {i k : Nat} (h : f ds = some es) : uv f (some (some (.brw k ds))) ρ i = .ok () (ρ.set i (some (.brw k es))) := by
  unfold uv; simp only [h]
theorem setAt_int {j : Int} {n : Nat} {d : PyData} {ds : List PyData} (h : j = n) (hl : n < ds.length) : setAt (.int j) d ds = some (ds.set n d) := by
  subst h
  show (ixN ds.length (n : Int)).map (fun n => ds.set n d) = _
  unfold ixN
  rw [if_pos (by omega), if_pos (by omega)]
  rfl
def retOf : Out → Option Rv
  | .ret r _ => some r
  | _ => none
def nxOf : Out → Bool
  | .nx _ => true
  | _ => false
theorem retOf_ret {r : Rv} {ρ : Rho} : retOf (.ret r ρ) = some r := rfl
theorem nxOf_nx {ρ : Rho} : nxOf (.nx ρ) = true := rfl
theorem run_e {n : Nat} {body : SM} {ds : List PyData} {r : Rv} (h : retOf (body (initR n (ds.map Ag.v))) = some r) : runFn n body (ds.map Ag.v) = .ok r [] := by
  cases e : body (initR n (ds.map Ag.v)) with
  | ret r' ρ => rw [e] at h; cases h; exact run_v e
  | _ => rw [e] at h; cases h
theorem run_n {n : Nat} {body : SM} {ds : List PyData} (h : nxOf (body (initR n (ds.map Ag.v))) = true) : runFn n body (ds.map Ag.v) = .ok (.val .none) [] := by
  cases e : body (initR n (ds.map Ag.v)) with
  | nx ρ => exact run_nx e
  | _ => rw [e] at h; cases h
/-! ### comprehensions -/
theorem compL_fm {α : Type} {t : Tg} {tt : M Bool} {me : M Rv} {vs : List Nat} {ρw : Rho} (g out : α → PyData) (tst : α → Bool) : ∀ (xs : List α) (acc : List PyData),
    (∀ x ∈ xs, ∃ ρ1, t.set (g x) ρw = some ρ1 ∧ ((tst x = true ∧ ∃ ρ2 r ρ3, tt ρ1 = .ok true ρ2 ∧ me ρ2 = .ok r ρ3 ∧ r.d = out x ∧ rwipe ρ3 vs = ρw) ∨ (tst x = false ∧ ∃ ρ2, tt ρ1 = .ok false ρ2 ∧ rwipe ρ2 vs = ρw))) →
    compL t tt me vs (xs.map g) acc ρw = some (acc ++ (xs.filter tst).map out, ρw)
  | [], acc, _ => by simp [compL]
  | x :: xs, acc, h => by
    obtain ⟨ρ1, e1, h1⟩ := h x (by simp)
    have ih := fun acc => compL_fm g out tst xs acc fun y hy => h y (List.mem_cons_of_mem _ hy)
    rw [List.map_cons]
    unfold compL
    simp only [e1]
    rcases h1 with ⟨ht, ρ2, r, ρ3, e2, e3, e4, e5⟩ | ⟨ht, ρ2, e2, e5⟩
    · simp only [e2, e3, e4, e5]
      rw [ih, List.filter_cons, if_pos ht, List.map_cons, List.append_assoc]
      rfl
    · simp only [e2, e5]
      rw [ih, List.filter_cons, if_neg (by rw [ht]; decide)]
theorem compB_fm {α : Type} {t : Tg} {tt : M Bool} {me : M Rv} {vs : List Nat} {ρ : Rho} (g out : α → PyData) (tst : α → Bool) (xs : List α) (hl : xs.length ≤ 100000) (hr : restR ρ (rwipe ρ vs) vs = ρ)
    (h : ∀ x ∈ xs, ∃ ρ1, t.set (g x) (rwipe ρ vs) = some ρ1 ∧ ((tst x = true ∧ ∃ ρ2 r ρ3, tt ρ1 = .ok true ρ2 ∧ me ρ2 = .ok r ρ3 ∧ r.d = out x ∧ rwipe ρ3 vs = rwipe ρ vs) ∨ (tst x = false ∧ ∃ ρ2, tt ρ1 = .ok false ρ2 ∧ rwipe ρ2 vs = rwipe ρ vs))) :
    compB t tt me vs (xs.map g) ρ = .ok (.new ((xs.filter tst).map out)) ρ := by
  have := compL_fm g out tst xs [] h
  rw [List.nil_append] at this
  rw [compB_ok (by rw [List.length_map]; exact hl) this, hr]
theorem compB_map {α : Type} {t : Tg} {me : M Rv} {vs : List Nat} {ρ : Rho} (g out : α → PyData) (xs : List α) (hl : xs.length ≤ 100000) (hr : restR ρ (rwipe ρ vs) vs = ρ)
    (h : ∀ x ∈ xs, ∃ ρ1, t.set (g x) (rwipe ρ vs) = some ρ1 ∧ ∃ r ρ3, me ρ1 = .ok r ρ3 ∧ r.d = out x ∧ rwipe ρ3 vs = rwipe ρ vs) :
    compB t (M.pure true) me vs (xs.map g) ρ = .ok (.new (xs.map out)) ρ := by
  have := compB_fm (tt := M.pure true) g out (fun _ => true) xs hl hr fun x hx => by
    obtain ⟨ρ1, e1, r, ρ3, e2, e3, e4⟩ := h x hx
    exact ⟨ρ1, e1, .inl ⟨rfl, ρ1, r, ρ3, rfl, e2, e3, e4⟩⟩
  rwa [List.filter_eq_self.mpr fun _ _ => rfl] at this
/-! ### one list by reference, ahead -/
def finR (r : FR) (ρ : Rho) (i : Nat) (w : List PyData → Sl) : Res Rv := match r with
  | .ok r [o] => .ok r (ρ.set i (some (w o)))
  | .exc c d [o] => .exc c d (ρ.set i (some (w o)))
  | _ => .bad
theorem finR_ok {r : Rv} {o : List PyData} {ρ : Rho} {i : Nat} {w : List PyData → Sl} : finR (.ok r [o]) ρ i w = .ok r (ρ.set i (some (w o))) := rfl
def cR (f : Fn) : Option (Option Sl) → Rho → Nat → List Ag → Res Rv
  | some (some (.own ds)), ρ, i, as => finR (f (.r ds :: as)) ρ i .own
  | some (some (.brw k ds)), ρ, i, as => finR (f (.r ds :: as)) ρ i (.brw k)
  | _, _, _, _ => .bad
theorem cR_own {f : Fn} {ds : List PyData} {ρ : Rho} {i : Nat} {as : List Ag} : cR f (some (some (.own ds))) ρ i as = finR (f (.r ds :: as)) ρ i .own := rfl
theorem cR_brw {f : Fn} {k : Nat} {ds : List PyData} {ρ : Rho} {i : Nat} {as : List Ag} : cR f (some (some (.brw k ds))) ρ i as = finR (f (.r ds :: as)) ρ i (.brw k) := rfl
theorem callB_r (n : Nat) (f : Fn) (i : Nat) (es : List PyData) (ρ : Rho) (h : es.length + 1 = n) : callB n f (.s i :: es.map AE.v) ρ = cR f ρ[i]? ρ i (es.map Ag.v) := by
  have hl : slotsOf (.s i :: es.map AE.v) = [i] := by
    show i :: slotsOf (es.map AE.v) = _
    rw [slots_v]
  have e : ((AE.s i :: es.map AE.v).length == n && nodupB [i]) = true := by subst h; simp [nodupB]
  have out : ∀ (s : Sl) (r : FR) (w : List PyData → Sl), ρ[i]? = some (some s) → (∀ o, s.put o = w o) → (match r with
      | .ok r outs => bif outs.length == ([i] : List Nat).length then Res.ok r (setOuts [i] outs ρ) else .bad
      | .exc c d outs => bif outs.length == ([i] : List Nat).length then Res.exc c d (setOuts [i] outs ρ) else .bad
      | .bad => .bad) = finR r ρ i w := fun s r w hs hw => by
    cases r with
    | bad => rfl
    | ok r outs =>
      match outs with
      | [] => rfl
      | [o] =>
        show Res.ok r (setOuts [i] [o] ρ) = Res.ok r (ρ.set i (some (w o)))
        unfold setOuts
        simp only [hs]
        unfold setOuts
        rw [hw]
      | o :: o' :: os => rfl
    | exc c d outs =>
      match outs with
      | [] => rfl
      | [o] =>
        show Res.exc c d (setOuts [i] [o] ρ) = Res.exc c d (ρ.set i (some (w o)))
        unfold setOuts
        simp only [hs]
        unfold setOuts
        rw [hw]
      | o :: o' :: os => rfl
  unfold callB
  rw [hl]
  cases hρ : ρ[i]? with
  | none =>
    have : resolve ρ (.s i :: es.map AE.v) = none := by unfold resolve; simp only [hρ]
    rw [this]; rfl
  | some o =>
    cases o with
    | none =>
      have : resolve ρ (.s i :: es.map AE.v) = none := by unfold resolve; simp only [hρ]
      rw [this]; rfl
    | some s =>
      cases s with
      | val d =>
        have : resolve ρ (.s i :: es.map AE.v) = none := by unfold resolve; simp only [hρ]
        rw [this]; rfl
      | own ds =>
        have : resolve ρ (.s i :: es.map AE.v) = some (.r ds :: es.map Ag.v) := by unfold resolve; simp only [hρ, resolve_v]; rfl
        rw [this]
        simp only [e, cond_true]
        exact out (.own ds) (f (.r ds :: es.map Ag.v)) .own hρ fun _ => rfl
      | brw k ds =>
        have : resolve ρ (.s i :: es.map AE.v) = some (.r ds :: es.map Ag.v) := by unfold resolve; simp only [hρ, resolve_v]; rfl
        rw [this]
        simp only [e, cond_true]
        exact out (.brw k ds) (f (.r ds :: es.map Ag.v)) (.brw k) hρ fun _ => rfl
theorem callR1 {f : Fn} {i : Nat} {ρ : Rho} : callB 1 f [.s i] ρ = cR f ρ[i]? ρ i [] := callB_r 1 f i [] ρ rfl
theorem callR2 {f : Fn} {i : Nat} {a} {ρ : Rho} : callB 2 f [.s i, .v a] ρ = cR f ρ[i]? ρ i [.v a] := callB_r 2 f i [a] ρ rfl
theorem callR3 {f : Fn} {i : Nat} {a b} {ρ : Rho} : callB 3 f [.s i, .v a, .v b] ρ = cR f ρ[i]? ρ i [.v a, .v b] := callB_r 3 f i [a, b] ρ rfl
theorem callR4 {f : Fn} {i : Nat} {a b c} {ρ : Rho} : callB 4 f [.s i, .v a, .v b, .v c] ρ = cR f ρ[i]? ρ i [.v a, .v b, .v c] := callB_r 4 f i [a, b, c] ρ rfl
def retR : Out → Option (Rv × List PyData)
  | .ret r (some (.brw 0 ds) :: _) => some (r, ds)
  | _ => none
theorem retR_ret {r : Rv} {ds : List PyData} {ρ : Rho} : retR (.ret r (some (.brw 0 ds) :: ρ)) = some (r, ds) := rfl
theorem run_r {n : Nat} {body : SM} {pot o : List PyData} {ds : List PyData} {r : Rv} (h : retR (body (initR n (.r pot :: ds.map Ag.v))) = some (r, o)) : runFn n body (.r pot :: ds.map Ag.v) = .ok r [o] := by
  have oe : ∀ (k : Nat) (ds : List PyData) (ρ : Rho), outsR k (ds.map Ag.v) ρ = some [] := fun k ds ρ => by
    induction ds generalizing k with
    | nil => rfl
    | cons d ds ih => exact ih (k + 1)
  unfold runFn
  cases e : body (initR n (.r pot :: ds.map Ag.v)) with
  | ret r' ρ =>
    rw [e] at h
    unfold retR at h
    split at h
    · rename_i r2 d2 ρ2 e2
      cases e2
      cases h
      show endR _ _ _ = _
      unfold endR outsR
      simp only [List.getElem?_cons_zero, oe, beq_self_eq_true, cond_true, Option.map_some]
    · cases h
  | _ => rw [e] at h; cases h
end Fx

set_option linter.all false
namespace PM
/-! ### polynomials as lists of ints, modulo p -/
def cf (a : List Int) (n : Nat) : Int := a.getD n 0
theorem cf_nil (n : Nat) : cf [] n = 0 := by simp [cf]
theorem cf_zero (x : Int) (a : List Int) : cf (x :: a) 0 = x := by simp [cf]
theorem cf_succ (x : Int) (a : List Int) (n : Nat) : cf (x :: a) (n + 1) = cf a n := by simp [cf]
def addL : List Int → List Int → List Int
  | [], b => b
  | a, [] => a
  | x :: a, y :: b => (x + y) :: addL a b
theorem cf_add : ∀ (a b : List Int) (n : Nat), cf (addL a b) n = cf a n + cf b n
  | [], b, n => by simp [addL, cf_nil]
  | x :: a, [], n => by simp [addL, cf_nil]
  | x :: a, y :: b, 0 => by simp [addL, cf_zero]
  | x :: a, y :: b, n + 1 => by simp [addL, cf_succ, cf_add a b n]
def smul (c : Int) (a : List Int) : List Int := a.map (c * ·)
theorem cf_smul (c : Int) : ∀ (a : List Int) (n : Nat), cf (smul c a) n = c * cf a n
  | [], n => by simp [smul, cf_nil]
  | x :: a, 0 => by simp [smul, cf_zero]
  | x :: a, n + 1 => by
    have := cf_smul c a n
    simp only [smul, List.map_cons, cf_succ] at this ⊢
    exact this
def mulL : List Int → List Int → List Int
  | [], _ => []
  | x :: a, b => addL (smul x b) (0 :: mulL a b)
theorem cf_mul_zero (x : Int) (a b : List Int) : cf (mulL (x :: a) b) 0 = x * cf b 0 := by simp [mulL, cf_add, cf_smul, cf_zero]
theorem cf_mul_succ (x : Int) (a b : List Int) (n : Nat) : cf (mulL (x :: a) b) (n + 1) = x * cf b (n + 1) + cf (mulL a b) n := by simp [mulL, cf_add, cf_smul, cf_succ]
/-! equality of all coefficients, and modulo p -/
def Cg (p : Int) (a b : List Int) : Prop := ∀ n, p ∣ cf a n - cf b n
theorem Cg.refl {p : Int} (a : List Int) : Cg p a a := fun n => by simp
theorem Cg.symm {p : Int} {a b : List Int} (h : Cg p a b) : Cg p b a := fun n => by
  have := Int.dvd_neg.mpr (h n)
  have e : -(cf a n - cf b n) = cf b n - cf a n := by omega
  rwa [e] at this
theorem Cg.trans {p : Int} {a b c : List Int} (h : Cg p a b) (k : Cg p b c) : Cg p a c := fun n => by
  have := Int.dvd_add (h n) (k n)
  have e : cf a n - cf b n + (cf b n - cf c n) = cf a n - cf c n := by omega
  rwa [e] at this
theorem Cg.of {p : Int} {a b : List Int} (h : ∀ n, cf a n = cf b n) : Cg p a b := fun n => by rw [h n]; simp
@[reducible] def st (p : Int) : Setoid (List Int) := ⟨Cg p, ⟨Cg.refl, Cg.symm, Cg.trans⟩⟩
theorem Cg.add {p : Int} {a b c d : List Int} (h : Cg p a b) (k : Cg p c d) : Cg p (addL a c) (addL b d) := fun n => by
  rw [cf_add, cf_add]
  have := Int.dvd_add (h n) (k n)
  have e : cf a n - cf b n + (cf c n - cf d n) = cf a n + cf c n - (cf b n + cf d n) := by omega
  rwa [e] at this
theorem Cg.smul {p : Int} {a b : List Int} {c : Int} (h : Cg p a b) : Cg p (smul c a) (smul c b) := fun n => by
  rw [cf_smul, cf_smul, ← Int.mul_sub]
  exact Int.dvd_mul_of_dvd_right (h n)
theorem Cg.cons {p : Int} {a b : List Int} {x y : Int} (h : Cg p a b) (k : p ∣ x - y) : Cg p (x :: a) (y :: b) := fun n => by
  cases n with
  | zero => simpa [cf_zero] using k
  | succ n => simpa [cf_succ] using h n
theorem mul_congr_right {p : Int} : ∀ (a : List Int) {b c : List Int}, Cg p b c → Cg p (mulL a b) (mulL a c)
  | [], _, _, _ => Cg.refl _
  | x :: a, _, _, h => by
    unfold mulL
    exact (Cg.smul h).add ((mul_congr_right a h).cons (by simp))
/-- commutative, by coefficients -/
theorem cf_mul_nil : ∀ (a : List Int) (n : Nat), cf (mulL a []) n = 0
  | [], n => by simp [mulL, cf_nil]
  | x :: a, 0 => by rw [cf_mul_zero]; simp [cf_nil]
  | x :: a, n + 1 => by rw [cf_mul_succ, cf_mul_nil a n]; simp [cf_nil]
theorem cf_mul_cons (y : Int) : ∀ (a b : List Int) (n : Nat), cf (mulL a (y :: b)) n = y * cf a n + cf (0 :: mulL a b) n
  | [], b, n => by cases n <;> simp [mulL, cf_nil, cf_zero, cf_succ]
  | x :: a, b, 0 => by rw [cf_mul_zero, cf_zero, cf_zero, cf_zero, Int.mul_comm]; simp
  | x :: a, b, n + 1 => by
    rw [cf_mul_succ, cf_succ, cf_mul_cons y a b n, cf_succ, cf_succ]
    cases n with
    | zero => rw [cf_zero, cf_mul_zero]; omega
    | succ n => rw [cf_succ, cf_mul_succ]; omega
theorem cf_mul_comm : ∀ (a b : List Int) (n : Nat), cf (mulL a b) n = cf (mulL b a) n
  | [], b, n => by rw [cf_mul_nil]; simp [mulL, cf_nil]
  | x :: a, b, n => by
    rw [cf_mul_cons]
    show cf (addL (smul x b) (0 :: mulL a b)) n = _
    rw [cf_add, cf_smul]
    cases n with
    | zero => rw [cf_zero, cf_zero]
    | succ n => rw [cf_succ, cf_succ, cf_mul_comm a b n]
theorem mul_congr {p : Int} {a b c d : List Int} (h : Cg p a b) (k : Cg p c d) : Cg p (mulL a c) (mulL b d) :=
  (mul_congr_right a k).trans ((Cg.of (cf_mul_comm a d)).trans ((mul_congr_right d h).trans (Cg.of (cf_mul_comm d b))))
theorem cf_mul_add : ∀ (a b c : List Int) (n : Nat), cf (mulL a (addL b c)) n = cf (mulL a b) n + cf (mulL a c) n
  | [], b, c, n => by simp [mulL, cf_nil]
  | x :: a, b, c, 0 => by rw [cf_mul_zero, cf_mul_zero, cf_mul_zero, cf_add, Int.mul_add]
  | x :: a, b, c, n + 1 => by rw [cf_mul_succ, cf_mul_succ, cf_mul_succ, cf_add, Int.mul_add, cf_mul_add a b c n]; omega
theorem cf_add_mul (a b c : List Int) (n : Nat) : cf (mulL (addL a b) c) n = cf (mulL a c) n + cf (mulL b c) n := by
  rw [cf_mul_comm, cf_mul_add, cf_mul_comm c a, cf_mul_comm c b]
theorem cf_smul_mul (k : Int) : ∀ (a b : List Int) (n : Nat), cf (mulL (smul k a) b) n = k * cf (mulL a b) n
  | [], b, n => by simp [mulL, smul, cf_nil]
  | x :: a, b, 0 => by
    show cf (mulL ((k * x) :: smul k a) b) 0 = _
    rw [cf_mul_zero, cf_mul_zero, Int.mul_assoc]
  | x :: a, b, n + 1 => by
    show cf (mulL ((k * x) :: smul k a) b) (n + 1) = _
    rw [cf_mul_succ, cf_mul_succ, cf_smul_mul k a b n, Int.mul_add, Int.mul_assoc]
theorem cf_shift_mul (a b : List Int) (n : Nat) : cf (mulL (0 :: a) b) n = cf (0 :: mulL a b) n := by
  cases n with
  | zero => rw [cf_mul_zero, cf_zero]; simp
  | succ n => rw [cf_mul_succ, cf_succ]; simp
theorem cf_mul_assoc : ∀ (a b c : List Int) (n : Nat), cf (mulL (mulL a b) c) n = cf (mulL a (mulL b c)) n
  | [], b, c, n => by simp [mulL, cf_nil]
  | x :: a, b, c, n => by
    show cf (mulL (addL (smul x b) (0 :: mulL a b)) c) n = cf (addL (smul x (mulL b c)) (0 :: mulL a (mulL b c))) n
    rw [cf_add_mul, cf_smul_mul, cf_shift_mul, cf_add, cf_smul]
    cases n with
    | zero => rw [cf_zero, cf_zero]
    | succ n => rw [cf_succ, cf_succ, cf_mul_assoc a b c n]
theorem cf_mul_one (a : List Int) (n : Nat) : cf (mulL a [1]) n = cf a n := by
  rw [cf_mul_comm]
  unfold mulL mulL
  rw [cf_add, cf_smul]
  cases n with
  | zero => rw [cf_zero]; omega
  | succ n => rw [cf_succ, cf_nil]; omega
/-! ### the ring -/
def R (p : Int) : Type := Quotient (st p)
variable {p : Int}
def mk (p : Int) (a : List Int) : R p := Quotient.mk (st p) a
theorem mk_eq {a b : List Int} : mk p a = mk p b ↔ Cg p a b := ⟨fun h => Quotient.exact h, fun h => Quotient.sound h⟩
theorem mk_of {a b : List Int} (h : ∀ n, cf a n = cf b n) : mk p a = mk p b := mk_eq.mpr (Cg.of h)
theorem R.ind {q : R p → Prop} (h : ∀ a, q (mk p a)) (x : R p) : q x := Quotient.ind h x
def R.add (x y : R p) : R p := Quotient.liftOn₂ x y (fun a b => mk p (addL a b)) fun _ _ _ _ h k => Quotient.sound (Cg.add h k)
def R.mul (x y : R p) : R p := Quotient.liftOn₂ x y (fun a b => mk p (mulL a b)) fun _ _ _ _ h k => Quotient.sound (mul_congr h k)
def R.neg (x : R p) : R p := Quotient.liftOn x (fun a => mk p (smul (-1) a)) fun _ _ h => Quotient.sound (Cg.smul h)
def R.ofInt (i : Int) : R p := mk p [i]
def R.pow (x : R p) : Nat → R p
  | 0 => R.ofInt 1
  | n + 1 => (R.pow x n).mul x
theorem mk_add (a b : List Int) : (mk p a).add (mk p b) = mk p (addL a b) := rfl
theorem mk_mul (a b : List Int) : (mk p a).mul (mk p b) = mk p (mulL a b) := rfl
theorem mk_neg (a : List Int) : (mk p a).neg = mk p (smul (-1) a) := rfl
theorem ofInt_add (i j : Int) : (R.ofInt i : R p).add (R.ofInt j) = R.ofInt (i + j) := rfl
instance : Add (R p) := ⟨R.add⟩
instance : Mul (R p) := ⟨R.mul⟩
instance : Neg (R p) := ⟨R.neg⟩
instance : Sub (R p) := ⟨fun x y => x + -y⟩
instance : NatCast (R p) := ⟨fun n => R.ofInt n⟩
instance : IntCast (R p) := ⟨fun n => R.ofInt n⟩
instance (n : Nat) : OfNat (R p) n := ⟨R.ofInt n⟩
instance : SMul Nat (R p) := ⟨fun n x => (n : R p) * x⟩
instance : SMul Int (R p) := ⟨fun n x => (n : R p) * x⟩
instance : HPow (R p) Nat (R p) := ⟨R.pow⟩
theorem add_mk (a b : List Int) : mk p a + mk p b = mk p (addL a b) := rfl
theorem mul_mk (a b : List Int) : mk p a * mk p b = mk p (mulL a b) := rfl
theorem neg_mk (a : List Int) : -mk p a = mk p (smul (-1) a) := rfl
theorem cf_one (i : Int) (n : Nat) : cf [i] n = if n = 0 then i else 0 := by cases n <;> simp [cf_zero, cf_succ, cf_nil]
theorem cf_mul_int (i : Int) (a : List Int) (n : Nat) : cf (mulL [i] a) n = i * cf a n := by
  unfold mulL mulL
  rw [cf_add, cf_smul]
  cases n with
  | zero => rw [cf_zero]; omega
  | succ n => rw [cf_succ, cf_nil]; omega
theorem R.ex (x : R p) : ∃ a, x = mk p a := by
  obtain ⟨a, h⟩ := Quotient.exists_rep x
  exact ⟨a, h.symm⟩
theorem R.mul_comm (a b : R p) : a * b = b * a := by
  obtain ⟨a, rfl⟩ := a.ex
  obtain ⟨b, rfl⟩ := b.ex
  exact mk_of fun n => cf_mul_comm a b n
theorem R.mul_one (a : R p) : a * 1 = a := by
  obtain ⟨a, rfl⟩ := a.ex
  exact mk_of fun n => cf_mul_one a n
theorem R.left_distrib (a b c : R p) : a * (b + c) = a * b + a * c := by
  obtain ⟨a, rfl⟩ := a.ex
  obtain ⟨b, rfl⟩ := b.ex
  obtain ⟨c, rfl⟩ := c.ex
  exact mk_of fun n => by rw [cf_mul_add, cf_add]
theorem R.zero_mul (a : R p) : 0 * a = 0 := by
  obtain ⟨a, rfl⟩ := a.ex
  refine mk_of fun n => ?_
  have := cf_mul_int 0 a n
  rw [show ((0 : Nat) : Int) = 0 from rfl, this, cf_one]
  split <;> simp
instance instCR : Lean.Grind.CommRing (R p) where
  nsmul := inferInstance
  zsmul := inferInstance
  npow := inferInstance
  add_zero := R.ind fun a => mk_of fun n => by rw [cf_add, cf_one]; split <;> simp
  add_comm := R.ind fun a => R.ind fun b => mk_of fun n => by rw [cf_add, cf_add]; omega
  add_assoc := R.ind fun a => R.ind fun b => R.ind fun c => mk_of fun n => by simp only [cf_add]; omega
  mul_assoc := R.ind fun a => R.ind fun b => R.ind fun c => mk_of fun n => cf_mul_assoc a b c n
  mul_one := R.mul_one
  one_mul := fun a => by rw [R.mul_comm, R.mul_one]
  mul_comm := R.mul_comm
  left_distrib := R.left_distrib
  right_distrib := fun a b c => by rw [R.mul_comm, R.left_distrib, R.mul_comm c, R.mul_comm c]
  zero_mul := R.zero_mul
  mul_zero := fun a => by rw [R.mul_comm, R.zero_mul]
  pow_zero := fun a => rfl
  pow_succ := fun a n => rfl
  ofNat_succ := fun n => by
    show R.ofInt _ = R.add (R.ofInt _) (R.ofInt _)
    rw [ofInt_add]; congr 1
  ofNat_eq_natCast := fun n => rfl
  nsmul_eq_natCast_mul := fun n a => rfl
  neg_add_cancel := R.ind fun a => mk_of fun n => by rw [cf_add, cf_smul, cf_one]; split <;> omega
  sub_eq_add_neg := fun a b => rfl
  neg_zsmul := fun i => R.ind fun a => mk_of fun n => by rw [cf_mul_int, cf_smul, cf_mul_int]; simp [Int.neg_mul]
  zsmul_natCast_eq_nsmul := fun n a => rfl
  intCast_ofNat := fun n => rfl
  intCast_neg := fun i => mk_of fun n => by rw [cf_smul, cf_one, cf_one]; split <;> omega
/-! ### reduced lists, trimmed lists -/
def Rd (p : Int) (a : List Int) : Prop := ∀ x ∈ a, 0 ≤ x ∧ x < p
def trim : List Int → List Int
  | [] => []
  | x :: a => if trim a = [] then (if x = 0 then [] else [x]) else x :: trim a
theorem cf_trim : ∀ (a : List Int) (n : Nat), cf (trim a) n = cf a n
  | [], n => rfl
  | x :: a, n => by
    unfold trim
    split
    · rename_i h
      have z : ∀ m, cf a m = 0 := fun m => by rw [← cf_trim a m, h, cf_nil]
      split
      · rename_i h2
        subst h2
        cases n with
        | zero => rw [cf_nil, cf_zero]
        | succ n => rw [cf_nil, cf_succ, z]
      · cases n with
        | zero => rw [cf_zero, cf_zero]
        | succ n => rw [cf_succ, cf_succ, cf_nil, z]
    · cases n with
      | zero => rw [cf_zero, cf_zero]
      | succ n => rw [cf_succ, cf_succ, cf_trim a n]
theorem trim_zero : ∀ (a : List Int), (∀ n, cf a n = 0) → trim a = []
  | [], _ => rfl
  | x :: a, h => by
    have h0 : x = 0 := by have := h 0; rwa [cf_zero] at this
    unfold trim
    rw [trim_zero a fun n => by have := h (n + 1); rwa [cf_succ] at this]
    simp [h0]
theorem trim_ext : ∀ (a b : List Int), (∀ n, cf a n = cf b n) → trim a = trim b
  | [], b, h => by rw [trim_zero b fun n => by rw [← h n, cf_nil]]; rfl
  | x :: a, [], h => by rw [trim_zero (x :: a) fun n => by rw [h n, cf_nil]]; rfl
  | x :: a, y :: b, h => by
    have h0 : x = y := by have := h 0; rwa [cf_zero, cf_zero] at this
    have ht := trim_ext a b fun n => by have := h (n + 1); rwa [cf_succ, cf_succ] at this
    unfold trim
    rw [ht, h0]
theorem trim_trim (a : List Int) : trim (trim a) = trim a := trim_ext _ _ (cf_trim a)
theorem trim_len : ∀ a : List Int, (trim a).length ≤ a.length
  | [] => Nat.le_refl _
  | x :: a => by
    have := trim_len a
    unfold trim
    split
    · split <;> simp
    · simp only [List.length_cons]; omega
theorem trim_mem : ∀ (a : List Int) (x : Int), x ∈ trim a → x ∈ a
  | [], _, h => h
  | y :: a, x, h => by
    unfold trim at h
    split at h
    · split at h
      · cases h
      · have : x = y := by simpa using h
        simp [this]
    · rcases List.mem_cons.mp h with h | h
      · simp [h]
      · exact List.mem_cons_of_mem _ (trim_mem a x h)
theorem Rd.trim {a : List Int} (h : Rd p a) : Rd p (trim a) := fun x hx => h x (trim_mem a x hx)
structure Can (p : Int) (a : List Int) : Prop where
  rd : Rd p a
  tr : trim a = a
theorem Can.of {a : List Int} (h : Rd p a) : Can p (trim a) := ⟨h.trim, trim_trim a⟩
theorem can_nil : Can p [] := ⟨fun _ h => (by cases h), rfl⟩
theorem cf_ge {a : List Int} {n : Nat} (h : a.length ≤ n) : cf a n = 0 := by
  unfold cf
  rw [List.getD_eq_getElem?_getD, List.getElem?_eq_none h]
  rfl
theorem cf_rd {a : List Int} (h : Rd p a) (hp : 0 < p) (n : Nat) : 0 ≤ cf a n ∧ cf a n < p := by
  unfold cf
  rw [List.getD_eq_getElem?_getD]
  cases e : a[n]? with
  | none => exact ⟨Int.le_refl _, hp⟩
  | some x => exact h x (List.mem_of_getElem? e)
theorem dvd_small {x : Int} (h : p ∣ x) (h1 : -p < x) (h2 : x < p) : x = 0 := by
  obtain ⟨k, rfl⟩ := h
  have hp : 0 < p := by omega
  rcases Int.lt_trichotomy k 0 with hk | hk | hk
  · have : p * k ≤ p * (-1) := Int.mul_le_mul_of_nonneg_left (by omega) (by omega)
    omega
  · rw [hk]; simp
  · have : p * 1 ≤ p * k := Int.mul_le_mul_of_nonneg_left (by omega) (by omega)
    omega
theorem can_eq {a b : List Int} (hp : 0 < p) (ha : Can p a) (hb : Can p b) (h : mk p a = mk p b) : a = b := by
  have hc := mk_eq.mp h
  rw [← ha.tr, ← hb.tr]
  refine trim_ext a b fun n => ?_
  have h1 := cf_rd ha.rd hp n
  have h2 := cf_rd hb.rd hp n
  have := dvd_small (hc n) (by omega) (by omega)
  omega
theorem mk_trim (a : List Int) : mk p (trim a) = mk p a := mk_of (cf_trim a)
theorem last_ne : ∀ (a : List Int), trim a = a → a ≠ [] → cf a (a.length - 1) ≠ 0
  | [], _, h => absurd rfl h
  | [x], h, _ => by
    intro z
    have z : x = 0 := z
    subst z
    simp [trim] at h
  | x :: y :: a, h, _ => by
    have h2 : trim (y :: a) = y :: a := by
      unfold trim at h
      split at h
      · split at h <;> simp at h
      · simpa using h
    have := last_ne (y :: a) h2 (by simp)
    show cf (x :: y :: a) (a.length + 1) ≠ 0
    rw [cf_succ]
    simpa using this
/-- a reduced trimmed list is no longer than any that is the same modulo p -/
theorem can_len {a b : List Int} (hp : 0 < p) (ha : Can p a) (h : mk p a = mk p b) : a.length ≤ b.length := by
  refine Nat.le_of_not_lt fun hlt => ?_
  have hne : a ≠ [] := by intro z; subst z; simp at hlt
  have h1 := cf_rd ha.rd hp (a.length - 1)
  have h3 := mk_eq.mp h (a.length - 1)
  rw [cf_ge (a := b) (by omega)] at h3
  have := dvd_small h3 (by omega) (by omega)
  exact last_ne a ha.tr hne (by omega)
theorem can_zero {a : List Int} (hp : 0 < p) (ha : Can p a) (h : mk p a = 0) : a = [] := by
  have h2 : mk p a = mk p [] := h.trans (mk_of fun n => by rw [cf_one, cf_nil]; split <;> rfl)
  exact can_eq hp ha can_nil h2
theorem mk_nil : mk p [] = 0 := mk_of fun n => by rw [cf_one, cf_nil]; split <;> rfl
theorem mk_one : mk p [1] = 1 := rfl
/-! ### lengths -/
theorem addL_len : ∀ a b : List Int, (addL a b).length = max a.length b.length
  | [], b => by simp [addL]
  | x :: a, [] => by simp [addL]
  | x :: a, y :: b => by simp [addL, addL_len a b]
theorem mulL_len : ∀ a b : List Int, (mulL a b).length ≤ a.length + (b.length - 1)
  | [], b => by simp [mulL]
  | x :: a, b => by
    have := mulL_len a b
    simp only [mulL, addL_len, smul, List.length_map, List.length_cons]
    omega
theorem mul_top : ∀ (a b : List Int) (m n : Nat), a.length = m + 1 → b.length ≤ n + 1 → cf (mulL a b) (m + n) = cf a m * cf b n
  | [], _, _, _, h, _ => by simp at h
  | [x], b, m, n, h, _ => by
    have : m = 0 := by simpa using h
    subst this
    rw [Nat.zero_add, cf_mul_int, cf_zero]
  | x :: y :: a, b, m, n, h, hb => by
    cases m with
    | zero => simp at h
    | succ m =>
      have e : m + 1 + n = (m + n) + 1 := by omega
      rw [e, cf_mul_succ, cf_ge (a := b) (by omega), cf_succ, mul_top (y :: a) b m n (by simpa using h) hb]
      omega
/-- a number that has an inverse modulo p -/
def Un (p c : Int) : Prop := ∃ u, p ∣ c * u - 1
/-- THE REST is one alone -/
theorem rest_one {b r s : List Int} {q : R p} (hp : 0 < p) (hb : b ≠ []) (hu : Un p (cf b (b.length - 1))) (hr : r.length < b.length) (hs : s.length < b.length) (h : q * mk p b + mk p r = mk p s) : mk p r = mk p s := by
  obtain ⟨q0, rfl⟩ := q.ex
  -- q by its reduced list
  obtain ⟨d, hd, hdq⟩ : ∃ d, Can p d ∧ mk p d = mk p q0 := by
    refine ⟨trim (q0.map (· % p)), Can.of fun x hx => ?_, ?_⟩
    · obtain ⟨y, _, rfl⟩ := List.mem_map.mp hx
      exact ⟨Int.emod_nonneg _ (by omega), Int.emod_lt_of_pos _ hp⟩
    · rw [mk_trim]
      refine mk_eq.mpr fun n => ?_
      unfold cf
      rw [List.getD_eq_getElem?_getD, List.getD_eq_getElem?_getD, List.getElem?_map]
      cases q0[n]? with
      | none => simp
      | some x =>
        show p ∣ x % p - x
        have := Int.emod_add_mul_ediv x p
        exact ⟨-(x / p), by rw [Int.mul_neg]; omega⟩
  rw [← hdq] at h
  by_cases hz : d = []
  · subst hz
    have e : mk p ([] : List Int) = 0 := mk_nil
    rw [e] at h
    grind
  · exfalso
    have hbl : 0 < b.length := by cases b with | nil => exact absurd rfl hb | cons => simp
    have hdl : 0 < d.length := by cases d with | nil => exact absurd rfl hz | cons => simp
    have h2 : mk p (addL (mulL d b) r) = mk p s := h
    have h3 := mk_eq.mp h2 ((d.length - 1) + (b.length - 1))
    rw [cf_add, mul_top d b _ _ (by omega) (by omega), cf_ge (a := r) (by omega), cf_ge (a := s) (by omega)] at h3
    obtain ⟨u, hu⟩ := hu
    have h4 : p ∣ cf d (d.length - 1) * cf b (b.length - 1) := by simpa using h3
    have h5 : p ∣ cf d (d.length - 1) := by
      have e := Int.dvd_sub (Int.dvd_mul_of_dvd_left (c := u) h4) (Int.dvd_mul_of_dvd_right (b := cf d (d.length - 1)) hu)
      have e2 : cf d (d.length - 1) * cf b (b.length - 1) * u - cf d (d.length - 1) * (cf b (b.length - 1) * u - 1) = cf d (d.length - 1) := by
        rw [Int.mul_sub, Int.mul_assoc]; omega
      rwa [e2] at e
    have b1 := cf_rd hd.rd hp (d.length - 1)
    exact last_ne d hd.tr hz (dvd_small h5 (by omega) (by omega))
/-! ### the loops -/
theorem getD_set (a : List Int) (k n : Nat) (v : Int) : cf (a.set k v) n = if n = k ∧ k < a.length then v else cf a n := by
  unfold cf
  rw [List.getD_eq_getElem?_getD, List.getD_eq_getElem?_getD, List.getElem?_set]
  by_cases h : k = n
  · subst h
    by_cases hl : k < a.length
    · simp [hl]
    · simp [hl, List.getElem?_eq_none (Nat.le_of_not_lt hl)]
  · have : ¬ (n = k ∧ k < a.length) := fun z => h z.1.symm
    simp [h, this]
/-- found[k + j] = (found[k + j] + c * b[j]) % p -/
def addAt (p c : Int) : Nat → List Int → List Int → List Int
  | _, [], f => f
  | k, x :: b, f => addAt p c (k + 1) b (f.set k ((cf f k + c * x) % p))
theorem addAt_len (c : Int) : ∀ (b : List Int) (k : Nat) (f : List Int), (addAt p c k b f).length = f.length
  | [], _, _ => rfl
  | x :: b, k, f => by unfold addAt; rw [addAt_len c b, List.length_set]
theorem cf_addAt (c : Int) : ∀ (b : List Int) (k : Nat) (f : List Int) (n : Nat), k + b.length ≤ f.length → cf (addAt p c k b f) n = if k ≤ n ∧ n < k + b.length then (cf f n + c * cf b (n - k)) % p else cf f n
  | [], k, f, n, h => by
    have : ¬ (k ≤ n ∧ n < k + ([] : List Int).length) := by simp only [List.length_nil]; omega
    rw [if_neg this]; rfl
  | x :: b, k, f, n, h => by
    have hl : (x :: b).length = b.length + 1 := rfl
    unfold addAt
    rw [cf_addAt c b (k + 1) _ n (by rw [List.length_set]; omega), getD_set]
    by_cases h1 : n = k
    · subst h1
      rw [if_neg (by omega), if_pos ⟨rfl, by omega⟩, if_pos ⟨Nat.le_refl _, by omega⟩, Nat.sub_self, cf_zero]
    · rw [if_neg (by omega : ¬ (n = k ∧ k < f.length))]
      by_cases h2 : k + 1 ≤ n ∧ n < k + 1 + b.length
      · rw [if_pos h2, if_pos (by omega)]
        have e : n - k = (n - (k + 1)) + 1 := by omega
        rw [e, cf_succ]
      · rw [if_neg h2, if_neg (by omega)]
theorem addAt_rd (c : Int) (hp : 0 < p) : ∀ (b : List Int) (k : Nat) (f : List Int), Rd p f → Rd p (addAt p c k b f)
  | [], _, _, h => h
  | x :: b, k, f, h => by
    unfold addAt
    refine addAt_rd c hp b _ _ fun y hy => ?_
    rcases List.mem_or_eq_of_mem_set hy with h1 | h1
    · exact h y h1
    · subst h1
      exact ⟨Int.emod_nonneg _ (by omega), Int.emod_lt_of_pos _ hp⟩
/-- c * x ^ k -/
def mono (k : Nat) (c : Int) : List Int := List.replicate k 0 ++ [c]
theorem cf_mono_mul (c : Int) (b : List Int) : ∀ (k n : Nat), cf (mulL (mono k c) b) n = if k ≤ n then c * cf b (n - k) else 0
  | 0, n => by
    show cf (mulL [c] b) n = _
    rw [cf_mul_int, if_pos (Nat.zero_le _), Nat.sub_zero]
  | k + 1, n => by
    show cf (mulL (0 :: mono k c) b) n = _
    rw [cf_shift_mul]
    cases n with
    | zero => rw [cf_zero, if_neg (by omega)]
    | succ n =>
      rw [cf_succ, cf_mono_mul c b k n]
      by_cases h : k ≤ n
      · rw [if_pos h, if_pos (by omega)]; congr 2; omega
      · rw [if_neg h, if_neg (by omega)]
theorem emod_dvd (x : Int) : p ∣ x % p - x := by
  have := Int.emod_add_mul_ediv x p
  exact ⟨-(x / p), by rw [Int.mul_neg]; omega⟩
theorem mk_addAt {c : Int} {b f : List Int} {k : Nat} (h : k + b.length ≤ f.length) : mk p (addAt p c k b f) = mk p f + mk p (mono k c) * mk p b := by
  refine (mk_eq (b := addL f (mulL (mono k c) b))).mpr fun n => ?_
  rw [cf_addAt c b k f n h, cf_add, cf_mono_mul]
  by_cases h1 : k ≤ n ∧ n < k + b.length
  · rw [if_pos h1, if_pos h1.1]
    exact emod_dvd _
  · rw [if_neg h1]
    by_cases h2 : k ≤ n
    · rw [if_pos h2, cf_ge (a := b) (by omega)]
      exact ⟨0, by simp⟩
    · rw [if_neg h2]
      exact ⟨0, by simp⟩
theorem cf_replicate (k n : Nat) : cf (List.replicate k 0) n = 0 := by
  unfold cf
  rw [List.getD_eq_getElem?_getD, List.getElem?_replicate]
  split <;> rfl
theorem mk_zeros (k : Nat) : mk p (List.replicate k 0) = 0 := by
  rw [← mk_nil]
  exact mk_of fun n => by rw [cf_replicate, cf_nil]
theorem cf_pre (a : List Int) : ∀ (k n : Nat), cf (List.replicate k 0 ++ a) n = if k ≤ n then cf a (n - k) else 0
  | 0, n => by simp
  | k + 1, n => by
    rw [List.replicate_succ, List.cons_append]
    cases n with
    | zero => rw [cf_zero, if_neg (by omega)]
    | succ n =>
      rw [cf_succ, cf_pre a k n]
      by_cases h : k ≤ n
      · rw [if_pos h, if_pos (by omega)]; congr 1; omega
      · rw [if_neg h, if_neg (by omega)]
theorem mk_pre_cons (k : Nat) (x : Int) (a : List Int) : mk p (List.replicate k 0 ++ x :: a) = mk p (mono k x) + mk p (List.replicate (k + 1) 0 ++ a) := by
  refine mk_of (b := addL (mono k x) (List.replicate (k + 1) 0 ++ a)) fun n => ?_
  rw [cf_add, cf_pre, cf_pre]
  unfold mono
  rw [cf_pre, cf_one]
  by_cases h : k ≤ n
  · rw [if_pos h, if_pos h]
    by_cases h2 : n = k
    · subst h2
      rw [Nat.sub_self, cf_zero, if_pos rfl, if_neg (by omega)]; omega
    · have e : n - k = (n - (k + 1)) + 1 := by omega
      rw [e, cf_succ, if_neg (by omega), if_pos (by omega)]; omega
  · rw [if_neg h, if_neg h, if_neg (by omega)]; rfl
def mulLoop (p : Int) (b : List Int) : Nat → List Int → List Int → List Int
  | _, [], f => f
  | k, x :: a, f => mulLoop p b (k + 1) a (addAt p x k b f)
theorem mulLoop_ok (hp : 0 < p) (b : List Int) : ∀ (a : List Int) (k : Nat) (f : List Int), Rd p f → (a ≠ [] → k + a.length + b.length ≤ f.length + 1) →
    mk p (mulLoop p b k a f) = mk p f + mk p (List.replicate k 0 ++ a) * mk p b ∧ Rd p (mulLoop p b k a f) ∧ (mulLoop p b k a f).length = f.length
  | [], k, f, hf, _ => by
    refine ⟨?_, hf, rfl⟩
    show mk p f = _
    rw [List.append_nil, mk_zeros]
    grind
  | x :: a, k, f, hf, h => by
    have hl : (x :: a).length = a.length + 1 := rfl
    have h := h (by simp)
    have e := mk_addAt (p := p) (c := x) (b := b) (f := f) (k := k) (by omega)
    obtain ⟨h1, h2, h3⟩ := mulLoop_ok hp b a (k + 1) (addAt p x k b f) (addAt_rd x hp b k f hf) fun _ => by rw [addAt_len]; omega
    refine ⟨?_, h2, by rw [show mulLoop p b k (x :: a) f = mulLoop p b (k + 1) a (addAt p x k b f) from rfl, h3, addAt_len]⟩
    show mk p (mulLoop p b (k + 1) a (addAt p x k b f)) = _
    rw [h1, e, mk_pre_cons]
    grind
def pmul (p : Int) (a b : List Int) : List Int := trim (mulLoop p b 0 a (List.replicate (a.length + b.length - 1) 0))
theorem rd_zeros (hp : 0 < p) (k : Nat) : Rd p (List.replicate k 0) := fun x hx => by
  rw [(List.mem_replicate.mp hx).2]
  exact ⟨Int.le_refl _, hp⟩
theorem pmul_ok (hp : 0 < p) (a b : List Int) : mk p (pmul p a b) = mk p a * mk p b ∧ Can p (pmul p a b) ∧ (pmul p a b).length ≤ a.length + b.length - 1 := by
  obtain ⟨h1, h2, h3⟩ := mulLoop_ok hp b a 0 (List.replicate (a.length + b.length - 1) 0) (rd_zeros hp _) fun _ => by rw [List.length_replicate]; omega
  refine ⟨?_, Can.of h2, Nat.le_trans (trim_len _) (by rw [h3, List.length_replicate]; exact Nat.le_refl _)⟩
  unfold pmul
  rw [mk_trim, h1, mk_zeros]
  show 0 + mk p ([] ++ a) * mk p b = _
  rw [List.nil_append]
  grind
/-! sums -/
def addM (p t : Int) : List Int → List Int → List Int
  | x :: a, y :: b => ((x + t * y) % p) :: addM p t a b
  | _, _ => []
def padTo (n : Nat) (a : List Int) : List Int := a ++ List.replicate (n - a.length) 0
def padd (p t : Int) (a b : List Int) : List Int := trim (addM p t (padTo (max a.length b.length) a) (padTo (max a.length b.length) b))
theorem addM_ok (hp : 0 < p) (t : Int) : ∀ (a b : List Int), a.length = b.length → mk p (addM p t a b) = mk p a + mk p [t] * mk p b ∧ Rd p (addM p t a b) ∧ (addM p t a b).length = a.length
  | [], b, h => by
    have : b = [] := List.eq_nil_of_length_eq_zero h.symm
    subst this
    refine ⟨?_, fun x hx => (by cases hx), rfl⟩
    show mk p [] = _
    rw [mk_nil]
    grind
  | x :: a, [], h => by simp at h
  | x :: a, y :: b, h => by
    obtain ⟨h1, h2, h3⟩ := addM_ok hp t a b (by simpa using h)
    refine ⟨?_, fun z hz => ?_, by show (addM p t a b).length + 1 = a.length + 1; rw [h3]⟩
    · have h1 := mk_eq.mp (show mk p (addM p t a b) = mk p (addL a (mulL [t] b)) from h1)
      refine (mk_eq (b := addL (x :: a) (mulL [t] (y :: b)))).mpr fun n => ?_
      show p ∣ cf (((x + t * y) % p) :: addM p t a b) n - _
      rw [cf_add, cf_mul_int]
      cases n with
      | zero => rw [cf_zero, cf_zero, cf_zero]; exact emod_dvd _
      | succ n =>
        have := h1 n
        rw [cf_add, cf_mul_int] at this
        rw [cf_succ, cf_succ, cf_succ]
        exact this
    · rcases List.mem_cons.mp hz with hz | hz
      · subst hz
        exact ⟨Int.emod_nonneg _ (by omega), Int.emod_lt_of_pos _ hp⟩
      · exact h2 z hz
theorem mk_pad (n : Nat) (a : List Int) : mk p (padTo n a) = mk p a := mk_of fun m => by
  unfold padTo cf
  rw [List.getD_eq_getElem?_getD, List.getD_eq_getElem?_getD]
  by_cases h : m < a.length
  · rw [List.getElem?_append_left h]
  · rw [List.getElem?_append_right (by omega), List.getElem?_eq_none (l := a) (by omega), List.getElem?_replicate]
    split <;> rfl
theorem pad_len {n : Nat} {a : List Int} (h : a.length ≤ n) : (padTo n a).length = n := by
  unfold padTo
  rw [List.length_append, List.length_replicate]
  omega
theorem padd_ok (hp : 0 < p) (t : Int) (a b : List Int) : mk p (padd p t a b) = mk p a + mk p [t] * mk p b ∧ Can p (padd p t a b) ∧ (padd p t a b).length ≤ max a.length b.length := by
  obtain ⟨h1, h2, h3⟩ := addM_ok hp t (padTo (max a.length b.length) a) (padTo (max a.length b.length) b) (by rw [pad_len (by omega), pad_len (by omega)])
  refine ⟨?_, Can.of h2, Nat.le_trans (trim_len _) (by rw [h3, pad_len (by omega)]; exact Nat.le_refl _)⟩
  unfold padd
  rw [mk_trim, h1, mk_pad, mk_pad]
/-! a number times a poly -/
def pscale (p c : Int) (a : List Int) : List Int := trim (a.map fun x => (c * x) % p)
theorem pscale_ok (hp : 0 < p) (c : Int) (a : List Int) : mk p (pscale p c a) = mk p [c] * mk p a ∧ Can p (pscale p c a) ∧ (pscale p c a).length ≤ a.length := by
  refine ⟨?_, Can.of fun z hz => ?_, Nat.le_trans (trim_len _) (by simp)⟩
  · unfold pscale
    rw [mk_trim]
    refine (mk_eq (b := mulL [c] a)).mpr fun n => ?_
    rw [cf_mul_int]
    unfold cf
    rw [List.getD_eq_getElem?_getD, List.getD_eq_getElem?_getD, List.getElem?_map]
    cases a[n]? with
    | none => exact ⟨0, by simp⟩
    | some x => exact emod_dvd _
  · obtain ⟨y, _, rfl⟩ := List.mem_map.mp hz
    exact ⟨Int.emod_nonneg _ (by omega), Int.emod_lt_of_pos _ hp⟩
/-! division -/
/-- rest[k + j] = (rest[k + j] - c * b[j]) % p -/
def subAt (p c : Int) : Nat → List Int → List Int → List Int
  | _, [], f => f
  | k, x :: b, f => subAt p c (k + 1) b (f.set k ((cf f k - c * x) % p))
theorem subAt_eq (c : Int) : ∀ (b : List Int) (k : Nat) (f : List Int), subAt p c k b f = addAt p (-c) k b f
  | [], _, _ => rfl
  | x :: b, k, f => by
    unfold subAt addAt
    rw [subAt_eq c b, Int.neg_mul, Int.sub_eq_add_neg]
def divLoop (p u : Int) (b : List Int) : Nat → List Int × List Int → List Int × List Int
  | 0, fr => fr
  | k + 1, fr => divLoop p u b k (fr.1.set k ((cf fr.2 (k + b.length - 1) * u) % p), subAt p ((cf fr.2 (k + b.length - 1) * u) % p) k b fr.2)
theorem mono_neg (k : Nat) (c : Int) : mk p (mono k (-c)) = - mk p (mono k c) := by
  refine mk_of (b := smul (-1) (mono k c)) fun n => ?_
  rw [cf_smul]
  unfold mono
  rw [cf_pre, cf_pre, cf_one, cf_one]
  split
  · split <;> omega
  · rfl
theorem mk_set {f : List Int} {k : Nat} {v : Int} (hk : k < f.length) (h0 : cf f k = 0) : mk p (f.set k v) = mk p f + mk p (mono k v) := by
  refine mk_of (b := addL f (mono k v)) fun n => ?_
  rw [getD_set, cf_add]
  unfold mono
  rw [cf_pre, cf_one]
  by_cases h : n = k
  · subst h
    rw [if_pos ⟨rfl, hk⟩, if_pos (Nat.le_refl _), if_pos (Nat.sub_self _), h0]; omega
  · rw [if_neg fun z => h z.1]
    by_cases h2 : k ≤ n
    · rw [if_pos h2, if_neg (by omega)]; omega
    · rw [if_neg h2]; omega
theorem divLoop_ok (hp : 0 < p) {u : Int} {b : List Int} (hb : b ≠ []) (hu : p ∣ cf b (b.length - 1) * u - 1) : ∀ (k : Nat) (f r : List Int), Rd p f → Rd p r → k ≤ f.length → (k = 0 ∨ k + b.length ≤ r.length + 1) → (∀ n, n < k → cf f n = 0) → (∀ n, k + b.length - 1 ≤ n → cf r n = 0) →
    ∀ q s, divLoop p u b k (f, r) = (q, s) → mk p q * mk p b + mk p s = mk p f * mk p b + mk p r ∧ Rd p q ∧ Rd p s ∧ q.length = f.length ∧ s.length = r.length ∧ ∀ n, b.length - 1 ≤ n → cf s n = 0
  | 0, f, r, hf, hr, _, _, _, hz, q, s, e => by
    cases e
    exact ⟨rfl, hf, hr, rfl, rfl, fun n hn => hz n (by omega)⟩
  | k + 1, f, r, hf, hr, hk, hkr, hf0, hz, q, s, e => by
    have hbl : 0 < b.length := by cases b with | nil => exact absurd rfl hb | cons => simp
    have hkr : k + 1 + b.length ≤ r.length + 1 := by rcases hkr with h | h <;> omega
    unfold divLoop at e
    generalize hc : (cf r (k + b.length - 1) * u) % p = c at e
    have hc0 : 0 ≤ c ∧ c < p := by rw [← hc]; exact ⟨Int.emod_nonneg _ (by omega), Int.emod_lt_of_pos _ hp⟩
    have es := subAt_eq (p := p) c b k r
    have hcf := cf_addAt (p := p) (-c) b k r
    have hm := mk_addAt (p := p) (c := -c) (b := b) (f := r) (k := k) (by omega)
    have ih := divLoop_ok hp hb hu k (f.set k c) (subAt p c k b r) (fun y hy => by
        rcases List.mem_or_eq_of_mem_set hy with h1 | h1
        · exact hf y h1
        · subst h1; exact hc0) (by rw [es]; exact addAt_rd _ hp b k r hr) (by rw [List.length_set]; omega) (.inr (by rw [es, addAt_len]; omega))
      (fun n hn => by rw [getD_set, if_neg (by omega)]; exact hf0 n (by omega))
      (fun n hn => by
        rw [es, hcf n (by omega)]
        by_cases h1 : n = k + b.length - 1
        · rw [if_pos (by omega), h1]
          have e1 : k + b.length - 1 - k = b.length - 1 := by omega
          rw [e1]
          -- r + -c * lead, c = r * u mod p
          have d1 := emod_dvd (p := p) (cf r (k + b.length - 1) * u)
          rw [hc] at d1
          have d2 := Int.dvd_mul_of_dvd_left (c := cf b (b.length - 1)) d1
          have d3 := Int.dvd_mul_of_dvd_right (b := cf r (k + b.length - 1)) hu
          have d4 := Int.dvd_neg.mpr (Int.dvd_add d2 d3)
          apply Int.emod_eq_zero_of_dvd
          have e2 : -((c - cf r (k + b.length - 1) * u) * cf b (b.length - 1) + cf r (k + b.length - 1) * (cf b (b.length - 1) * u - 1)) = cf r (k + b.length - 1) + -c * cf b (b.length - 1) := by
            rw [Int.sub_mul, Int.mul_sub, Int.neg_mul, Int.mul_assoc, Int.mul_comm u]; omega
          rwa [e2] at d4
        · rw [if_neg (by omega)]
          exact hz n (by omega)) q s e
    obtain ⟨i1, i2, i3, i4, i5, i6⟩ := ih
    refine ⟨?_, i2, i3, by rw [i4, List.length_set], by rw [i5, es, addAt_len], i6⟩
    rw [i1, es, hm, mono_neg, mk_set (by omega) (hf0 k (by omega))]
    grind
def pdiv (p u : Int) (a b : List Int) : List Int × List Int := (trim (divLoop p u b (a.length + 1 - b.length) (List.replicate (a.length + 1 - b.length) 0, a)).1, trim (divLoop p u b (a.length + 1 - b.length) (List.replicate (a.length + 1 - b.length) 0, a)).2)
theorem trim_le {a : List Int} {n : Nat} (h : ∀ m, n ≤ m → cf a m = 0) : (trim a).length ≤ n := by
  refine Nat.le_of_not_lt fun hl => ?_
  have hne : trim a ≠ [] := by intro z; rw [z] at hl; simp at hl
  have := last_ne (trim a) (trim_trim a) hne
  rw [cf_trim, h _ (by omega)] at this
  exact this rfl
theorem pdiv_ok (hp : 0 < p) {u : Int} {a b : List Int} (ha : Rd p a) (hb : b ≠ []) (hu : p ∣ cf b (b.length - 1) * u - 1) :
    mk p (pdiv p u a b).1 * mk p b + mk p (pdiv p u a b).2 = mk p a ∧ Can p (pdiv p u a b).1 ∧ Can p (pdiv p u a b).2 ∧ (pdiv p u a b).2.length < b.length ∧ (pdiv p u a b).1.length ≤ a.length + 1 - b.length := by
  have hbl : 0 < b.length := by cases b with | nil => exact absurd rfl hb | cons => simp
  obtain ⟨h1, h2, h3, h4, h5, h6⟩ := divLoop_ok hp hb hu (a.length + 1 - b.length) (List.replicate (a.length + 1 - b.length) 0) a (rd_zeros hp _) ha (by rw [List.length_replicate]; omega) (by omega) (fun n _ => cf_replicate _ _) (fun n hn => cf_ge (by omega)) _ _ rfl
  unfold pdiv
  refine ⟨?_, Can.of h2, Can.of h3, ?_, ?_⟩
  · rw [mk_trim, mk_trim]
    rw [mk_zeros] at h1
    rw [h1]
    grind
  · have := trim_le (n := b.length - 1) h6
    show (trim _).length < b.length
    omega
  · have := trim_len (divLoop p u b (a.length + 1 - b.length) (List.replicate (a.length + 1 - b.length) 0, a)).1
    show (trim _).length ≤ _
    rw [h4, List.length_replicate] at this
    exact this
end PM

set_option Elab.async false
set_option linter.all false
set_option maxRecDepth 100000
set_option maxHeartbeats 2000000
namespace K01
open PySem PySem.Spec PyProof.Rows L2 RZ Fx
def top (i : Nat) : Stmt := PySem.Challenge.pw_linearmapsaid_k01_whole_greatest_common.main.body.getD i (.Pass ⟨0, 0, 0, 0⟩)
variable {P : Program} {w : World} {K : PySem.W.Frag} {mg : Str → Option Value} {base : Heap}
def k_FIELDS : PyData := .tuple [.int 2, .int 3, .int 5]
def k_MOST_DEGREE : PyData := .int 60
def k_GREATEST_MANY : PyData := .int 999999999
structure Facts (K : PySem.W.Frag) (mg : Str → Option Value) : Prop where
  f_abs : mg "abs" = none
  f_all : mg "all" = none
  f_bool : mg "bool" = none
  f_enumerate : mg "enumerate" = none
  f_int : mg "int" = none
  f_isinstance : mg "isinstance" = none
  f_len : mg "len" = none
  f_list : mg "list" = none
  f_max : mg "max" = none
  f_min : mg "min" = none
  f_range : mg "range" = none
  f_repr : mg "repr" = none
  f_sum : mg "sum" = none
  f_tuple : mg "tuple" = none
  f_zip : mg "zip" = none
  c_FIELDS : GC K mg "FIELDS" k_FIELDS
  c_MOST_DEGREE : GC K mg "MOST_DEGREE" k_MOST_DEGREE
  c_GREATEST_MANY : GC K mg "GREATEST_MANY" k_GREATEST_MANY
  d_is_integer : Df K mg "is_integer" (top 10) ["value"]
  d_is_between : Df K mg "is_between" (top 11) ["value", "low", "high"]
  d_check_field : Df K mg "check_field" (top 12) ["value"]
  d_are_numbers : Df K mg "are_numbers" (top 13) ["field", "value"]
  d_is_poly_of : Df K mg "is_poly_of" (top 14) ["field", "value", "most"]
  d_cut : Df K mg "cut" (top 15) ["numbers"]
  d_inverse_number : Df K mg "inverse_number" (top 16) ["field", "number"]
  d_add_polys : Df K mg "add_polys" (top 17) ["field", "one", "other"]
  d_scaled : Df K mg "scaled" (top 18) ["field", "poly", "number"]
  d_take_polys : Df K mg "take_polys" (top 19) ["field", "one", "other"]
  d_mul_polys : Df K mg "mul_polys" (top 20) ["field", "one", "other"]
  d_div_polys : Df K mg "div_polys" (top 21) ["field", "one", "other"]
  d_rest_of : Df K mg "rest_of" (top 22) ["field", "one", "other"]
  d_monic : Df K mg "monic" (top 23) ["field", "poly"]
  d_common_of : Df K mg "common_of" (top 24) ["field", "one", "other"]
  d_divisor_of : Df K mg "divisor_of" (top 25) ["field", "one", "other"]
  d_power_modulo : Df K mg "power_modulo" (top 26) ["field", "poly", "many", "modulus"]
  d_check_poly : Df K mg "check_poly" (top 29) ["field", "value"]
  d_check_two : Df K mg "check_two" (top 30) ["field", "one", "other"]
  d_times : Df K mg "times" (top 31) ["field", "one", "other"]
  d_divided : Df K mg "divided" (top 32) ["field", "one", "other"]
  d_common : Df K mg "common" (top 33) ["field", "one", "other"]
  d_shows_common : Df K mg "shows_common" (top 34) ["field", "one", "other", "value"]
  d_power_rest : Df K mg "power_rest" (top 35) ["field", "poly", "many", "modulus"]
  d__law_pot : Df K mg "_law_pot" (top 37) ["script", "place"]
  d__law_take : Df K mg "_law_take" (top 38) ["pot", "upto"]
  d__law_of : Df K mg "_law_of" (top 39) ["pot", "some"]
  d__law_cells : Df K mg "_law_cells" (top 40) ["script", "limit"]
  d__law_trim : Df K mg "_law_trim" (top 41) ["some"]
  d__law_sum : Df K mg "_law_sum" (top 42) ["field", "one", "other", "times_other"]
  d__law_mul : Df K mg "_law_mul" (top 43) ["field", "one", "other"]
  d__law_inverse_of : Df K mg "_law_inverse_of" (top 44) ["field", "number"]
  d__law_divide : Df K mg "_law_divide" (top 45) ["field", "one", "other"]
  d__law_monic : Df K mg "_law_monic" (top 46) ["field", "poly"]
  d__law_gcd : Df K mg "_law_gcd" (top 47) ["field", "one", "other"]
  d__law_field : Df K mg "_law_field" (top 48) ["pot"]
  d__law_poly : Df K mg "_law_poly" (top 49) ["pot", "field", "most"]
  d__law_all_monic : Df K mg "_law_all_monic" (top 50) ["field", "degree"]
  d__law_power_rest : Df K mg "_law_power_rest" (top 51) ["field", "poly", "many", "modulus"]
  d__law_makes : Df K mg "_law_makes" (top 52) ["field", "one", "other", "value"]
  d__law_right : Df K mg "_law_right" (top 53) ["pot"]
  d_law : Df K mg "law" (top 54) ["script"]
def b_is_integer : SM := retS (M.andV (M.bind (peek 0) fun d => M.lift (isInstO "int" d)) (M.ofBool (M.not (M.bind (M.bind (peek 0) fun d => M.lift (isInstO "bool" d)) asB))))
def f_is_integer : Fn := runFn 1 b_is_integer
theorem ok_is_integer (G : Facts K mg) : Cal P w K mg base 1 "is_integer" 1 f_is_integer := by
  have S : FnScope ["value"] ["value"] (defScope (top 10)) := C8.fnScope_by (by decide +kernel)
  refine cal_of (body := b_is_integer) G.d_is_integer S (by decide) fun f cdv A outer s H E C hr hgd => ?_
  have tk := takes_of (X := cxOf (L2.CX P w) P w K mg base ["value"] "is_integer" (defScope (top 10)) f cdv A outer s H E) rfl rfl rfl rfl
  have po : PassesOwn (model P w) (cxOf (L2.CX P w) P w K mg base ["value"] "is_integer" (defScope (top 10)) f cdv A outer s H E).A (cxOf (L2.CX P w) P w K mg base ["value"] "is_integer" (defScope (top 10)) f cdv A outer s H E).env (cxOf (L2.CX P w) P w K mg base ["value"] "is_integer" (defScope (top 10)) f cdv A outer s H E).xe := passes_of rfl
  exact gss_one (gs_ret (ge_and (ge_isinst G.f_isinstance G.f_int (by decide +kernel) (gb_name (i := 0) rfl)) (ge_one (ge_not (ge_isinst G.f_isinstance G.f_bool (by decide +kernel) (gb_name (i := 0) rfl))))))
def b_is_between : SM := retS (M.andV (M.bind (M.consV (var 0) (M.pure [])) (callB 1 f_is_integer)) (M.chain leO leO (var 1) (var 0) (var 2)))
def f_is_between : Fn := runFn 3 b_is_between
theorem ok_is_between (G : Facts K mg) : Cal P w K mg base 2 "is_between" 3 f_is_between := by
  have S : FnScope ["value", "low", "high"] ["value", "low", "high"] (defScope (top 11)) := C8.fnScope_by (by decide +kernel)
  refine cal_of (body := b_is_between) G.d_is_between S (by decide) fun f cdv A outer s H E C hr hgd => ?_
  have tk := takes_of (X := cxOf (L2.CX P w) P w K mg base ["value", "low", "high"] "is_between" (defScope (top 11)) f cdv A outer s H E) rfl rfl rfl rfl
  have po : PassesOwn (model P w) (cxOf (L2.CX P w) P w K mg base ["value", "low", "high"] "is_between" (defScope (top 11)) f cdv A outer s H E).A (cxOf (L2.CX P w) P w K mg base ["value", "low", "high"] "is_between" (defScope (top 11)) f cdv A outer s H E).env (cxOf (L2.CX P w) P w K mg base ["value", "low", "high"] "is_between" (defScope (top 11)) f cdv A outer s H E).xe := passes_of rfl
  exact gss_one (gs_ret (ge_and (ge_call (ok_is_integer G) tk hr hgd (gr_val (ge_var (i := 0) rfl) (gr_nil))) (ge_one (ge_chain op_le pureLe op_le pureLe (ge_var (i := 1) rfl) (ge_var (i := 0) rfl) (ge_var (i := 2) rfl)))))
def b_check_field : SM := ifS (M.or (M.not (M.truth (M.ofB (M.bind (M.consV (var 0) (M.pure [])) (callB 1 f_is_integer))))) (M.bind (E2 notInO (var 0) (M.ofB (M.pure (.val k_FIELDS)))) asB)) (neverS) (nextS)
def f_check_field : Fn := runFn 1 b_check_field
theorem ok_check_field (G : Facts K mg) : Cal P w K mg base 2 "check_field" 1 f_check_field := by
  have S : FnScope ["value"] ["value"] (defScope (top 12)) := C8.fnScope_by (by decide +kernel)
  refine cal_of (body := b_check_field) G.d_check_field S (by decide) fun f cdv A outer s H E C hr hgd => ?_
  have tk := takes_of (X := cxOf (L2.CX P w) P w K mg base ["value"] "check_field" (defScope (top 12)) f cdv A outer s H E) rfl rfl rfl rfl
  have po : PassesOwn (model P w) (cxOf (L2.CX P w) P w K mg base ["value"] "check_field" (defScope (top 12)) f cdv A outer s H E).A (cxOf (L2.CX P w) P w K mg base ["value"] "check_field" (defScope (top 12)) f cdv A outer s H E).env (cxOf (L2.CX P w) P w K mg base ["value"] "check_field" (defScope (top 12)) f cdv A outer s H E).xe := passes_of rfl
  exact gss_one (gs_if (gt_w (gw_or (gt_not (gt_val (gb_of (ge_call (ok_is_integer G) tk hr hgd (gr_val (ge_var (i := 0) rfl) (gr_nil)))))) (gw_or1 (gt_cmp (opNotIn hr) pureNotIn (ge_var (i := 0) rfl) (gb_of (ge_gc G.c_FIELDS)))))) (gss_one (gs_never)) (gss_nil))
def b_are_numbers : SM := retS (M.andV (M.bind (peek 1) fun d => M.lift (isInstO "tuple" d)) (M.bind (M.ofB (M.bind (M.bindD (var 1) itemsB) (compB (.nm 2) (M.pure true) (M.bind (M.consV (var 2) (M.consV (M.pure (.val (.int 0))) (M.consV (E2 subO (var 0) (M.ofB (M.pure (.val (.int 1))))) (M.pure [])))) (callB 3 f_is_between)) [2]))) fun d => M.lift (allO d)))
def f_are_numbers : Fn := runFn 3 b_are_numbers
theorem ok_are_numbers (G : Facts K mg) : Cal P w K mg base 3 "are_numbers" 2 f_are_numbers := by
  have S : FnScope ["field", "value", "number"] ["field", "value"] (defScope (top 13)) := C8.fnScope_by (by decide +kernel)
  refine cal_of (body := b_are_numbers) G.d_are_numbers S (by decide) fun f cdv A outer s H E C hr hgd => ?_
  have tk := takes_of (X := cxOf (L2.CX P w) P w K mg base ["field", "value", "number"] "are_numbers" (defScope (top 13)) f cdv A outer s H E) rfl rfl rfl rfl
  have po : PassesOwn (model P w) (cxOf (L2.CX P w) P w K mg base ["field", "value", "number"] "are_numbers" (defScope (top 13)) f cdv A outer s H E).A (cxOf (L2.CX P w) P w K mg base ["field", "value", "number"] "are_numbers" (defScope (top 13)) f cdv A outer s H E).env (cxOf (L2.CX P w) P w K mg base ["field", "value", "number"] "are_numbers" (defScope (top 13)) f cdv A outer s H E).xe := passes_of rfl
  exact gss_one (gs_ret (ge_and (ge_isinst G.f_isinstance G.f_tuple (by decide +kernel) (gb_name (i := 1) rfl)) (ge_one (ge_b1 (cr_all rfl) pure_all G.f_all (by decide +kernel) (gb_of (ge_lc (own := [("number", 2)]) rfl S.nd (gi_seq (ge_var (i := 1) rfl)) (blkOk_by (N := ["field", "value", "number"]) (sc := defScope (top 13)) (by decide +kernel)) (fun C _ _ _ _ _ => gg_name (i := 2) (S.nd) rfl) (fun C _ _ _ _ _ => gts_nil) (fun C _ _ _ _ _ => ge_call (ok_is_between G) takes0 hr hgd (gr_val (ge_var (i := 2) rfl) (gr_val (ge_int) (gr_val (ge_op opSub pureSub (ge_var (i := 0) rfl) (gb_of (ge_int))) (gr_nil)))))))))))
def b_is_poly_of : SM := retS (M.andV (M.bind (M.consV (var 0) (M.consV (var 1) (M.pure []))) (callB 2 f_are_numbers)) (M.andV (E2 leO (M.bind (peek 1) fun d => M.lift (lenO d)) (M.ofB (E2 addO (var 2) (M.ofB (M.pure (.val (.int 1))))))) (M.orV (E2 eqO (var 1) (M.ofB (M.bind (M.pure []) fun ds => M.lift (tupO ds)))) (E2 neO (IxN 1 (M.bind (M.ofB (M.pure (.val (.int 1)))) fun d => M.lift (negO d))) (M.ofB (M.pure (.val (.int 0))))))))
def f_is_poly_of : Fn := runFn 3 b_is_poly_of
theorem ok_is_poly_of (G : Facts K mg) : Cal P w K mg base 4 "is_poly_of" 3 f_is_poly_of := by
  have S : FnScope ["field", "value", "most"] ["field", "value", "most"] (defScope (top 14)) := C8.fnScope_by (by decide +kernel)
  refine cal_of (body := b_is_poly_of) G.d_is_poly_of S (by decide) fun f cdv A outer s H E C hr hgd => ?_
  have tk := takes_of (X := cxOf (L2.CX P w) P w K mg base ["field", "value", "most"] "is_poly_of" (defScope (top 14)) f cdv A outer s H E) rfl rfl rfl rfl
  have po : PassesOwn (model P w) (cxOf (L2.CX P w) P w K mg base ["field", "value", "most"] "is_poly_of" (defScope (top 14)) f cdv A outer s H E).A (cxOf (L2.CX P w) P w K mg base ["field", "value", "most"] "is_poly_of" (defScope (top 14)) f cdv A outer s H E).env (cxOf (L2.CX P w) P w K mg base ["field", "value", "most"] "is_poly_of" (defScope (top 14)) f cdv A outer s H E).xe := passes_of rfl
  exact gss_one (gs_ret (ge_and (ge_call (ok_are_numbers G) tk hr hgd (gr_val (ge_var (i := 0) rfl) (gr_val (ge_var (i := 1) rfl) (gr_nil)))) (ge_and (ge_cmp op_le pureLe (ge_b1 call_len pure_len G.f_len (by decide +kernel) (gb_name (i := 1) rfl)) (gb_of (ge_op opAdd pureAdd (ge_var (i := 2) rfl) (gb_of (ge_int))))) (ge_one (ge_or (ge_cmp (opEqD hr) pureEq (ge_var (i := 1) rfl) (gb_of (ge_tup (ga_nil)))) (ge_one (ge_cmp (opNeD hr) pureNe (ge_ixN (i := 1) rfl (ge_neg (gb_of (ge_int)))) (gb_of (ge_int)))))))))
def b_cut : SM := seqS (asgS 1 (M.bind (peek 0) fun d => M.lift (lenO d))) (seqS (whS FUEL (M.and (M.bind (E2 gtO (var 1) (M.ofB (M.pure (.val (.int 0))))) asB) (M.bind (E2 eqO (IxN 0 (E2 subO (var 1) (M.ofB (M.pure (.val (.int 1)))))) (M.ofB (M.pure (.val (.int 0))))) asB)) (asgS 1 (E2 subO (var 1) (M.ofB (M.pure (.val (.int 1))))))) (retS (M.bind (M.ofB (SlN 0 (M.pure none) (M.part (var 1)))) fun d => M.lift (tupleO d))))
def f_cut : Fn := runFn 2 b_cut
theorem ok_cut (G : Facts K mg) : Cal P w K mg base 1 "cut" 1 f_cut := by
  have S : FnScope ["numbers", "last"] ["numbers"] (defScope (top 15)) := C8.fnScope_by (by decide +kernel)
  refine cal_of (body := b_cut) G.d_cut S (by decide) fun f cdv A outer s H E C hr hgd => ?_
  have tk := takes_of (X := cxOf (L2.CX P w) P w K mg base ["numbers", "last"] "cut" (defScope (top 15)) f cdv A outer s H E) rfl rfl rfl rfl
  have po : PassesOwn (model P w) (cxOf (L2.CX P w) P w K mg base ["numbers", "last"] "cut" (defScope (top 15)) f cdv A outer s H E).A (cxOf (L2.CX P w) P w K mg base ["numbers", "last"] "cut" (defScope (top 15)) f cdv A outer s H E).env (cxOf (L2.CX P w) P w K mg base ["numbers", "last"] "cut" (defScope (top 15)) f cdv A outer s H E).xe := passes_of rfl
  exact gss_cons (gs_set (i := 1) S.nd rfl (ge_b1 call_len pure_len G.f_len (by decide +kernel) (gb_name (i := 0) rfl))) (gss_cons (gs_while po (gt_w (gw_and (gt_cmp op_gt pureGt (ge_var (i := 1) rfl) (gb_of (ge_int))) (gw_and1 (gt_cmp (opEqD hr) pureEq (ge_ixN (i := 0) rfl (ge_op opSub pureSub (ge_var (i := 1) rfl) (gb_of (ge_int)))) (gb_of (ge_int)))))) (gss_one (gs_set (i := 1) S.nd rfl (ge_op opSub pureSub (ge_var (i := 1) rfl) (gb_of (ge_int)))))) (gss_one (gs_ret (ge_t1 call_tuple_of pure_tuple G.f_tuple (by decide +kernel) (gb_of (ge_slN (i := 0) rfl (go_none) (go_some (ge_var (i := 1) rfl))))))))
def b_inverse_number : SM := retS (E2 getO (M.bind (M.bind (M.cons (M.pure (.val (.int 1))) (M.cons (var 0) (M.pure []))) rng2) (compB (.nm 2) (M.bind (E2 eqO (E2 modO (E2 mulO (var 2) (peek 1)) (peek 0)) (M.ofB (M.pure (.val (.int 1))))) asB) (var 2) [2])) (M.ofB (M.pure (.val (.int 0)))))
def f_inverse_number : Fn := runFn 3 b_inverse_number
theorem ok_inverse_number (G : Facts K mg) : Cal P w K mg base 1 "inverse_number" 2 f_inverse_number := by
  have S : FnScope ["field", "number", "one"] ["field", "number"] (defScope (top 16)) := C8.fnScope_by (by decide +kernel)
  refine cal_of (body := b_inverse_number) G.d_inverse_number S (by decide) fun f cdv A outer s H E C hr hgd => ?_
  have tk := takes_of (X := cxOf (L2.CX P w) P w K mg base ["field", "number", "one"] "inverse_number" (defScope (top 16)) f cdv A outer s H E) rfl rfl rfl rfl
  have po : PassesOwn (model P w) (cxOf (L2.CX P w) P w K mg base ["field", "number", "one"] "inverse_number" (defScope (top 16)) f cdv A outer s H E).A (cxOf (L2.CX P w) P w K mg base ["field", "number", "one"] "inverse_number" (defScope (top 16)) f cdv A outer s H E).env (cxOf (L2.CX P w) P w K mg base ["field", "number", "one"] "inverse_number" (defScope (top 16)) f cdv A outer s H E).xe := passes_of rfl
  exact gss_one (gs_ret (ge_ix (ge_lc (own := [("one", 2)]) rfl S.nd (gi_range2 G.f_range (ga_cons (ge_int) (ga_cons (ge_var (i := 0) rfl) (ga_nil)))) (blkOk_by (N := ["field", "number", "one"]) (sc := defScope (top 16)) (by decide +kernel)) (fun C _ _ _ _ _ => gg_name (i := 2) (S.nd) rfl) (fun C _ _ _ _ _ => gts_one (gt_cmp (opEqD hr) pureEq (ge_op opMod pureMod (ge_op opMul pureMul (ge_var (i := 2) rfl) (gb_name (i := 1) rfl)) (gb_name (i := 0) rfl)) (gb_of (ge_int)))) (fun C _ _ _ _ _ => ge_var (i := 2) rfl)) (gb_of (ge_int))))
def b_add_polys : SM := seqS (asgS 3 (M.bind (M.cons (M.bind (peek 1) fun d => M.lift (lenO d)) (M.cons (M.bind (peek 2) fun d => M.lift (lenO d)) (M.pure []))) fun ds => M.lift (max2O ds))) (seqS (par2 4 5 (E2 addO (M.bind (peek 1) fun d => M.lift (listO d)) (M.ofB (E2 mulO (M.bind (M.cons (M.pure (.val (.int 0))) (M.pure [])) fun ds => M.lift (lstO ds)) (M.ofB (E2 subO (var 3) (M.ofB (M.bind (peek 1) fun d => M.lift (lenO d)))))))) (E2 addO (M.bind (peek 2) fun d => M.lift (listO d)) (M.ofB (E2 mulO (M.bind (M.cons (M.pure (.val (.int 0))) (M.pure [])) fun ds => M.lift (lstO ds)) (M.ofB (E2 subO (var 3) (M.ofB (M.bind (peek 2) fun d => M.lift (lenO d))))))))) (retS (M.bind (M.consV (M.bind (M.bind (M.cons (var 4) (M.cons (var 5) (M.pure []))) zipB) (compB (.tp [6, 7]) (M.pure true) (E2 modO (E2 addO (var 6) (peek 7)) (peek 0)) [6, 7])) (M.pure [])) (callB 1 f_cut))))
def f_add_polys : Fn := runFn 8 b_add_polys
theorem ok_add_polys (G : Facts K mg) : Cal P w K mg base 2 "add_polys" 3 f_add_polys := by
  have S : FnScope ["field", "one", "other", "many", "wide", "there", "here", "its"] ["field", "one", "other"] (defScope (top 17)) := C8.fnScope_by (by decide +kernel)
  refine cal_of (body := b_add_polys) G.d_add_polys S (by decide) fun f cdv A outer s H E C hr hgd => ?_
  have tk := takes_of (X := cxOf (L2.CX P w) P w K mg base ["field", "one", "other", "many", "wide", "there", "here", "its"] "add_polys" (defScope (top 17)) f cdv A outer s H E) rfl rfl rfl rfl
  have po : PassesOwn (model P w) (cxOf (L2.CX P w) P w K mg base ["field", "one", "other", "many", "wide", "there", "here", "its"] "add_polys" (defScope (top 17)) f cdv A outer s H E).A (cxOf (L2.CX P w) P w K mg base ["field", "one", "other", "many", "wide", "there", "here", "its"] "add_polys" (defScope (top 17)) f cdv A outer s H E).env (cxOf (L2.CX P w) P w K mg base ["field", "one", "other", "many", "wide", "there", "here", "its"] "add_polys" (defScope (top 17)) f cdv A outer s H E).xe := passes_of rfl
  exact gss_cons (gs_set (i := 3) S.nd rfl (ge_bn (call_max2 rfl) pure_max2 G.f_max (by decide +kernel) (ga_cons (ge_b1 call_len pure_len G.f_len (by decide +kernel) (gb_name (i := 1) rfl)) (ga_cons (ge_b1 call_len pure_len G.f_len (by decide +kernel) (gb_name (i := 2) rfl)) (ga_nil))))) (gss_cons (gs_par (i := 4) (j := 5) rfl S.nd rfl rfl (by decide) (ge_op opAdd pureAdd (ge_t1 call_list_of pure_list G.f_list (by decide +kernel) (gb_name (i := 1) rfl)) (gb_of (ge_op opMul pureMul (ge_lst (ga_cons (ge_int) (ga_nil))) (gb_of (ge_op opSub pureSub (ge_var (i := 3) rfl) (gb_of (ge_b1 call_len pure_len G.f_len (by decide +kernel) (gb_name (i := 1) rfl)))))))) (fun C => ge_op opAdd pureAdd (ge_t1 call_list_of pure_list G.f_list (by decide +kernel) (gb_name (i := 2) rfl)) (gb_of (ge_op opMul pureMul (ge_lst (ga_cons (ge_int) (ga_nil))) (gb_of (ge_op opSub pureSub (ge_var (i := 3) rfl) (gb_of (ge_b1 call_len pure_len G.f_len (by decide +kernel) (gb_name (i := 2) rfl))))))))) (gss_one (gs_ret (ge_call (ok_cut G) tk hr hgd (gr_val (ge_lc (own := [("here", 6), ("its", 7)]) rfl S.nd (gi_zip G.f_zip (ga_cons (ge_var (i := 4) rfl) (ga_cons (ge_var (i := 5) rfl) (ga_nil)))) (blkOk_by (N := ["field", "one", "other", "many", "wide", "there", "here", "its"]) (sc := defScope (top 17)) (by decide +kernel)) (fun C _ _ _ _ _ => gg_tup rfl (ggs_cons (i := 6) S.nd rfl (ggs_cons (i := 7) S.nd rfl (ggs_nil)))) (fun C _ _ _ _ _ => gts_nil) (fun C _ _ _ _ _ => ge_op opMod pureMod (ge_op opAdd pureAdd (ge_var (i := 6) rfl) (gb_name (i := 7) rfl)) (gb_name (i := 0) rfl))) (gr_nil))))))
def b_scaled : SM := retS (M.bind (M.consV (M.bind (M.bindD (var 1) itemsB) (compB (.nm 3) (M.pure true) (E2 modO (E2 mulO (var 2) (peek 3)) (peek 0)) [3])) (M.pure [])) (callB 1 f_cut))
def f_scaled : Fn := runFn 4 b_scaled
theorem ok_scaled (G : Facts K mg) : Cal P w K mg base 2 "scaled" 3 f_scaled := by
  have S : FnScope ["field", "poly", "number", "its"] ["field", "poly", "number"] (defScope (top 18)) := C8.fnScope_by (by decide +kernel)
  refine cal_of (body := b_scaled) G.d_scaled S (by decide) fun f cdv A outer s H E C hr hgd => ?_
  have tk := takes_of (X := cxOf (L2.CX P w) P w K mg base ["field", "poly", "number", "its"] "scaled" (defScope (top 18)) f cdv A outer s H E) rfl rfl rfl rfl
  have po : PassesOwn (model P w) (cxOf (L2.CX P w) P w K mg base ["field", "poly", "number", "its"] "scaled" (defScope (top 18)) f cdv A outer s H E).A (cxOf (L2.CX P w) P w K mg base ["field", "poly", "number", "its"] "scaled" (defScope (top 18)) f cdv A outer s H E).env (cxOf (L2.CX P w) P w K mg base ["field", "poly", "number", "its"] "scaled" (defScope (top 18)) f cdv A outer s H E).xe := passes_of rfl
  exact gss_one (gs_ret (ge_call (ok_cut G) tk hr hgd (gr_val (ge_lc (own := [("its", 3)]) rfl S.nd (gi_seq (ge_var (i := 1) rfl)) (blkOk_by (N := ["field", "poly", "number", "its"]) (sc := defScope (top 18)) (by decide +kernel)) (fun C _ _ _ _ _ => gg_name (i := 3) (S.nd) rfl) (fun C _ _ _ _ _ => gts_nil) (fun C _ _ _ _ _ => ge_op opMod pureMod (ge_op opMul pureMul (ge_var (i := 2) rfl) (gb_name (i := 3) rfl)) (gb_name (i := 0) rfl))) (gr_nil))))
def b_take_polys : SM := retS (M.bind (M.consV (var 0) (M.consV (var 1) (M.consV (M.bind (M.consV (var 0) (M.consV (var 2) (M.consV (E2 subO (var 0) (M.ofB (M.pure (.val (.int 1))))) (M.pure [])))) (callB 3 f_scaled)) (M.pure [])))) (callB 3 f_add_polys))
def f_take_polys : Fn := runFn 3 b_take_polys
theorem ok_take_polys (G : Facts K mg) : Cal P w K mg base 3 "take_polys" 3 f_take_polys := by
  have S : FnScope ["field", "one", "other"] ["field", "one", "other"] (defScope (top 19)) := C8.fnScope_by (by decide +kernel)
  refine cal_of (body := b_take_polys) G.d_take_polys S (by decide) fun f cdv A outer s H E C hr hgd => ?_
  have tk := takes_of (X := cxOf (L2.CX P w) P w K mg base ["field", "one", "other"] "take_polys" (defScope (top 19)) f cdv A outer s H E) rfl rfl rfl rfl
  have po : PassesOwn (model P w) (cxOf (L2.CX P w) P w K mg base ["field", "one", "other"] "take_polys" (defScope (top 19)) f cdv A outer s H E).A (cxOf (L2.CX P w) P w K mg base ["field", "one", "other"] "take_polys" (defScope (top 19)) f cdv A outer s H E).env (cxOf (L2.CX P w) P w K mg base ["field", "one", "other"] "take_polys" (defScope (top 19)) f cdv A outer s H E).xe := passes_of rfl
  exact gss_one (gs_ret (ge_call (ok_add_polys G) tk hr hgd (gr_val (ge_var (i := 0) rfl) (gr_val (ge_var (i := 1) rfl) (gr_val (ge_call (ok_scaled G) tk hr hgd (gr_val (ge_var (i := 0) rfl) (gr_val (ge_var (i := 2) rfl) (gr_val (ge_op opSub pureSub (ge_var (i := 0) rfl) (gb_of (ge_int))) (gr_nil))))) (gr_nil))))))
def b_mul_polys : SM := seqS (ifS (M.or (M.bind (E2 eqO (var 1) (M.ofB (M.bind (M.pure []) fun ds => M.lift (tupO ds)))) asB) (M.bind (E2 eqO (var 2) (M.ofB (M.bind (M.pure []) fun ds => M.lift (tupO ds)))) asB)) (retS (M.bind (M.pure []) fun ds => M.lift (tupO ds))) (nextS)) (seqS (asgS 3 (E2 mulO (M.bind (M.cons (M.pure (.val (.int 0))) (M.pure [])) fun ds => M.lift (lstO ds)) (M.ofB (E2 subO (E2 addO (M.bind (peek 1) fun d => M.lift (lenO d)) (M.ofB (M.bind (peek 2) fun d => M.lift (lenO d)))) (M.ofB (M.pure (.val (.int 1)))))))) (seqS (forS (M.bind (M.cons (var 1) (M.pure [])) enumB) (.tp [4, 5]) (forS (M.bind (M.cons (var 2) (M.pure [])) enumB) (.tp [6, 7]) (setIx 3 (E2 modO (E2 addO (IxN 3 (E2 addO (var 4) (peek 6))) (M.ofB (E2 mulO (var 5) (peek 7)))) (peek 0)) (E2 addO (var 4) (peek 6))))) (retS (M.bind (M.consV (var 3) (M.pure [])) (callB 1 f_cut)))))
def f_mul_polys : Fn := runFn 8 b_mul_polys
theorem ok_mul_polys (G : Facts K mg) : Cal P w K mg base 2 "mul_polys" 3 f_mul_polys := by
  have S : FnScope ["field", "one", "other", "found", "at", "number", "place", "its"] ["field", "one", "other"] (defScope (top 20)) := C8.fnScope_by (by decide +kernel)
  refine cal_of (body := b_mul_polys) G.d_mul_polys S (by decide) fun f cdv A outer s H E C hr hgd => ?_
  have tk := takes_of (X := cxOf (L2.CX P w) P w K mg base ["field", "one", "other", "found", "at", "number", "place", "its"] "mul_polys" (defScope (top 20)) f cdv A outer s H E) rfl rfl rfl rfl
  have po : PassesOwn (model P w) (cxOf (L2.CX P w) P w K mg base ["field", "one", "other", "found", "at", "number", "place", "its"] "mul_polys" (defScope (top 20)) f cdv A outer s H E).A (cxOf (L2.CX P w) P w K mg base ["field", "one", "other", "found", "at", "number", "place", "its"] "mul_polys" (defScope (top 20)) f cdv A outer s H E).env (cxOf (L2.CX P w) P w K mg base ["field", "one", "other", "found", "at", "number", "place", "its"] "mul_polys" (defScope (top 20)) f cdv A outer s H E).xe := passes_of rfl
  exact gss_cons (gs_if (gt_w (gw_or (gt_cmp (opEqD hr) pureEq (ge_var (i := 1) rfl) (gb_of (ge_tup (ga_nil)))) (gw_or1 (gt_cmp (opEqD hr) pureEq (ge_var (i := 2) rfl) (gb_of (ge_tup (ga_nil))))))) (gss_one (gs_ret (ge_tup (ga_nil)))) (gss_nil)) (gss_cons (gs_set (i := 3) S.nd rfl (ge_op opMul pureMul (ge_lst (ga_cons (ge_int) (ga_nil))) (gb_of (ge_op opSub pureSub (ge_op opAdd pureAdd (ge_b1 call_len pure_len G.f_len (by decide +kernel) (gb_name (i := 1) rfl)) (gb_of (ge_b1 call_len pure_len G.f_len (by decide +kernel) (gb_name (i := 2) rfl)))) (gb_of (ge_int)))))) (gss_cons (gs_for po rfl (gi_enum G.f_enumerate (ga_cons (ge_var (i := 1) rfl) (ga_nil))) (gg_tup rfl (ggs_cons (i := 4) S.nd rfl (ggs_cons (i := 5) S.nd rfl (ggs_nil)))) (gss_one (gs_for po rfl (gi_enum G.f_enumerate (ga_cons (ge_var (i := 2) rfl) (ga_nil))) (gg_tup rfl (ggs_cons (i := 6) S.nd rfl (ggs_cons (i := 7) S.nd rfl (ggs_nil)))) (gss_one (gs_setIx (i := 3) rfl (ge_op opMod pureMod (ge_op opAdd pureAdd (ge_ixN (i := 3) rfl (ge_op opAdd pureAdd (ge_var (i := 4) rfl) (gb_name (i := 6) rfl))) (gb_of (ge_op opMul pureMul (ge_var (i := 5) rfl) (gb_name (i := 7) rfl)))) (gb_name (i := 0) rfl)) (ge_op opAdd pureAdd (ge_var (i := 4) rfl) (gb_name (i := 6) rfl))))))) (gss_one (gs_ret (ge_call (ok_cut G) tk hr hgd (gr_val (ge_var (i := 3) rfl) (gr_nil)))))))
def b_div_polys : SM := seqS (par2 3 4 (M.bind (peek 1) fun d => M.lift (listO d)) (E2 mulO (M.bind (M.cons (M.pure (.val (.int 0))) (M.pure [])) fun ds => M.lift (lstO ds)) (M.ofB (M.bind (M.cons (M.pure (.val (.int 0))) (M.cons (E2 addO (E2 subO (M.bind (peek 1) fun d => M.lift (lenO d)) (M.ofB (M.bind (peek 2) fun d => M.lift (lenO d)))) (M.ofB (M.pure (.val (.int 1))))) (M.pure []))) fun ds => M.lift (max2O ds))))) (seqS (asgS 5 (M.bind (M.consV (var 0) (M.consV (IxN 2 (M.bind (M.ofB (M.pure (.val (.int 1)))) fun d => M.lift (negO d))) (M.pure []))) (callB 2 f_inverse_number))) (seqS (forS (M.bind (M.cons (E2 subO (M.bind (peek 4) fun d => M.lift (lenO d)) (M.ofB (M.pure (.val (.int 1))))) (M.cons (M.bind (M.ofB (M.pure (.val (.int 1)))) fun d => M.lift (negO d)) (M.cons (M.bind (M.ofB (M.pure (.val (.int 1)))) fun d => M.lift (negO d)) (M.pure [])))) rng3) (.nm 6) (seqS (asgS 7 (E2 modO (E2 mulO (IxN 3 (E2 subO (E2 addO (var 6) (M.ofB (M.bind (peek 2) fun d => M.lift (lenO d)))) (M.ofB (M.pure (.val (.int 1)))))) (peek 5)) (peek 0))) (seqS (setIx 4 (var 7) (var 6)) (forS (M.bind (M.cons (var 2) (M.pure [])) enumB) (.tp [8, 9]) (setIx 3 (E2 modO (E2 subO (IxN 3 (E2 addO (var 6) (peek 8))) (M.ofB (E2 mulO (var 7) (peek 9)))) (peek 0)) (E2 addO (var 6) (peek 8))))))) (retS (M.bind (M.cons (M.bind (M.consV (var 4) (M.pure [])) (callB 1 f_cut)) (M.cons (M.bind (M.consV (var 3) (M.pure [])) (callB 1 f_cut)) (M.pure []))) fun ds => M.lift (tupO ds)))))
def f_div_polys : Fn := runFn 10 b_div_polys
theorem ok_div_polys (G : Facts K mg) : Cal P w K mg base 2 "div_polys" 3 f_div_polys := by
  have S : FnScope ["field", "one", "other", "rest", "found", "last", "at", "number", "place", "its"] ["field", "one", "other"] (defScope (top 21)) := C8.fnScope_by (by decide +kernel)
  refine cal_of (body := b_div_polys) G.d_div_polys S (by decide) fun f cdv A outer s H E C hr hgd => ?_
  have tk := takes_of (X := cxOf (L2.CX P w) P w K mg base ["field", "one", "other", "rest", "found", "last", "at", "number", "place", "its"] "div_polys" (defScope (top 21)) f cdv A outer s H E) rfl rfl rfl rfl
  have po : PassesOwn (model P w) (cxOf (L2.CX P w) P w K mg base ["field", "one", "other", "rest", "found", "last", "at", "number", "place", "its"] "div_polys" (defScope (top 21)) f cdv A outer s H E).A (cxOf (L2.CX P w) P w K mg base ["field", "one", "other", "rest", "found", "last", "at", "number", "place", "its"] "div_polys" (defScope (top 21)) f cdv A outer s H E).env (cxOf (L2.CX P w) P w K mg base ["field", "one", "other", "rest", "found", "last", "at", "number", "place", "its"] "div_polys" (defScope (top 21)) f cdv A outer s H E).xe := passes_of rfl
  exact gss_cons (gs_par (i := 3) (j := 4) rfl S.nd rfl rfl (by decide) (ge_t1 call_list_of pure_list G.f_list (by decide +kernel) (gb_name (i := 1) rfl)) (fun C => ge_op opMul pureMul (ge_lst (ga_cons (ge_int) (ga_nil))) (gb_of (ge_bn (call_max2 rfl) pure_max2 G.f_max (by decide +kernel) (ga_cons (ge_int) (ga_cons (ge_op opAdd pureAdd (ge_op opSub pureSub (ge_b1 call_len pure_len G.f_len (by decide +kernel) (gb_name (i := 1) rfl)) (gb_of (ge_b1 call_len pure_len G.f_len (by decide +kernel) (gb_name (i := 2) rfl)))) (gb_of (ge_int))) (ga_nil))))))) (gss_cons (gs_set (i := 5) S.nd rfl (ge_call (ok_inverse_number G) tk hr hgd (gr_val (ge_var (i := 0) rfl) (gr_val (ge_ixN (i := 2) rfl (ge_neg (gb_of (ge_int)))) (gr_nil))))) (gss_cons (gs_for po rfl (gi_range3 G.f_range (ga_cons (ge_op opSub pureSub (ge_b1 call_len pure_len G.f_len (by decide +kernel) (gb_name (i := 4) rfl)) (gb_of (ge_int))) (ga_cons (ge_neg (gb_of (ge_int))) (ga_cons (ge_neg (gb_of (ge_int))) (ga_nil))))) (gg_name (i := 6) (S.nd) rfl) (gss_cons (gs_set (i := 7) S.nd rfl (ge_op opMod pureMod (ge_op opMul pureMul (ge_ixN (i := 3) rfl (ge_op opSub pureSub (ge_op opAdd pureAdd (ge_var (i := 6) rfl) (gb_of (ge_b1 call_len pure_len G.f_len (by decide +kernel) (gb_name (i := 2) rfl)))) (gb_of (ge_int)))) (gb_name (i := 5) rfl)) (gb_name (i := 0) rfl))) (gss_cons (gs_setIx (i := 4) rfl (ge_var (i := 7) rfl) (ge_var (i := 6) rfl)) (gss_one (gs_for po rfl (gi_enum G.f_enumerate (ga_cons (ge_var (i := 2) rfl) (ga_nil))) (gg_tup rfl (ggs_cons (i := 8) S.nd rfl (ggs_cons (i := 9) S.nd rfl (ggs_nil)))) (gss_one (gs_setIx (i := 3) rfl (ge_op opMod pureMod (ge_op opSub pureSub (ge_ixN (i := 3) rfl (ge_op opAdd pureAdd (ge_var (i := 6) rfl) (gb_name (i := 8) rfl))) (gb_of (ge_op opMul pureMul (ge_var (i := 7) rfl) (gb_name (i := 9) rfl)))) (gb_name (i := 0) rfl)) (ge_op opAdd pureAdd (ge_var (i := 6) rfl) (gb_name (i := 8) rfl))))))))) (gss_one (gs_ret (ge_tup (ga_cons (ge_call (ok_cut G) tk hr hgd (gr_val (ge_var (i := 4) rfl) (gr_nil))) (ga_cons (ge_call (ok_cut G) tk hr hgd (gr_val (ge_var (i := 3) rfl) (gr_nil))) (ga_nil))))))))
def b_rest_of : SM := retS (M.ite (M.bind (E2 eqO (var 2) (M.ofB (M.bind (M.pure []) fun ds => M.lift (tupO ds)))) asB) (var 1) (E2 getO (M.bind (M.consV (var 0) (M.consV (var 1) (M.consV (var 2) (M.pure [])))) (callB 3 f_div_polys)) (M.ofB (M.pure (.val (.int 1))))))
def f_rest_of : Fn := runFn 3 b_rest_of
theorem ok_rest_of (G : Facts K mg) : Cal P w K mg base 3 "rest_of" 3 f_rest_of := by
  have S : FnScope ["field", "one", "other"] ["field", "one", "other"] (defScope (top 22)) := C8.fnScope_by (by decide +kernel)
  refine cal_of (body := b_rest_of) G.d_rest_of S (by decide) fun f cdv A outer s H E C hr hgd => ?_
  have tk := takes_of (X := cxOf (L2.CX P w) P w K mg base ["field", "one", "other"] "rest_of" (defScope (top 22)) f cdv A outer s H E) rfl rfl rfl rfl
  have po : PassesOwn (model P w) (cxOf (L2.CX P w) P w K mg base ["field", "one", "other"] "rest_of" (defScope (top 22)) f cdv A outer s H E).A (cxOf (L2.CX P w) P w K mg base ["field", "one", "other"] "rest_of" (defScope (top 22)) f cdv A outer s H E).env (cxOf (L2.CX P w) P w K mg base ["field", "one", "other"] "rest_of" (defScope (top 22)) f cdv A outer s H E).xe := passes_of rfl
  exact gss_one (gs_ret (ge_ifExp (gt_cmp (opEqD hr) pureEq (ge_var (i := 2) rfl) (gb_of (ge_tup (ga_nil)))) (ge_var (i := 1) rfl) (ge_ix (ge_call (ok_div_polys G) tk hr hgd (gr_val (ge_var (i := 0) rfl) (gr_val (ge_var (i := 1) rfl) (gr_val (ge_var (i := 2) rfl) (gr_nil))))) (gb_of (ge_int)))))
def b_monic : SM := retS (M.ite (M.bind (E2 eqO (var 1) (M.ofB (M.bind (M.pure []) fun ds => M.lift (tupO ds)))) asB) (M.bind (M.pure []) fun ds => M.lift (tupO ds)) (M.bind (M.consV (var 0) (M.consV (var 1) (M.consV (M.bind (M.consV (var 0) (M.consV (IxN 1 (M.bind (M.ofB (M.pure (.val (.int 1)))) fun d => M.lift (negO d))) (M.pure []))) (callB 2 f_inverse_number)) (M.pure [])))) (callB 3 f_scaled)))
def f_monic : Fn := runFn 2 b_monic
theorem ok_monic (G : Facts K mg) : Cal P w K mg base 3 "monic" 2 f_monic := by
  have S : FnScope ["field", "poly"] ["field", "poly"] (defScope (top 23)) := C8.fnScope_by (by decide +kernel)
  refine cal_of (body := b_monic) G.d_monic S (by decide) fun f cdv A outer s H E C hr hgd => ?_
  have tk := takes_of (X := cxOf (L2.CX P w) P w K mg base ["field", "poly"] "monic" (defScope (top 23)) f cdv A outer s H E) rfl rfl rfl rfl
  have po : PassesOwn (model P w) (cxOf (L2.CX P w) P w K mg base ["field", "poly"] "monic" (defScope (top 23)) f cdv A outer s H E).A (cxOf (L2.CX P w) P w K mg base ["field", "poly"] "monic" (defScope (top 23)) f cdv A outer s H E).env (cxOf (L2.CX P w) P w K mg base ["field", "poly"] "monic" (defScope (top 23)) f cdv A outer s H E).xe := passes_of rfl
  exact gss_one (gs_ret (ge_ifExp (gt_cmp (opEqD hr) pureEq (ge_var (i := 1) rfl) (gb_of (ge_tup (ga_nil)))) (ge_tup (ga_nil)) (ge_call (ok_scaled G) tk hr hgd (gr_val (ge_var (i := 0) rfl) (gr_val (ge_var (i := 1) rfl) (gr_val (ge_call (ok_inverse_number G) tk hr hgd (gr_val (ge_var (i := 0) rfl) (gr_val (ge_ixN (i := 1) rfl (ge_neg (gb_of (ge_int)))) (gr_nil)))) (gr_nil)))))))
def b_common_of : SM := seqS (asgT (.tp [3, 4, 5, 6]) (M.bind (M.cons (var 1) (M.cons (var 2) (M.cons (M.bind (M.cons (M.pure (.val (.int 1))) (M.pure [])) fun ds => M.lift (tupO ds)) (M.cons (M.bind (M.pure []) fun ds => M.lift (tupO ds)) (M.pure []))))) fun ds => M.lift (tupO ds))) (seqS (asgT (.tp [7, 8]) (M.bind (M.cons (M.bind (M.pure []) fun ds => M.lift (tupO ds)) (M.cons (M.bind (M.cons (M.pure (.val (.int 1))) (M.pure [])) fun ds => M.lift (tupO ds)) (M.pure []))) fun ds => M.lift (tupO ds))) (seqS (whS FUEL (M.bind (E2 neO (var 4) (M.ofB (M.bind (M.pure []) fun ds => M.lift (tupO ds)))) asB) (seqS (asgT (.tp [9, 10]) (M.bind (M.consV (var 0) (M.consV (var 3) (M.consV (var 4) (M.pure [])))) (callB 3 f_div_polys))) (seqS (par2 3 4 (var 4) (var 10)) (seqS (par2 5 6 (var 6) (M.bind (M.consV (var 0) (M.consV (var 5) (M.consV (M.bind (M.consV (var 0) (M.consV (var 9) (M.consV (var 6) (M.pure [])))) (callB 3 f_mul_polys)) (M.pure [])))) (callB 3 f_take_polys))) (par2 7 8 (var 8) (M.bind (M.consV (var 0) (M.consV (var 7) (M.consV (M.bind (M.consV (var 0) (M.consV (var 9) (M.consV (var 8) (M.pure [])))) (callB 3 f_mul_polys)) (M.pure [])))) (callB 3 f_take_polys))))))) (seqS (ifS (M.bind (E2 eqO (var 3) (M.ofB (M.bind (M.pure []) fun ds => M.lift (tupO ds)))) asB) (retS (M.bind (M.cons (M.bind (M.pure []) fun ds => M.lift (tupO ds)) (M.cons (var 5) (M.cons (var 7) (M.pure [])))) fun ds => M.lift (tupO ds))) (nextS)) (seqS (asgS 11 (M.bind (M.consV (var 0) (M.consV (IxN 3 (M.bind (M.ofB (M.pure (.val (.int 1)))) fun d => M.lift (negO d))) (M.pure []))) (callB 2 f_inverse_number))) (retS (M.bind (M.cons (M.bind (M.consV (var 0) (M.consV (var 3) (M.consV (var 11) (M.pure [])))) (callB 3 f_scaled)) (M.cons (M.bind (M.consV (var 0) (M.consV (var 5) (M.consV (var 11) (M.pure [])))) (callB 3 f_scaled)) (M.cons (M.bind (M.consV (var 0) (M.consV (var 7) (M.consV (var 11) (M.pure [])))) (callB 3 f_scaled)) (M.pure [])))) fun ds => M.lift (tupO ds)))))))
def f_common_of : Fn := runFn 12 b_common_of
theorem ok_common_of (G : Facts K mg) : Cal P w K mg base 4 "common_of" 3 f_common_of := by
  have S : FnScope ["field", "one", "other", "here", "there", "first", "last", "ahead", "behind", "quotient", "rest", "number"] ["field", "one", "other"] (defScope (top 24)) := C8.fnScope_by (by decide +kernel)
  refine cal_of (body := b_common_of) G.d_common_of S (by decide) fun f cdv A outer s H E C hr hgd => ?_
  have tk := takes_of (X := cxOf (L2.CX P w) P w K mg base ["field", "one", "other", "here", "there", "first", "last", "ahead", "behind", "quotient", "rest", "number"] "common_of" (defScope (top 24)) f cdv A outer s H E) rfl rfl rfl rfl
  have po : PassesOwn (model P w) (cxOf (L2.CX P w) P w K mg base ["field", "one", "other", "here", "there", "first", "last", "ahead", "behind", "quotient", "rest", "number"] "common_of" (defScope (top 24)) f cdv A outer s H E).A (cxOf (L2.CX P w) P w K mg base ["field", "one", "other", "here", "there", "first", "last", "ahead", "behind", "quotient", "rest", "number"] "common_of" (defScope (top 24)) f cdv A outer s H E).env (cxOf (L2.CX P w) P w K mg base ["field", "one", "other", "here", "there", "first", "last", "ahead", "behind", "quotient", "rest", "number"] "common_of" (defScope (top 24)) f cdv A outer s H E).xe := passes_of rfl
  exact gss_cons (gs_asg (ge_tup (ga_cons (ge_var (i := 1) rfl) (ga_cons (ge_var (i := 2) rfl) (ga_cons (ge_tup (ga_cons (ge_int) (ga_nil))) (ga_cons (ge_tup (ga_nil)) (ga_nil)))))) (gg_tup rfl (ggs_cons (i := 3) S.nd rfl (ggs_cons (i := 4) S.nd rfl (ggs_cons (i := 5) S.nd rfl (ggs_cons (i := 6) S.nd rfl (ggs_nil))))))) (gss_cons (gs_asg (ge_tup (ga_cons (ge_tup (ga_nil)) (ga_cons (ge_tup (ga_cons (ge_int) (ga_nil))) (ga_nil)))) (gg_tup rfl (ggs_cons (i := 7) S.nd rfl (ggs_cons (i := 8) S.nd rfl (ggs_nil))))) (gss_cons (gs_while po (gt_cmp (opNeD hr) pureNe (ge_var (i := 4) rfl) (gb_of (ge_tup (ga_nil)))) (gss_cons (gs_asg (ge_call (ok_div_polys G) tk hr hgd (gr_val (ge_var (i := 0) rfl) (gr_val (ge_var (i := 3) rfl) (gr_val (ge_var (i := 4) rfl) (gr_nil))))) (gg_tup rfl (ggs_cons (i := 9) S.nd rfl (ggs_cons (i := 10) S.nd rfl (ggs_nil))))) (gss_cons (gs_par (i := 3) (j := 4) rfl S.nd rfl rfl (by decide) (ge_var (i := 4) rfl) (fun C => ge_var (i := 10) rfl)) (gss_cons (gs_par (i := 5) (j := 6) rfl S.nd rfl rfl (by decide) (ge_var (i := 6) rfl) (fun C => ge_call (ok_take_polys G) tk hr hgd (gr_val (ge_var (i := 0) rfl) (gr_val (ge_var (i := 5) rfl) (gr_val (ge_call (ok_mul_polys G) tk hr hgd (gr_val (ge_var (i := 0) rfl) (gr_val (ge_var (i := 9) rfl) (gr_val (ge_var (i := 6) rfl) (gr_nil))))) (gr_nil)))))) (gss_one (gs_par (i := 7) (j := 8) rfl S.nd rfl rfl (by decide) (ge_var (i := 8) rfl) (fun C => ge_call (ok_take_polys G) tk hr hgd (gr_val (ge_var (i := 0) rfl) (gr_val (ge_var (i := 7) rfl) (gr_val (ge_call (ok_mul_polys G) tk hr hgd (gr_val (ge_var (i := 0) rfl) (gr_val (ge_var (i := 9) rfl) (gr_val (ge_var (i := 8) rfl) (gr_nil))))) (gr_nil))))))))))) (gss_cons (gs_if (gt_cmp (opEqD hr) pureEq (ge_var (i := 3) rfl) (gb_of (ge_tup (ga_nil)))) (gss_one (gs_ret (ge_tup (ga_cons (ge_tup (ga_nil)) (ga_cons (ge_var (i := 5) rfl) (ga_cons (ge_var (i := 7) rfl) (ga_nil))))))) (gss_nil)) (gss_cons (gs_set (i := 11) S.nd rfl (ge_call (ok_inverse_number G) tk hr hgd (gr_val (ge_var (i := 0) rfl) (gr_val (ge_ixN (i := 3) rfl (ge_neg (gb_of (ge_int)))) (gr_nil))))) (gss_one (gs_ret (ge_tup (ga_cons (ge_call (ok_scaled G) tk hr hgd (gr_val (ge_var (i := 0) rfl) (gr_val (ge_var (i := 3) rfl) (gr_val (ge_var (i := 11) rfl) (gr_nil))))) (ga_cons (ge_call (ok_scaled G) tk hr hgd (gr_val (ge_var (i := 0) rfl) (gr_val (ge_var (i := 5) rfl) (gr_val (ge_var (i := 11) rfl) (gr_nil))))) (ga_cons (ge_call (ok_scaled G) tk hr hgd (gr_val (ge_var (i := 0) rfl) (gr_val (ge_var (i := 7) rfl) (gr_val (ge_var (i := 11) rfl) (gr_nil))))) (ga_nil)))))))))))
def b_divisor_of : SM := seqS (par2 3 4 (var 1) (var 2)) (seqS (whS FUEL (M.bind (E2 neO (var 4) (M.ofB (M.bind (M.pure []) fun ds => M.lift (tupO ds)))) asB) (par2 3 4 (var 4) (E2 getO (M.bind (M.consV (var 0) (M.consV (var 3) (M.consV (var 4) (M.pure [])))) (callB 3 f_div_polys)) (M.ofB (M.pure (.val (.int 1))))))) (retS (M.bind (M.consV (var 0) (M.consV (var 3) (M.pure []))) (callB 2 f_monic))))
def f_divisor_of : Fn := runFn 5 b_divisor_of
theorem ok_divisor_of (G : Facts K mg) : Cal P w K mg base 4 "divisor_of" 3 f_divisor_of := by
  have S : FnScope ["field", "one", "other", "here", "there"] ["field", "one", "other"] (defScope (top 25)) := C8.fnScope_by (by decide +kernel)
  refine cal_of (body := b_divisor_of) G.d_divisor_of S (by decide) fun f cdv A outer s H E C hr hgd => ?_
  have tk := takes_of (X := cxOf (L2.CX P w) P w K mg base ["field", "one", "other", "here", "there"] "divisor_of" (defScope (top 25)) f cdv A outer s H E) rfl rfl rfl rfl
  have po : PassesOwn (model P w) (cxOf (L2.CX P w) P w K mg base ["field", "one", "other", "here", "there"] "divisor_of" (defScope (top 25)) f cdv A outer s H E).A (cxOf (L2.CX P w) P w K mg base ["field", "one", "other", "here", "there"] "divisor_of" (defScope (top 25)) f cdv A outer s H E).env (cxOf (L2.CX P w) P w K mg base ["field", "one", "other", "here", "there"] "divisor_of" (defScope (top 25)) f cdv A outer s H E).xe := passes_of rfl
  exact gss_cons (gs_par (i := 3) (j := 4) rfl S.nd rfl rfl (by decide) (ge_var (i := 1) rfl) (fun C => ge_var (i := 2) rfl)) (gss_cons (gs_while po (gt_cmp (opNeD hr) pureNe (ge_var (i := 4) rfl) (gb_of (ge_tup (ga_nil)))) (gss_one (gs_par (i := 3) (j := 4) rfl S.nd rfl rfl (by decide) (ge_var (i := 4) rfl) (fun C => ge_ix (ge_call (ok_div_polys G) tk hr hgd (gr_val (ge_var (i := 0) rfl) (gr_val (ge_var (i := 3) rfl) (gr_val (ge_var (i := 4) rfl) (gr_nil))))) (gb_of (ge_int)))))) (gss_one (gs_ret (ge_call (ok_monic G) tk hr hgd (gr_val (ge_var (i := 0) rfl) (gr_val (ge_var (i := 3) rfl) (gr_nil)))))))
def b_power_modulo : SM := seqS (par2 4 5 (M.bind (M.consV (var 0) (M.consV (M.bind (M.cons (M.pure (.val (.int 1))) (M.pure [])) fun ds => M.lift (tupO ds)) (M.consV (var 3) (M.pure [])))) (callB 3 f_rest_of)) (M.bind (M.consV (var 0) (M.consV (var 1) (M.consV (var 3) (M.pure [])))) (callB 3 f_rest_of))) (seqS (whS FUEL (M.bind (E2 gtO (var 2) (M.ofB (M.pure (.val (.int 0))))) asB) (seqS (ifS (M.bind (E2 eqO (E2 modO (var 2) (M.ofB (M.pure (.val (.int 2))))) (M.ofB (M.pure (.val (.int 1))))) asB) (asgS 4 (M.bind (M.consV (var 0) (M.consV (M.bind (M.consV (var 0) (M.consV (var 4) (M.consV (var 5) (M.pure [])))) (callB 3 f_mul_polys)) (M.consV (var 3) (M.pure [])))) (callB 3 f_rest_of))) (nextS)) (par2 5 2 (M.bind (M.consV (var 0) (M.consV (M.bind (M.consV (var 0) (M.consV (var 5) (M.consV (var 5) (M.pure [])))) (callB 3 f_mul_polys)) (M.consV (var 3) (M.pure [])))) (callB 3 f_rest_of)) (E2 divO (var 2) (M.ofB (M.pure (.val (.int 2)))))))) (retV 4))
def f_power_modulo : Fn := runFn 6 b_power_modulo
theorem ok_power_modulo (G : Facts K mg) : Cal P w K mg base 4 "power_modulo" 4 f_power_modulo := by
  have S : FnScope ["field", "poly", "many", "modulus", "found", "square"] ["field", "poly", "many", "modulus"] (defScope (top 26)) := C8.fnScope_by (by decide +kernel)
  refine cal_of (body := b_power_modulo) G.d_power_modulo S (by decide) fun f cdv A outer s H E C hr hgd => ?_
  have tk := takes_of (X := cxOf (L2.CX P w) P w K mg base ["field", "poly", "many", "modulus", "found", "square"] "power_modulo" (defScope (top 26)) f cdv A outer s H E) rfl rfl rfl rfl
  have po : PassesOwn (model P w) (cxOf (L2.CX P w) P w K mg base ["field", "poly", "many", "modulus", "found", "square"] "power_modulo" (defScope (top 26)) f cdv A outer s H E).A (cxOf (L2.CX P w) P w K mg base ["field", "poly", "many", "modulus", "found", "square"] "power_modulo" (defScope (top 26)) f cdv A outer s H E).env (cxOf (L2.CX P w) P w K mg base ["field", "poly", "many", "modulus", "found", "square"] "power_modulo" (defScope (top 26)) f cdv A outer s H E).xe := passes_of rfl
  exact gss_cons (gs_par (i := 4) (j := 5) rfl S.nd rfl rfl (by decide) (ge_call (ok_rest_of G) tk hr hgd (gr_val (ge_var (i := 0) rfl) (gr_val (ge_tup (ga_cons (ge_int) (ga_nil))) (gr_val (ge_var (i := 3) rfl) (gr_nil))))) (fun C => ge_call (ok_rest_of G) tk hr hgd (gr_val (ge_var (i := 0) rfl) (gr_val (ge_var (i := 1) rfl) (gr_val (ge_var (i := 3) rfl) (gr_nil)))))) (gss_cons (gs_while po (gt_cmp op_gt pureGt (ge_var (i := 2) rfl) (gb_of (ge_int))) (gss_cons (gs_if (gt_cmp (opEqD hr) pureEq (ge_op opMod pureMod (ge_var (i := 2) rfl) (gb_of (ge_int))) (gb_of (ge_int))) (gss_one (gs_set (i := 4) S.nd rfl (ge_call (ok_rest_of G) tk hr hgd (gr_val (ge_var (i := 0) rfl) (gr_val (ge_call (ok_mul_polys G) tk hr hgd (gr_val (ge_var (i := 0) rfl) (gr_val (ge_var (i := 4) rfl) (gr_val (ge_var (i := 5) rfl) (gr_nil))))) (gr_val (ge_var (i := 3) rfl) (gr_nil))))))) (gss_nil)) (gss_one (gs_par (i := 5) (j := 2) rfl S.nd rfl rfl (by decide) (ge_call (ok_rest_of G) tk hr hgd (gr_val (ge_var (i := 0) rfl) (gr_val (ge_call (ok_mul_polys G) tk hr hgd (gr_val (ge_var (i := 0) rfl) (gr_val (ge_var (i := 5) rfl) (gr_val (ge_var (i := 5) rfl) (gr_nil))))) (gr_val (ge_var (i := 3) rfl) (gr_nil))))) (fun C => ge_op opDiv pureDiv (ge_var (i := 2) rfl) (gb_of (ge_int))))))) (gss_one (gs_retV (i := 4) rfl)))
def b_check_poly : SM := ifS (M.not (M.truth (M.ofB (M.bind (M.consV (var 0) (M.consV (var 1) (M.consV (M.pure (.val k_MOST_DEGREE)) (M.pure [])))) (callB 3 f_is_poly_of))))) (neverS) (nextS)
def f_check_poly : Fn := runFn 2 b_check_poly
theorem ok_check_poly (G : Facts K mg) : Cal P w K mg base 5 "check_poly" 2 f_check_poly := by
  have S : FnScope ["field", "value"] ["field", "value"] (defScope (top 29)) := C8.fnScope_by (by decide +kernel)
  refine cal_of (body := b_check_poly) G.d_check_poly S (by decide) fun f cdv A outer s H E C hr hgd => ?_
  have tk := takes_of (X := cxOf (L2.CX P w) P w K mg base ["field", "value"] "check_poly" (defScope (top 29)) f cdv A outer s H E) rfl rfl rfl rfl
  have po : PassesOwn (model P w) (cxOf (L2.CX P w) P w K mg base ["field", "value"] "check_poly" (defScope (top 29)) f cdv A outer s H E).A (cxOf (L2.CX P w) P w K mg base ["field", "value"] "check_poly" (defScope (top 29)) f cdv A outer s H E).env (cxOf (L2.CX P w) P w K mg base ["field", "value"] "check_poly" (defScope (top 29)) f cdv A outer s H E).xe := passes_of rfl
  exact gss_one (gs_if (gt_not (gt_val (gb_of (ge_call (ok_is_poly_of G) tk hr hgd (gr_val (ge_var (i := 0) rfl) (gr_val (ge_var (i := 1) rfl) (gr_val (ge_gc G.c_MOST_DEGREE) (gr_nil)))))))) (gss_one (gs_never)) (gss_nil))
def b_check_two : SM := seqS (dropS (M.bind (M.consV (var 0) (M.pure [])) (callB 1 f_check_field))) (seqS (dropS (M.bind (M.consV (var 0) (M.consV (var 1) (M.pure []))) (callB 2 f_check_poly))) (dropS (M.bind (M.consV (var 0) (M.consV (var 2) (M.pure []))) (callB 2 f_check_poly))))
def f_check_two : Fn := runFn 3 b_check_two
theorem ok_check_two (G : Facts K mg) : Cal P w K mg base 6 "check_two" 3 f_check_two := by
  have S : FnScope ["field", "one", "other"] ["field", "one", "other"] (defScope (top 30)) := C8.fnScope_by (by decide +kernel)
  refine cal_of (body := b_check_two) G.d_check_two S (by decide) fun f cdv A outer s H E C hr hgd => ?_
  have tk := takes_of (X := cxOf (L2.CX P w) P w K mg base ["field", "one", "other"] "check_two" (defScope (top 30)) f cdv A outer s H E) rfl rfl rfl rfl
  have po : PassesOwn (model P w) (cxOf (L2.CX P w) P w K mg base ["field", "one", "other"] "check_two" (defScope (top 30)) f cdv A outer s H E).A (cxOf (L2.CX P w) P w K mg base ["field", "one", "other"] "check_two" (defScope (top 30)) f cdv A outer s H E).env (cxOf (L2.CX P w) P w K mg base ["field", "one", "other"] "check_two" (defScope (top 30)) f cdv A outer s H E).xe := passes_of rfl
  exact gss_cons (gs_expr (ge_call (ok_check_field G) tk hr hgd (gr_val (ge_var (i := 0) rfl) (gr_nil)))) (gss_cons (gs_expr (ge_call (ok_check_poly G) tk hr hgd (gr_val (ge_var (i := 0) rfl) (gr_val (ge_var (i := 1) rfl) (gr_nil))))) (gss_one (gs_expr (ge_call (ok_check_poly G) tk hr hgd (gr_val (ge_var (i := 0) rfl) (gr_val (ge_var (i := 2) rfl) (gr_nil)))))))
def b_times : SM := seqS (dropS (M.bind (M.consV (var 0) (M.consV (var 1) (M.consV (var 2) (M.pure [])))) (callB 3 f_check_two))) (seqS (asgS 3 (M.bind (M.consV (var 0) (M.consV (var 1) (M.consV (var 2) (M.pure [])))) (callB 3 f_mul_polys))) (seqS (ifS (M.bind (E2 gtO (M.bind (peek 3) fun d => M.lift (lenO d)) (M.ofB (E2 addO (M.pure (.val k_MOST_DEGREE)) (M.ofB (M.pure (.val (.int 1))))))) asB) (neverS) (nextS)) (retV 3)))
def f_times : Fn := runFn 4 b_times
theorem ok_times (G : Facts K mg) : Cal P w K mg base 7 "times" 3 f_times := by
  have S : FnScope ["field", "one", "other", "found"] ["field", "one", "other"] (defScope (top 31)) := C8.fnScope_by (by decide +kernel)
  refine cal_of (body := b_times) G.d_times S (by decide) fun f cdv A outer s H E C hr hgd => ?_
  have tk := takes_of (X := cxOf (L2.CX P w) P w K mg base ["field", "one", "other", "found"] "times" (defScope (top 31)) f cdv A outer s H E) rfl rfl rfl rfl
  have po : PassesOwn (model P w) (cxOf (L2.CX P w) P w K mg base ["field", "one", "other", "found"] "times" (defScope (top 31)) f cdv A outer s H E).A (cxOf (L2.CX P w) P w K mg base ["field", "one", "other", "found"] "times" (defScope (top 31)) f cdv A outer s H E).env (cxOf (L2.CX P w) P w K mg base ["field", "one", "other", "found"] "times" (defScope (top 31)) f cdv A outer s H E).xe := passes_of rfl
  exact gss_cons (gs_expr (ge_call (ok_check_two G) tk hr hgd (gr_val (ge_var (i := 0) rfl) (gr_val (ge_var (i := 1) rfl) (gr_val (ge_var (i := 2) rfl) (gr_nil)))))) (gss_cons (gs_set (i := 3) S.nd rfl (ge_call (ok_mul_polys G) tk hr hgd (gr_val (ge_var (i := 0) rfl) (gr_val (ge_var (i := 1) rfl) (gr_val (ge_var (i := 2) rfl) (gr_nil)))))) (gss_cons (gs_if (gt_cmp op_gt pureGt (ge_b1 call_len pure_len G.f_len (by decide +kernel) (gb_name (i := 3) rfl)) (gb_of (ge_op opAdd pureAdd (ge_gc G.c_MOST_DEGREE) (gb_of (ge_int))))) (gss_one (gs_never)) (gss_nil)) (gss_one (gs_retV (i := 3) rfl))))
def b_divided : SM := seqS (dropS (M.bind (M.consV (var 0) (M.consV (var 1) (M.consV (var 2) (M.pure [])))) (callB 3 f_check_two))) (seqS (ifS (M.bind (E2 eqO (var 2) (M.ofB (M.bind (M.pure []) fun ds => M.lift (tupO ds)))) asB) (neverS) (nextS)) (retS (M.bind (M.consV (var 0) (M.consV (var 1) (M.consV (var 2) (M.pure [])))) (callB 3 f_div_polys))))
def f_divided : Fn := runFn 3 b_divided
theorem ok_divided (G : Facts K mg) : Cal P w K mg base 7 "divided" 3 f_divided := by
  have S : FnScope ["field", "one", "other"] ["field", "one", "other"] (defScope (top 32)) := C8.fnScope_by (by decide +kernel)
  refine cal_of (body := b_divided) G.d_divided S (by decide) fun f cdv A outer s H E C hr hgd => ?_
  have tk := takes_of (X := cxOf (L2.CX P w) P w K mg base ["field", "one", "other"] "divided" (defScope (top 32)) f cdv A outer s H E) rfl rfl rfl rfl
  have po : PassesOwn (model P w) (cxOf (L2.CX P w) P w K mg base ["field", "one", "other"] "divided" (defScope (top 32)) f cdv A outer s H E).A (cxOf (L2.CX P w) P w K mg base ["field", "one", "other"] "divided" (defScope (top 32)) f cdv A outer s H E).env (cxOf (L2.CX P w) P w K mg base ["field", "one", "other"] "divided" (defScope (top 32)) f cdv A outer s H E).xe := passes_of rfl
  exact gss_cons (gs_expr (ge_call (ok_check_two G) tk hr hgd (gr_val (ge_var (i := 0) rfl) (gr_val (ge_var (i := 1) rfl) (gr_val (ge_var (i := 2) rfl) (gr_nil)))))) (gss_cons (gs_if (gt_cmp (opEqD hr) pureEq (ge_var (i := 2) rfl) (gb_of (ge_tup (ga_nil)))) (gss_one (gs_never)) (gss_nil)) (gss_one (gs_ret (ge_call (ok_div_polys G) tk hr hgd (gr_val (ge_var (i := 0) rfl) (gr_val (ge_var (i := 1) rfl) (gr_val (ge_var (i := 2) rfl) (gr_nil))))))))
def b_common : SM := seqS (dropS (M.bind (M.consV (var 0) (M.consV (var 1) (M.consV (var 2) (M.pure [])))) (callB 3 f_check_two))) (retS (M.bind (M.consV (var 0) (M.consV (var 1) (M.consV (var 2) (M.pure [])))) (callB 3 f_common_of)))
def f_common : Fn := runFn 3 b_common
theorem ok_common (G : Facts K mg) : Cal P w K mg base 7 "common" 3 f_common := by
  have S : FnScope ["field", "one", "other"] ["field", "one", "other"] (defScope (top 33)) := C8.fnScope_by (by decide +kernel)
  refine cal_of (body := b_common) G.d_common S (by decide) fun f cdv A outer s H E C hr hgd => ?_
  have tk := takes_of (X := cxOf (L2.CX P w) P w K mg base ["field", "one", "other"] "common" (defScope (top 33)) f cdv A outer s H E) rfl rfl rfl rfl
  have po : PassesOwn (model P w) (cxOf (L2.CX P w) P w K mg base ["field", "one", "other"] "common" (defScope (top 33)) f cdv A outer s H E).A (cxOf (L2.CX P w) P w K mg base ["field", "one", "other"] "common" (defScope (top 33)) f cdv A outer s H E).env (cxOf (L2.CX P w) P w K mg base ["field", "one", "other"] "common" (defScope (top 33)) f cdv A outer s H E).xe := passes_of rfl
  exact gss_cons (gs_expr (ge_call (ok_check_two G) tk hr hgd (gr_val (ge_var (i := 0) rfl) (gr_val (ge_var (i := 1) rfl) (gr_val (ge_var (i := 2) rfl) (gr_nil)))))) (gss_one (gs_ret (ge_call (ok_common_of G) tk hr hgd (gr_val (ge_var (i := 0) rfl) (gr_val (ge_var (i := 1) rfl) (gr_val (ge_var (i := 2) rfl) (gr_nil)))))))
def b_shows_common : SM := seqS (dropS (M.bind (M.consV (var 0) (M.consV (var 1) (M.consV (var 2) (M.pure [])))) (callB 3 f_check_two))) (seqS (ifS (M.or (M.not (M.truth (M.ofB (M.bind (peek 3) fun d => M.lift (isInstO "tuple" d))))) (M.bind (E2 neO (M.bind (peek 3) fun d => M.lift (lenO d)) (M.ofB (M.pure (.val (.int 3))))) asB)) (retS (M.pure (.val (.bool false)))) (nextS)) (seqS (ifS (M.not (M.truth (M.ofB (M.bind (M.ofB (M.bind (M.bindD (var 3) itemsB) (compB (.nm 4) (M.pure true) (M.bind (M.consV (var 0) (M.consV (var 4) (M.consV (M.pure (.val k_MOST_DEGREE)) (M.pure [])))) (callB 3 f_is_poly_of)) [4]))) fun d => M.lift (allO d))))) (retS (M.pure (.val (.bool false)))) (nextS)) (seqS (asgS 5 (M.bind (M.consV (var 0) (M.consV (M.bind (M.consV (var 0) (M.consV (IxN 3 (M.pure (.val (.int 1)))) (M.consV (var 1) (M.pure [])))) (callB 3 f_mul_polys)) (M.consV (M.bind (M.consV (var 0) (M.consV (IxN 3 (M.pure (.val (.int 2)))) (M.consV (var 2) (M.pure [])))) (callB 3 f_mul_polys)) (M.pure [])))) (callB 3 f_add_polys))) (retS (M.andV (E2 eqO (IxN 3 (M.pure (.val (.int 0)))) (M.ofB (M.bind (M.consV (var 0) (M.consV (var 1) (M.consV (var 2) (M.pure [])))) (callB 3 f_divisor_of)))) (E2 eqO (var 5) (M.ofB (IxN 3 (M.pure (.val (.int 0)))))))))))
def f_shows_common : Fn := runFn 6 b_shows_common
theorem ok_shows_common (G : Facts K mg) : Cal P w K mg base 7 "shows_common" 4 f_shows_common := by
  have S : FnScope ["field", "one", "other", "value", "part", "made"] ["field", "one", "other", "value"] (defScope (top 34)) := C8.fnScope_by (by decide +kernel)
  refine cal_of (body := b_shows_common) G.d_shows_common S (by decide) fun f cdv A outer s H E C hr hgd => ?_
  have tk := takes_of (X := cxOf (L2.CX P w) P w K mg base ["field", "one", "other", "value", "part", "made"] "shows_common" (defScope (top 34)) f cdv A outer s H E) rfl rfl rfl rfl
  have po : PassesOwn (model P w) (cxOf (L2.CX P w) P w K mg base ["field", "one", "other", "value", "part", "made"] "shows_common" (defScope (top 34)) f cdv A outer s H E).A (cxOf (L2.CX P w) P w K mg base ["field", "one", "other", "value", "part", "made"] "shows_common" (defScope (top 34)) f cdv A outer s H E).env (cxOf (L2.CX P w) P w K mg base ["field", "one", "other", "value", "part", "made"] "shows_common" (defScope (top 34)) f cdv A outer s H E).xe := passes_of rfl
  exact gss_cons (gs_expr (ge_call (ok_check_two G) tk hr hgd (gr_val (ge_var (i := 0) rfl) (gr_val (ge_var (i := 1) rfl) (gr_val (ge_var (i := 2) rfl) (gr_nil)))))) (gss_cons (gs_if (gt_w (gw_or (gt_not (gt_val (gb_of (ge_isinst G.f_isinstance G.f_tuple (by decide +kernel) (gb_name (i := 3) rfl))))) (gw_or1 (gt_cmp (opNeD hr) pureNe (ge_b1 call_len pure_len G.f_len (by decide +kernel) (gb_name (i := 3) rfl)) (gb_of (ge_int)))))) (gss_one (gs_ret (ge_bool))) (gss_nil)) (gss_cons (gs_if (gt_not (gt_val (gb_of (ge_b1 (cr_all rfl) pure_all G.f_all (by decide +kernel) (gb_of (ge_lc (own := [("part", 4)]) rfl S.nd (gi_seq (ge_var (i := 3) rfl)) (blkOk_by (N := ["field", "one", "other", "value", "part", "made"]) (sc := defScope (top 34)) (by decide +kernel)) (fun C _ _ _ _ _ => gg_name (i := 4) (S.nd) rfl) (fun C _ _ _ _ _ => gts_nil) (fun C _ _ _ _ _ => ge_call (ok_is_poly_of G) takes0 hr hgd (gr_val (ge_var (i := 0) rfl) (gr_val (ge_var (i := 4) rfl) (gr_val (ge_gc G.c_MOST_DEGREE) (gr_nil))))))))))) (gss_one (gs_ret (ge_bool))) (gss_nil)) (gss_cons (gs_set (i := 5) S.nd rfl (ge_call (ok_add_polys G) tk hr hgd (gr_val (ge_var (i := 0) rfl) (gr_val (ge_call (ok_mul_polys G) tk hr hgd (gr_val (ge_var (i := 0) rfl) (gr_val (ge_ixN (i := 3) rfl (ge_int)) (gr_val (ge_var (i := 1) rfl) (gr_nil))))) (gr_val (ge_call (ok_mul_polys G) tk hr hgd (gr_val (ge_var (i := 0) rfl) (gr_val (ge_ixN (i := 3) rfl (ge_int)) (gr_val (ge_var (i := 2) rfl) (gr_nil))))) (gr_nil)))))) (gss_one (gs_ret (ge_and (ge_cmp (opEqD hr) pureEq (ge_ixN (i := 3) rfl (ge_int)) (gb_of (ge_call (ok_divisor_of G) tk hr hgd (gr_val (ge_var (i := 0) rfl) (gr_val (ge_var (i := 1) rfl) (gr_val (ge_var (i := 2) rfl) (gr_nil))))))) (ge_one (ge_cmp (opEqD hr) pureEq (ge_var (i := 5) rfl) (gb_of (ge_ixN (i := 3) rfl (ge_int)))))))))))
def b_power_rest : SM := seqS (dropS (M.bind (M.consV (var 0) (M.pure [])) (callB 1 f_check_field))) (seqS (dropS (M.bind (M.consV (var 0) (M.consV (var 1) (M.pure []))) (callB 2 f_check_poly))) (seqS (ifS (M.not (M.truth (M.ofB (M.bind (M.consV (var 2) (M.consV (M.pure (.val (.int 0))) (M.consV (M.pure (.val k_GREATEST_MANY)) (M.pure [])))) (callB 3 f_is_between))))) (neverS) (nextS)) (seqS (dropS (M.bind (M.consV (var 0) (M.consV (var 3) (M.pure []))) (callB 2 f_check_poly))) (seqS (ifS (M.bind (E2 eqO (var 3) (M.ofB (M.bind (M.pure []) fun ds => M.lift (tupO ds)))) asB) (neverS) (nextS)) (retS (M.bind (M.consV (var 0) (M.consV (var 1) (M.consV (var 2) (M.consV (var 3) (M.pure []))))) (callB 4 f_power_modulo)))))))
def f_power_rest : Fn := runFn 4 b_power_rest
theorem ok_power_rest (G : Facts K mg) : Cal P w K mg base 6 "power_rest" 4 f_power_rest := by
  have S : FnScope ["field", "poly", "many", "modulus"] ["field", "poly", "many", "modulus"] (defScope (top 35)) := C8.fnScope_by (by decide +kernel)
  refine cal_of (body := b_power_rest) G.d_power_rest S (by decide) fun f cdv A outer s H E C hr hgd => ?_
  have tk := takes_of (X := cxOf (L2.CX P w) P w K mg base ["field", "poly", "many", "modulus"] "power_rest" (defScope (top 35)) f cdv A outer s H E) rfl rfl rfl rfl
  have po : PassesOwn (model P w) (cxOf (L2.CX P w) P w K mg base ["field", "poly", "many", "modulus"] "power_rest" (defScope (top 35)) f cdv A outer s H E).A (cxOf (L2.CX P w) P w K mg base ["field", "poly", "many", "modulus"] "power_rest" (defScope (top 35)) f cdv A outer s H E).env (cxOf (L2.CX P w) P w K mg base ["field", "poly", "many", "modulus"] "power_rest" (defScope (top 35)) f cdv A outer s H E).xe := passes_of rfl
  exact gss_cons (gs_expr (ge_call (ok_check_field G) tk hr hgd (gr_val (ge_var (i := 0) rfl) (gr_nil)))) (gss_cons (gs_expr (ge_call (ok_check_poly G) tk hr hgd (gr_val (ge_var (i := 0) rfl) (gr_val (ge_var (i := 1) rfl) (gr_nil))))) (gss_cons (gs_if (gt_not (gt_val (gb_of (ge_call (ok_is_between G) tk hr hgd (gr_val (ge_var (i := 2) rfl) (gr_val (ge_int) (gr_val (ge_gc G.c_GREATEST_MANY) (gr_nil)))))))) (gss_one (gs_never)) (gss_nil)) (gss_cons (gs_expr (ge_call (ok_check_poly G) tk hr hgd (gr_val (ge_var (i := 0) rfl) (gr_val (ge_var (i := 3) rfl) (gr_nil))))) (gss_cons (gs_if (gt_cmp (opEqD hr) pureEq (ge_var (i := 3) rfl) (gb_of (ge_tup (ga_nil)))) (gss_one (gs_never)) (gss_nil)) (gss_one (gs_ret (ge_call (ok_power_modulo G) tk hr hgd (gr_val (ge_var (i := 0) rfl) (gr_val (ge_var (i := 1) rfl) (gr_val (ge_var (i := 2) rfl) (gr_val (ge_var (i := 3) rfl) (gr_nil))))))))))))
def b__law_pot : SM := seqS (asgS 2 (M.ite (M.bind (E2 ltO (var 1) (M.ofB (M.bind (peek 0) fun d => M.lift (lenO d)))) asB) (IxN 0 (var 1)) (E2 addO (E2 addO (E2 modO (M.bind (M.ofB (M.bind (M.ofB (SlN 0 (M.pure none) (M.part (M.pure (.val (.int 1)))))) fun d => M.lift (sumO d))) fun d => M.lift (intO1 d)) (M.ofB (M.pure (.val (.int 1000003))))) (M.ofB (E2 mulO (M.pure (.val (.int 23003))) (peek 1)))) (M.ofB (M.pure (.val (.int 7603))))))) (seqS (asgS 3 (E2 mulO (E2 modO (M.bind (M.ofB (M.bind (peek 2) fun d => M.lift (absO d))) fun d => M.lift (intO1 d)) (M.ofB (E2 powO (E2 powO (M.pure (.val (.int 10))) (M.ofB (M.pure (.val (.int 60))))) (M.ofB (M.pure (.val (.int 5))))))) (M.ofB (M.bind (M.ofB (E2 geO (M.bind (peek 2) fun d => M.lift (absO d)) (M.ofB (E2 powO (M.pure (.val (.int 10))) (M.ofB (M.pure (.val (.int 18)))))))) fun d => M.lift (intO1 d))))) (seqS (asgS 4 (E2 modO (M.bind (peek 2) fun d => M.lift (intO1 d)) (M.ofB (M.pure (.val (.int 2305843009213693951)))))) (retS (M.bind (M.cons (var 3) (M.cons (E2 modO (M.bind (M.ofB (E2 addO (E2 addO (E2 mulO (var 4) (M.ofB (M.pure (.val (.int 99529))))) (M.ofB (E2 mulO (E2 mulO (M.pure (.val (.int 14869))) (peek 1)) (peek 1)))) (M.ofB (M.pure (.val (.int 9203)))))) fun d => M.lift (intO1 d)) (M.ofB (M.pure (.val (.int 2305843009213693921))))) (M.cons (M.pure (.val (.int 0))) (M.pure [])))) fun ds => M.lift (lstO ds)))))
def f__law_pot : Fn := runFn 5 b__law_pot
theorem ok__law_pot (G : Facts K mg) : Cal P w K mg base 1 "_law_pot" 2 f__law_pot := by
  have S : FnScope ["script", "place", "cell", "own", "small"] ["script", "place"] (defScope (top 37)) := C8.fnScope_by (by decide +kernel)
  refine cal_of (body := b__law_pot) G.d__law_pot S (by decide) fun f cdv A outer s H E C hr hgd => ?_
  have tk := takes_of (X := cxOf (L2.CX P w) P w K mg base ["script", "place", "cell", "own", "small"] "_law_pot" (defScope (top 37)) f cdv A outer s H E) rfl rfl rfl rfl
  have po : PassesOwn (model P w) (cxOf (L2.CX P w) P w K mg base ["script", "place", "cell", "own", "small"] "_law_pot" (defScope (top 37)) f cdv A outer s H E).A (cxOf (L2.CX P w) P w K mg base ["script", "place", "cell", "own", "small"] "_law_pot" (defScope (top 37)) f cdv A outer s H E).env (cxOf (L2.CX P w) P w K mg base ["script", "place", "cell", "own", "small"] "_law_pot" (defScope (top 37)) f cdv A outer s H E).xe := passes_of rfl
  exact gss_cons (gs_set (i := 2) S.nd rfl (ge_ifExp (gt_cmp op_lt pureLt (ge_var (i := 1) rfl) (gb_of (ge_b1 call_len pure_len G.f_len (by decide +kernel) (gb_name (i := 0) rfl)))) (ge_ixN (i := 0) rfl (ge_var (i := 1) rfl)) (ge_op opAdd pureAdd (ge_op opAdd pureAdd (ge_op opMod pureMod (ge_t1 call_int1 pure_int G.f_int (by decide +kernel) (gb_of (ge_b1 (cr_sum rfl) pure_sum G.f_sum (by decide +kernel) (gb_of (ge_slN (i := 0) rfl (go_none) (go_some (ge_int))))))) (gb_of (ge_int))) (gb_of (ge_op opMul pureMul (ge_int) (gb_name (i := 1) rfl)))) (gb_of (ge_int))))) (gss_cons (gs_set (i := 3) S.nd rfl (ge_op opMul pureMul (ge_op opMod pureMod (ge_t1 call_int1 pure_int G.f_int (by decide +kernel) (gb_of (ge_b1 call_abs pure_abs G.f_abs (by decide +kernel) (gb_name (i := 2) rfl)))) (gb_of (ge_op opPow purePow (ge_op opPow purePow (ge_int) (gb_of (ge_int))) (gb_of (ge_int))))) (gb_of (ge_t1 call_int1 pure_int G.f_int (by decide +kernel) (gb_of (ge_cmp op_ge pureGe (ge_b1 call_abs pure_abs G.f_abs (by decide +kernel) (gb_name (i := 2) rfl)) (gb_of (ge_op opPow purePow (ge_int) (gb_of (ge_int)))))))))) (gss_cons (gs_set (i := 4) S.nd rfl (ge_op opMod pureMod (ge_t1 call_int1 pure_int G.f_int (by decide +kernel) (gb_name (i := 2) rfl)) (gb_of (ge_int)))) (gss_one (gs_ret (ge_lst (ga_cons (ge_var (i := 3) rfl) (ga_cons (ge_op opMod pureMod (ge_t1 call_int1 pure_int G.f_int (by decide +kernel) (gb_of (ge_op opAdd pureAdd (ge_op opAdd pureAdd (ge_op opMul pureMul (ge_var (i := 4) rfl) (gb_of (ge_int))) (gb_of (ge_op opMul pureMul (ge_op opMul pureMul (ge_int) (gb_name (i := 1) rfl)) (gb_name (i := 1) rfl)))) (gb_of (ge_int))))) (gb_of (ge_int))) (ga_cons (ge_int) (ga_nil)))))))))
def b__law_take : SM := seqS (ifS (M.bind (E2 gtO (IxN 0 (M.pure (.val (.int 0)))) (M.ofB (M.pure (.val (.int 0))))) asB) (seqS (asgS 2 (E2 modO (M.bind (M.ofB (IxN 0 (M.pure (.val (.int 0))))) fun d => M.lift (intO1 d)) (peek 1))) (seqS (setIx 0 (E2 divO (IxN 0 (M.pure (.val (.int 0)))) (peek 1)) (M.pure (.val (.int 0)))) (retV 2))) (nextS)) (seqS (setIx 0 (E2 addO (IxN 0 (M.pure (.val (.int 2)))) (M.ofB (M.pure (.val (.int 1))))) (M.pure (.val (.int 2)))) (seqS (asgS 3 (E2 getO (M.bind (M.cons (M.pure (.val (.int 2147483647))) (M.cons (M.pure (.val (.int 2147483629))) (M.cons (M.pure (.val (.int 2147483587))) (M.cons (M.pure (.val (.int 2147483579))) (M.pure []))))) fun ds => M.lift (lstO ds)) (M.ofB (E2 modO (M.bind (M.ofB (IxN 0 (M.pure (.val (.int 2))))) fun d => M.lift (intO1 d)) (M.ofB (M.pure (.val (.int 4)))))))) (seqS (asgS 4 (E2 modO (M.bind (M.ofB (E2 powO (M.bind (M.ofB (E2 addO (E2 addO (IxN 0 (M.pure (.val (.int 1)))) (M.ofB (E2 mulO (E2 mulO (M.pure (.val (.int 147487))) (M.ofB (IxN 0 (M.pure (.val (.int 2)))))) (M.ofB (IxN 0 (M.pure (.val (.int 2)))))))) (M.ofB (M.pure (.val (.int 4231)))))) fun d => M.lift (intO1 d)) (M.ofB (M.pure (.val (.int 3)))))) fun d => M.lift (intO1 d)) (peek 3))) (retS (E2 modO (M.bind (M.ofB (E2 divO (E2 mulO (var 4) (M.ofB (E2 addO (E2 modO (M.bind (peek 4) fun d => M.lift (intO1 d)) (M.ofB (M.pure (.val (.int 10007))))) (M.ofB (E2 mulO (M.pure (.val (.int 3433))) (M.ofB (IxN 0 (M.pure (.val (.int 2)))))))))) (M.ofB (M.pure (.val (.int 307)))))) fun d => M.lift (intO1 d)) (peek 1))))))
def f__law_take : Fn := runFn 5 b__law_take
theorem ok__law_take (G : Facts K mg) : Cal P w K mg base 1 "_law_take" 2 f__law_take := by
  have S : FnScope ["pot", "upto", "digit", "prime", "blend"] ["pot", "upto"] (defScope (top 38)) := C8.fnScope_by (by decide +kernel)
  refine cal_of (body := b__law_take) G.d__law_take S (by decide) fun f cdv A outer s H E C hr hgd => ?_
  have tk := takes_of (X := cxOf (L2.CX P w) P w K mg base ["pot", "upto", "digit", "prime", "blend"] "_law_take" (defScope (top 38)) f cdv A outer s H E) rfl rfl rfl rfl
  have po : PassesOwn (model P w) (cxOf (L2.CX P w) P w K mg base ["pot", "upto", "digit", "prime", "blend"] "_law_take" (defScope (top 38)) f cdv A outer s H E).A (cxOf (L2.CX P w) P w K mg base ["pot", "upto", "digit", "prime", "blend"] "_law_take" (defScope (top 38)) f cdv A outer s H E).env (cxOf (L2.CX P w) P w K mg base ["pot", "upto", "digit", "prime", "blend"] "_law_take" (defScope (top 38)) f cdv A outer s H E).xe := passes_of rfl
  exact gss_cons (gs_if (gt_cmp op_gt pureGt (ge_ixN (i := 0) rfl (ge_int)) (gb_of (ge_int))) (gss_cons (gs_set (i := 2) S.nd rfl (ge_op opMod pureMod (ge_t1 call_int1 pure_int G.f_int (by decide +kernel) (gb_of (ge_ixN (i := 0) rfl (ge_int)))) (gb_name (i := 1) rfl))) (gss_cons (gs_setIx (i := 0) rfl (ge_op opDiv pureDiv (ge_ixN (i := 0) rfl (ge_int)) (gb_name (i := 1) rfl)) (ge_int)) (gss_one (gs_retV (i := 2) rfl)))) (gss_nil)) (gss_cons (gs_setIx (i := 0) rfl (ge_op opAdd pureAdd (ge_ixN (i := 0) rfl (ge_int)) (gb_of (ge_int))) (ge_int)) (gss_cons (gs_set (i := 3) S.nd rfl (ge_ix (ge_lst (ga_cons (ge_int) (ga_cons (ge_int) (ga_cons (ge_int) (ga_cons (ge_int) (ga_nil)))))) (gb_of (ge_op opMod pureMod (ge_t1 call_int1 pure_int G.f_int (by decide +kernel) (gb_of (ge_ixN (i := 0) rfl (ge_int)))) (gb_of (ge_int)))))) (gss_cons (gs_set (i := 4) S.nd rfl (ge_op opMod pureMod (ge_t1 call_int1 pure_int G.f_int (by decide +kernel) (gb_of (ge_op opPow purePow (ge_t1 call_int1 pure_int G.f_int (by decide +kernel) (gb_of (ge_op opAdd pureAdd (ge_op opAdd pureAdd (ge_ixN (i := 0) rfl (ge_int)) (gb_of (ge_op opMul pureMul (ge_op opMul pureMul (ge_int) (gb_of (ge_ixN (i := 0) rfl (ge_int)))) (gb_of (ge_ixN (i := 0) rfl (ge_int)))))) (gb_of (ge_int))))) (gb_of (ge_int))))) (gb_name (i := 3) rfl))) (gss_one (gs_ret (ge_op opMod pureMod (ge_t1 call_int1 pure_int G.f_int (by decide +kernel) (gb_of (ge_op opDiv pureDiv (ge_op opMul pureMul (ge_var (i := 4) rfl) (gb_of (ge_op opAdd pureAdd (ge_op opMod pureMod (ge_t1 call_int1 pure_int G.f_int (by decide +kernel) (gb_name (i := 4) rfl)) (gb_of (ge_int))) (gb_of (ge_op opMul pureMul (ge_int) (gb_of (ge_ixN (i := 0) rfl (ge_int)))))))) (gb_of (ge_int))))) (gb_name (i := 1) rfl)))))))
def b__law_of : SM := retS (IxN 1 (M.bind (M.consS 0 (M.consV (M.bind (peek 1) fun d => M.lift (lenO d)) (M.pure []))) (callB 2 f__law_take)))
def f__law_of : Fn := runFn 2 b__law_of
theorem ok__law_of (G : Facts K mg) : Cal P w K mg base 2 "_law_of" 2 f__law_of := by
  have S : FnScope ["pot", "some"] ["pot", "some"] (defScope (top 39)) := C8.fnScope_by (by decide +kernel)
  refine cal_of (body := b__law_of) G.d__law_of S (by decide) fun f cdv A outer s H E C hr hgd => ?_
  have tk := takes_of (X := cxOf (L2.CX P w) P w K mg base ["pot", "some"] "_law_of" (defScope (top 39)) f cdv A outer s H E) rfl rfl rfl rfl
  have po : PassesOwn (model P w) (cxOf (L2.CX P w) P w K mg base ["pot", "some"] "_law_of" (defScope (top 39)) f cdv A outer s H E).A (cxOf (L2.CX P w) P w K mg base ["pot", "some"] "_law_of" (defScope (top 39)) f cdv A outer s H E).env (cxOf (L2.CX P w) P w K mg base ["pot", "some"] "_law_of" (defScope (top 39)) f cdv A outer s H E).xe := passes_of rfl
  exact gss_one (gs_ret (ge_ixN (i := 1) rfl (ge_call (ok__law_take G) tk hr hgd (gr_ref (i := 0) rfl (gr_val (ge_b1 call_len pure_len G.f_len (by decide +kernel) (gb_name (i := 1) rfl)) (gr_nil))))))
def b__law_cells : SM := retS (M.bind (M.ofB (M.bind (M.cons (M.pure (.val (.int 1))) (M.cons (M.bind (M.cons (var 1) (M.cons (M.bind (peek 0) fun d => M.lift (lenO d)) (M.pure []))) fun ds => M.lift (min2O ds)) (M.pure []))) fun ds => M.lift (max2O ds))) fun d => M.lift (lrg1O d))
def f__law_cells : Fn := runFn 2 b__law_cells
theorem ok__law_cells (G : Facts K mg) : Cal P w K mg base 1 "_law_cells" 2 f__law_cells := by
  have S : FnScope ["script", "limit"] ["script", "limit"] (defScope (top 40)) := C8.fnScope_by (by decide +kernel)
  refine cal_of (body := b__law_cells) G.d__law_cells S (by decide) fun f cdv A outer s H E C hr hgd => ?_
  have tk := takes_of (X := cxOf (L2.CX P w) P w K mg base ["script", "limit"] "_law_cells" (defScope (top 40)) f cdv A outer s H E) rfl rfl rfl rfl
  have po : PassesOwn (model P w) (cxOf (L2.CX P w) P w K mg base ["script", "limit"] "_law_cells" (defScope (top 40)) f cdv A outer s H E).A (cxOf (L2.CX P w) P w K mg base ["script", "limit"] "_law_cells" (defScope (top 40)) f cdv A outer s H E).env (cxOf (L2.CX P w) P w K mg base ["script", "limit"] "_law_cells" (defScope (top 40)) f cdv A outer s H E).xe := passes_of rfl
  exact gss_one (gs_ret (ge_lrg1 rfl G.f_list G.f_range (gb_of (ge_bn (call_max2 rfl) pure_max2 G.f_max (by decide +kernel) (ga_cons (ge_int) (ga_cons (ge_bn (call_min2 rfl) pure_min2 G.f_min (by decide +kernel) (ga_cons (ge_var (i := 1) rfl) (ga_cons (ge_b1 call_len pure_len G.f_len (by decide +kernel) (gb_name (i := 0) rfl)) (ga_nil)))) (ga_nil)))))))
def b__law_trim : SM := seqS (asgS 1 (M.bind (peek 0) fun d => M.lift (lenO d))) (seqS (forS (M.bind (M.cons (M.bind (peek 0) fun d => M.lift (lenO d)) (M.pure [])) rng1) (.nm 2) (ifS (M.and (M.bind (E2 gtO (var 1) (M.ofB (M.pure (.val (.int 0))))) asB) (M.bind (E2 eqO (IxN 0 (E2 subO (var 1) (M.ofB (M.pure (.val (.int 1)))))) (M.ofB (M.pure (.val (.int 0))))) asB)) (asgS 1 (E2 subO (var 1) (M.ofB (M.pure (.val (.int 1)))))) (nextS))) (retS (M.bind (M.ofB (SlN 0 (M.pure none) (M.part (var 1)))) fun d => M.lift (tupleO d))))
def f__law_trim : Fn := runFn 3 b__law_trim
theorem ok__law_trim (G : Facts K mg) : Cal P w K mg base 1 "_law_trim" 1 f__law_trim := by
  have S : FnScope ["some", "long", "lap"] ["some"] (defScope (top 41)) := C8.fnScope_by (by decide +kernel)
  refine cal_of (body := b__law_trim) G.d__law_trim S (by decide) fun f cdv A outer s H E C hr hgd => ?_
  have tk := takes_of (X := cxOf (L2.CX P w) P w K mg base ["some", "long", "lap"] "_law_trim" (defScope (top 41)) f cdv A outer s H E) rfl rfl rfl rfl
  have po : PassesOwn (model P w) (cxOf (L2.CX P w) P w K mg base ["some", "long", "lap"] "_law_trim" (defScope (top 41)) f cdv A outer s H E).A (cxOf (L2.CX P w) P w K mg base ["some", "long", "lap"] "_law_trim" (defScope (top 41)) f cdv A outer s H E).env (cxOf (L2.CX P w) P w K mg base ["some", "long", "lap"] "_law_trim" (defScope (top 41)) f cdv A outer s H E).xe := passes_of rfl
  exact gss_cons (gs_set (i := 1) S.nd rfl (ge_b1 call_len pure_len G.f_len (by decide +kernel) (gb_name (i := 0) rfl))) (gss_cons (gs_for po rfl (gi_range1 G.f_range (ga_cons (ge_b1 call_len pure_len G.f_len (by decide +kernel) (gb_name (i := 0) rfl)) (ga_nil))) (gg_name (i := 2) (S.nd) rfl) (gss_one (gs_if (gt_w (gw_and (gt_cmp op_gt pureGt (ge_var (i := 1) rfl) (gb_of (ge_int))) (gw_and1 (gt_cmp (opEqD hr) pureEq (ge_ixN (i := 0) rfl (ge_op opSub pureSub (ge_var (i := 1) rfl) (gb_of (ge_int)))) (gb_of (ge_int)))))) (gss_one (gs_set (i := 1) S.nd rfl (ge_op opSub pureSub (ge_var (i := 1) rfl) (gb_of (ge_int))))) (gss_nil)))) (gss_one (gs_ret (ge_t1 call_tuple_of pure_tuple G.f_tuple (by decide +kernel) (gb_of (ge_slN (i := 0) rfl (go_none) (go_some (ge_var (i := 1) rfl))))))))
def b__law_sum : SM := seqS (asgS 4 (M.bind (M.cons (M.bind (peek 1) fun d => M.lift (lenO d)) (M.cons (M.bind (peek 2) fun d => M.lift (lenO d)) (M.pure []))) fun ds => M.lift (max2O ds))) (seqS (par2 5 6 (E2 addO (M.bind (peek 1) fun d => M.lift (listO d)) (M.ofB (E2 mulO (M.bind (M.cons (M.pure (.val (.int 0))) (M.pure [])) fun ds => M.lift (lstO ds)) (M.ofB (E2 subO (var 4) (M.ofB (M.bind (peek 1) fun d => M.lift (lenO d)))))))) (E2 addO (M.bind (peek 2) fun d => M.lift (listO d)) (M.ofB (E2 mulO (M.bind (M.cons (M.pure (.val (.int 0))) (M.pure [])) fun ds => M.lift (lstO ds)) (M.ofB (E2 subO (var 4) (M.ofB (M.bind (peek 2) fun d => M.lift (lenO d))))))))) (retS (M.bind (M.consV (M.bind (M.bind (M.cons (var 5) (M.cons (var 6) (M.pure []))) zipB) (compB (.tp [7, 8]) (M.pure true) (E2 modO (M.bind (M.ofB (E2 addO (var 7) (M.ofB (E2 mulO (var 3) (peek 8))))) fun d => M.lift (intO1 d)) (peek 0)) [7, 8])) (M.pure [])) (callB 1 f__law_trim))))
def f__law_sum : Fn := runFn 9 b__law_sum
theorem ok__law_sum (G : Facts K mg) : Cal P w K mg base 2 "_law_sum" 4 f__law_sum := by
  have S : FnScope ["field", "one", "other", "times_other", "many", "first", "last", "a", "b"] ["field", "one", "other", "times_other"] (defScope (top 42)) := C8.fnScope_by (by decide +kernel)
  refine cal_of (body := b__law_sum) G.d__law_sum S (by decide) fun f cdv A outer s H E C hr hgd => ?_
  have tk := takes_of (X := cxOf (L2.CX P w) P w K mg base ["field", "one", "other", "times_other", "many", "first", "last", "a", "b"] "_law_sum" (defScope (top 42)) f cdv A outer s H E) rfl rfl rfl rfl
  have po : PassesOwn (model P w) (cxOf (L2.CX P w) P w K mg base ["field", "one", "other", "times_other", "many", "first", "last", "a", "b"] "_law_sum" (defScope (top 42)) f cdv A outer s H E).A (cxOf (L2.CX P w) P w K mg base ["field", "one", "other", "times_other", "many", "first", "last", "a", "b"] "_law_sum" (defScope (top 42)) f cdv A outer s H E).env (cxOf (L2.CX P w) P w K mg base ["field", "one", "other", "times_other", "many", "first", "last", "a", "b"] "_law_sum" (defScope (top 42)) f cdv A outer s H E).xe := passes_of rfl
  exact gss_cons (gs_set (i := 4) S.nd rfl (ge_bn (call_max2 rfl) pure_max2 G.f_max (by decide +kernel) (ga_cons (ge_b1 call_len pure_len G.f_len (by decide +kernel) (gb_name (i := 1) rfl)) (ga_cons (ge_b1 call_len pure_len G.f_len (by decide +kernel) (gb_name (i := 2) rfl)) (ga_nil))))) (gss_cons (gs_par (i := 5) (j := 6) rfl S.nd rfl rfl (by decide) (ge_op opAdd pureAdd (ge_t1 call_list_of pure_list G.f_list (by decide +kernel) (gb_name (i := 1) rfl)) (gb_of (ge_op opMul pureMul (ge_lst (ga_cons (ge_int) (ga_nil))) (gb_of (ge_op opSub pureSub (ge_var (i := 4) rfl) (gb_of (ge_b1 call_len pure_len G.f_len (by decide +kernel) (gb_name (i := 1) rfl)))))))) (fun C => ge_op opAdd pureAdd (ge_t1 call_list_of pure_list G.f_list (by decide +kernel) (gb_name (i := 2) rfl)) (gb_of (ge_op opMul pureMul (ge_lst (ga_cons (ge_int) (ga_nil))) (gb_of (ge_op opSub pureSub (ge_var (i := 4) rfl) (gb_of (ge_b1 call_len pure_len G.f_len (by decide +kernel) (gb_name (i := 2) rfl))))))))) (gss_one (gs_ret (ge_call (ok__law_trim G) tk hr hgd (gr_val (ge_lc (own := [("a", 7), ("b", 8)]) rfl S.nd (gi_zip G.f_zip (ga_cons (ge_var (i := 5) rfl) (ga_cons (ge_var (i := 6) rfl) (ga_nil)))) (blkOk_by (N := ["field", "one", "other", "times_other", "many", "first", "last", "a", "b"]) (sc := defScope (top 42)) (by decide +kernel)) (fun C _ _ _ _ _ => gg_tup rfl (ggs_cons (i := 7) S.nd rfl (ggs_cons (i := 8) S.nd rfl (ggs_nil)))) (fun C _ _ _ _ _ => gts_nil) (fun C _ _ _ _ _ => ge_op opMod pureMod (ge_t1 call_int1 pure_int G.f_int (by decide +kernel) (gb_of (ge_op opAdd pureAdd (ge_var (i := 7) rfl) (gb_of (ge_op opMul pureMul (ge_var (i := 3) rfl) (gb_name (i := 8) rfl)))))) (gb_name (i := 0) rfl))) (gr_nil))))))
def b__law_mul : SM := seqS (asgS 3 (E2 mulO (M.bind (M.cons (M.pure (.val (.int 0))) (M.pure [])) fun ds => M.lift (lstO ds)) (M.ofB (M.bind (M.cons (M.pure (.val (.int 0))) (M.cons (E2 subO (E2 addO (M.bind (peek 1) fun d => M.lift (lenO d)) (M.ofB (M.bind (peek 2) fun d => M.lift (lenO d)))) (M.ofB (M.pure (.val (.int 1))))) (M.pure []))) fun ds => M.lift (max2O ds))))) (seqS (forS (M.bind (M.cons (var 1) (M.pure [])) enumB) (.tp [4, 5]) (forS (M.bind (M.cons (var 2) (M.pure [])) enumB) (.tp [6, 7]) (setIx 3 (E2 modO (M.bind (M.ofB (E2 addO (IxN 3 (E2 addO (var 4) (peek 6))) (M.ofB (E2 mulO (var 5) (peek 7))))) fun d => M.lift (intO1 d)) (peek 0)) (E2 addO (var 4) (peek 6))))) (retS (M.bind (M.consV (var 3) (M.pure [])) (callB 1 f__law_trim))))
def f__law_mul : Fn := runFn 8 b__law_mul
theorem ok__law_mul (G : Facts K mg) : Cal P w K mg base 2 "_law_mul" 3 f__law_mul := by
  have S : FnScope ["field", "one", "other", "found", "spot", "a", "to", "b"] ["field", "one", "other"] (defScope (top 43)) := C8.fnScope_by (by decide +kernel)
  refine cal_of (body := b__law_mul) G.d__law_mul S (by decide) fun f cdv A outer s H E C hr hgd => ?_
  have tk := takes_of (X := cxOf (L2.CX P w) P w K mg base ["field", "one", "other", "found", "spot", "a", "to", "b"] "_law_mul" (defScope (top 43)) f cdv A outer s H E) rfl rfl rfl rfl
  have po : PassesOwn (model P w) (cxOf (L2.CX P w) P w K mg base ["field", "one", "other", "found", "spot", "a", "to", "b"] "_law_mul" (defScope (top 43)) f cdv A outer s H E).A (cxOf (L2.CX P w) P w K mg base ["field", "one", "other", "found", "spot", "a", "to", "b"] "_law_mul" (defScope (top 43)) f cdv A outer s H E).env (cxOf (L2.CX P w) P w K mg base ["field", "one", "other", "found", "spot", "a", "to", "b"] "_law_mul" (defScope (top 43)) f cdv A outer s H E).xe := passes_of rfl
  exact gss_cons (gs_set (i := 3) S.nd rfl (ge_op opMul pureMul (ge_lst (ga_cons (ge_int) (ga_nil))) (gb_of (ge_bn (call_max2 rfl) pure_max2 G.f_max (by decide +kernel) (ga_cons (ge_int) (ga_cons (ge_op opSub pureSub (ge_op opAdd pureAdd (ge_b1 call_len pure_len G.f_len (by decide +kernel) (gb_name (i := 1) rfl)) (gb_of (ge_b1 call_len pure_len G.f_len (by decide +kernel) (gb_name (i := 2) rfl)))) (gb_of (ge_int))) (ga_nil))))))) (gss_cons (gs_for po rfl (gi_enum G.f_enumerate (ga_cons (ge_var (i := 1) rfl) (ga_nil))) (gg_tup rfl (ggs_cons (i := 4) S.nd rfl (ggs_cons (i := 5) S.nd rfl (ggs_nil)))) (gss_one (gs_for po rfl (gi_enum G.f_enumerate (ga_cons (ge_var (i := 2) rfl) (ga_nil))) (gg_tup rfl (ggs_cons (i := 6) S.nd rfl (ggs_cons (i := 7) S.nd rfl (ggs_nil)))) (gss_one (gs_setIx (i := 3) rfl (ge_op opMod pureMod (ge_t1 call_int1 pure_int G.f_int (by decide +kernel) (gb_of (ge_op opAdd pureAdd (ge_ixN (i := 3) rfl (ge_op opAdd pureAdd (ge_var (i := 4) rfl) (gb_name (i := 6) rfl))) (gb_of (ge_op opMul pureMul (ge_var (i := 5) rfl) (gb_name (i := 7) rfl)))))) (gb_name (i := 0) rfl)) (ge_op opAdd pureAdd (ge_var (i := 4) rfl) (gb_name (i := 6) rfl))))))) (gss_one (gs_ret (ge_call (ok__law_trim G) tk hr hgd (gr_val (ge_var (i := 3) rfl) (gr_nil))))))
def b__law_inverse_of : SM := retS (E2 getO (M.bind (M.bind (M.cons (M.pure (.val (.int 1))) (M.cons (var 0) (M.pure []))) rng2) (compB (.nm 2) (M.bind (E2 eqO (E2 modO (M.bind (M.ofB (E2 mulO (var 2) (peek 1))) fun d => M.lift (intO1 d)) (peek 0)) (M.ofB (M.pure (.val (.int 1))))) asB) (var 2) [2])) (M.ofB (M.pure (.val (.int 0)))))
def f__law_inverse_of : Fn := runFn 3 b__law_inverse_of
theorem ok__law_inverse_of (G : Facts K mg) : Cal P w K mg base 1 "_law_inverse_of" 2 f__law_inverse_of := by
  have S : FnScope ["field", "number", "one"] ["field", "number"] (defScope (top 44)) := C8.fnScope_by (by decide +kernel)
  refine cal_of (body := b__law_inverse_of) G.d__law_inverse_of S (by decide) fun f cdv A outer s H E C hr hgd => ?_
  have tk := takes_of (X := cxOf (L2.CX P w) P w K mg base ["field", "number", "one"] "_law_inverse_of" (defScope (top 44)) f cdv A outer s H E) rfl rfl rfl rfl
  have po : PassesOwn (model P w) (cxOf (L2.CX P w) P w K mg base ["field", "number", "one"] "_law_inverse_of" (defScope (top 44)) f cdv A outer s H E).A (cxOf (L2.CX P w) P w K mg base ["field", "number", "one"] "_law_inverse_of" (defScope (top 44)) f cdv A outer s H E).env (cxOf (L2.CX P w) P w K mg base ["field", "number", "one"] "_law_inverse_of" (defScope (top 44)) f cdv A outer s H E).xe := passes_of rfl
  exact gss_one (gs_ret (ge_ix (ge_lc (own := [("one", 2)]) rfl S.nd (gi_range2 G.f_range (ga_cons (ge_int) (ga_cons (ge_var (i := 0) rfl) (ga_nil)))) (blkOk_by (N := ["field", "number", "one"]) (sc := defScope (top 44)) (by decide +kernel)) (fun C _ _ _ _ _ => gg_name (i := 2) (S.nd) rfl) (fun C _ _ _ _ _ => gts_one (gt_cmp (opEqD hr) pureEq (ge_op opMod pureMod (ge_t1 call_int1 pure_int G.f_int (by decide +kernel) (gb_of (ge_op opMul pureMul (ge_var (i := 2) rfl) (gb_name (i := 1) rfl)))) (gb_name (i := 0) rfl)) (gb_of (ge_int)))) (fun C _ _ _ _ _ => ge_var (i := 2) rfl)) (gb_of (ge_int))))
def b__law_divide : SM := seqS (par2 3 4 (M.bind (peek 1) fun d => M.lift (listO d)) (E2 mulO (M.bind (M.cons (M.pure (.val (.int 0))) (M.pure [])) fun ds => M.lift (lstO ds)) (M.ofB (M.bind (M.cons (M.pure (.val (.int 0))) (M.cons (E2 addO (E2 subO (M.bind (peek 1) fun d => M.lift (lenO d)) (M.ofB (M.bind (peek 2) fun d => M.lift (lenO d)))) (M.ofB (M.pure (.val (.int 1))))) (M.pure []))) fun ds => M.lift (max2O ds))))) (seqS (asgS 5 (M.bind (M.consV (var 0) (M.consV (IxN 2 (M.bind (M.ofB (M.pure (.val (.int 1)))) fun d => M.lift (negO d))) (M.pure []))) (callB 2 f__law_inverse_of))) (seqS (forS (M.bind (M.cons (E2 subO (M.bind (peek 1) fun d => M.lift (lenO d)) (M.ofB (M.bind (peek 2) fun d => M.lift (lenO d)))) (M.cons (M.bind (M.ofB (M.pure (.val (.int 1)))) fun d => M.lift (negO d)) (M.cons (M.bind (M.ofB (M.pure (.val (.int 1)))) fun d => M.lift (negO d)) (M.pure [])))) rng3) (.nm 6) (seqS (asgS 7 (E2 modO (M.bind (M.ofB (E2 mulO (IxN 3 (E2 subO (E2 addO (var 6) (M.ofB (M.bind (peek 2) fun d => M.lift (lenO d)))) (M.ofB (M.pure (.val (.int 1)))))) (peek 5))) fun d => M.lift (intO1 d)) (peek 0))) (seqS (setIx 4 (var 7) (var 6)) (forS (M.bind (M.cons (var 2) (M.pure [])) enumB) (.tp [8, 9]) (setIx 3 (E2 modO (M.bind (M.ofB (E2 subO (IxN 3 (E2 addO (var 6) (peek 8))) (M.ofB (E2 mulO (var 7) (peek 9))))) fun d => M.lift (intO1 d)) (peek 0)) (E2 addO (var 6) (peek 8))))))) (retS (M.bind (M.cons (M.bind (M.consV (var 4) (M.pure [])) (callB 1 f__law_trim)) (M.cons (M.bind (M.consV (var 3) (M.pure [])) (callB 1 f__law_trim)) (M.pure []))) fun ds => M.lift (tupO ds)))))
def f__law_divide : Fn := runFn 10 b__law_divide
theorem ok__law_divide (G : Facts K mg) : Cal P w K mg base 2 "_law_divide" 3 f__law_divide := by
  have S : FnScope ["field", "one", "other", "rest_of_v", "found", "last", "spot", "many", "to", "b"] ["field", "one", "other"] (defScope (top 45)) := C8.fnScope_by (by decide +kernel)
  refine cal_of (body := b__law_divide) G.d__law_divide S (by decide) fun f cdv A outer s H E C hr hgd => ?_
  have tk := takes_of (X := cxOf (L2.CX P w) P w K mg base ["field", "one", "other", "rest_of_v", "found", "last", "spot", "many", "to", "b"] "_law_divide" (defScope (top 45)) f cdv A outer s H E) rfl rfl rfl rfl
  have po : PassesOwn (model P w) (cxOf (L2.CX P w) P w K mg base ["field", "one", "other", "rest_of_v", "found", "last", "spot", "many", "to", "b"] "_law_divide" (defScope (top 45)) f cdv A outer s H E).A (cxOf (L2.CX P w) P w K mg base ["field", "one", "other", "rest_of_v", "found", "last", "spot", "many", "to", "b"] "_law_divide" (defScope (top 45)) f cdv A outer s H E).env (cxOf (L2.CX P w) P w K mg base ["field", "one", "other", "rest_of_v", "found", "last", "spot", "many", "to", "b"] "_law_divide" (defScope (top 45)) f cdv A outer s H E).xe := passes_of rfl
  exact gss_cons (gs_par (i := 3) (j := 4) rfl S.nd rfl rfl (by decide) (ge_t1 call_list_of pure_list G.f_list (by decide +kernel) (gb_name (i := 1) rfl)) (fun C => ge_op opMul pureMul (ge_lst (ga_cons (ge_int) (ga_nil))) (gb_of (ge_bn (call_max2 rfl) pure_max2 G.f_max (by decide +kernel) (ga_cons (ge_int) (ga_cons (ge_op opAdd pureAdd (ge_op opSub pureSub (ge_b1 call_len pure_len G.f_len (by decide +kernel) (gb_name (i := 1) rfl)) (gb_of (ge_b1 call_len pure_len G.f_len (by decide +kernel) (gb_name (i := 2) rfl)))) (gb_of (ge_int))) (ga_nil))))))) (gss_cons (gs_set (i := 5) S.nd rfl (ge_call (ok__law_inverse_of G) tk hr hgd (gr_val (ge_var (i := 0) rfl) (gr_val (ge_ixN (i := 2) rfl (ge_neg (gb_of (ge_int)))) (gr_nil))))) (gss_cons (gs_for po rfl (gi_range3 G.f_range (ga_cons (ge_op opSub pureSub (ge_b1 call_len pure_len G.f_len (by decide +kernel) (gb_name (i := 1) rfl)) (gb_of (ge_b1 call_len pure_len G.f_len (by decide +kernel) (gb_name (i := 2) rfl)))) (ga_cons (ge_neg (gb_of (ge_int))) (ga_cons (ge_neg (gb_of (ge_int))) (ga_nil))))) (gg_name (i := 6) (S.nd) rfl) (gss_cons (gs_set (i := 7) S.nd rfl (ge_op opMod pureMod (ge_t1 call_int1 pure_int G.f_int (by decide +kernel) (gb_of (ge_op opMul pureMul (ge_ixN (i := 3) rfl (ge_op opSub pureSub (ge_op opAdd pureAdd (ge_var (i := 6) rfl) (gb_of (ge_b1 call_len pure_len G.f_len (by decide +kernel) (gb_name (i := 2) rfl)))) (gb_of (ge_int)))) (gb_name (i := 5) rfl)))) (gb_name (i := 0) rfl))) (gss_cons (gs_setIx (i := 4) rfl (ge_var (i := 7) rfl) (ge_var (i := 6) rfl)) (gss_one (gs_for po rfl (gi_enum G.f_enumerate (ga_cons (ge_var (i := 2) rfl) (ga_nil))) (gg_tup rfl (ggs_cons (i := 8) S.nd rfl (ggs_cons (i := 9) S.nd rfl (ggs_nil)))) (gss_one (gs_setIx (i := 3) rfl (ge_op opMod pureMod (ge_t1 call_int1 pure_int G.f_int (by decide +kernel) (gb_of (ge_op opSub pureSub (ge_ixN (i := 3) rfl (ge_op opAdd pureAdd (ge_var (i := 6) rfl) (gb_name (i := 8) rfl))) (gb_of (ge_op opMul pureMul (ge_var (i := 7) rfl) (gb_name (i := 9) rfl)))))) (gb_name (i := 0) rfl)) (ge_op opAdd pureAdd (ge_var (i := 6) rfl) (gb_name (i := 8) rfl))))))))) (gss_one (gs_ret (ge_tup (ga_cons (ge_call (ok__law_trim G) tk hr hgd (gr_val (ge_var (i := 4) rfl) (gr_nil))) (ga_cons (ge_call (ok__law_trim G) tk hr hgd (gr_val (ge_var (i := 3) rfl) (gr_nil))) (ga_nil))))))))
def b__law_monic : SM := retS (M.ite (M.bind (E2 neO (var 1) (M.ofB (M.bind (M.pure []) fun ds => M.lift (tupO ds)))) asB) (M.bind (M.consV (var 0) (M.consV (var 1) (M.consV (M.bind (M.cons (M.bind (M.consV (var 0) (M.consV (IxN 1 (M.bind (M.ofB (M.pure (.val (.int 1)))) fun d => M.lift (negO d))) (M.pure []))) (callB 2 f__law_inverse_of)) (M.pure [])) fun ds => M.lift (tupO ds)) (M.pure [])))) (callB 3 f__law_mul)) (M.bind (M.pure []) fun ds => M.lift (tupO ds)))
def f__law_monic : Fn := runFn 2 b__law_monic
theorem ok__law_monic (G : Facts K mg) : Cal P w K mg base 3 "_law_monic" 2 f__law_monic := by
  have S : FnScope ["field", "poly"] ["field", "poly"] (defScope (top 46)) := C8.fnScope_by (by decide +kernel)
  refine cal_of (body := b__law_monic) G.d__law_monic S (by decide) fun f cdv A outer s H E C hr hgd => ?_
  have tk := takes_of (X := cxOf (L2.CX P w) P w K mg base ["field", "poly"] "_law_monic" (defScope (top 46)) f cdv A outer s H E) rfl rfl rfl rfl
  have po : PassesOwn (model P w) (cxOf (L2.CX P w) P w K mg base ["field", "poly"] "_law_monic" (defScope (top 46)) f cdv A outer s H E).A (cxOf (L2.CX P w) P w K mg base ["field", "poly"] "_law_monic" (defScope (top 46)) f cdv A outer s H E).env (cxOf (L2.CX P w) P w K mg base ["field", "poly"] "_law_monic" (defScope (top 46)) f cdv A outer s H E).xe := passes_of rfl
  exact gss_one (gs_ret (ge_ifExp (gt_cmp (opNeD hr) pureNe (ge_var (i := 1) rfl) (gb_of (ge_tup (ga_nil)))) (ge_call (ok__law_mul G) tk hr hgd (gr_val (ge_var (i := 0) rfl) (gr_val (ge_var (i := 1) rfl) (gr_val (ge_tup (ga_cons (ge_call (ok__law_inverse_of G) tk hr hgd (gr_val (ge_var (i := 0) rfl) (gr_val (ge_ixN (i := 1) rfl (ge_neg (gb_of (ge_int)))) (gr_nil)))) (ga_nil))) (gr_nil))))) (ge_tup (ga_nil))))
def b__law_gcd : SM := seqS (forS (M.bind (M.cons (M.pure (.val (.int 200))) (M.pure [])) rng1) (.nm 3) (seqS (ifS (M.bind (E2 eqO (var 2) (M.ofB (M.bind (M.pure []) fun ds => M.lift (tupO ds)))) asB) (brkS) (nextS)) (par2 1 2 (var 2) (E2 getO (M.bind (M.consV (var 0) (M.consV (var 1) (M.consV (var 2) (M.pure [])))) (callB 3 f__law_divide)) (M.ofB (M.pure (.val (.int 1)))))))) (retS (M.bind (M.consV (var 0) (M.consV (var 1) (M.pure []))) (callB 2 f__law_monic)))
def f__law_gcd : Fn := runFn 4 b__law_gcd
theorem ok__law_gcd (G : Facts K mg) : Cal P w K mg base 4 "_law_gcd" 3 f__law_gcd := by
  have S : FnScope ["field", "one", "other", "lap"] ["field", "one", "other"] (defScope (top 47)) := C8.fnScope_by (by decide +kernel)
  refine cal_of (body := b__law_gcd) G.d__law_gcd S (by decide) fun f cdv A outer s H E C hr hgd => ?_
  have tk := takes_of (X := cxOf (L2.CX P w) P w K mg base ["field", "one", "other", "lap"] "_law_gcd" (defScope (top 47)) f cdv A outer s H E) rfl rfl rfl rfl
  have po : PassesOwn (model P w) (cxOf (L2.CX P w) P w K mg base ["field", "one", "other", "lap"] "_law_gcd" (defScope (top 47)) f cdv A outer s H E).A (cxOf (L2.CX P w) P w K mg base ["field", "one", "other", "lap"] "_law_gcd" (defScope (top 47)) f cdv A outer s H E).env (cxOf (L2.CX P w) P w K mg base ["field", "one", "other", "lap"] "_law_gcd" (defScope (top 47)) f cdv A outer s H E).xe := passes_of rfl
  exact gss_cons (gs_for po rfl (gi_range1 G.f_range (ga_cons (ge_int) (ga_nil))) (gg_name (i := 3) (S.nd) rfl) (gss_cons (gs_if (gt_cmp (opEqD hr) pureEq (ge_var (i := 2) rfl) (gb_of (ge_tup (ga_nil)))) (gss_one (gs_break)) (gss_nil)) (gss_one (gs_par (i := 1) (j := 2) rfl S.nd rfl rfl (by decide) (ge_var (i := 2) rfl) (fun C => ge_ix (ge_call (ok__law_divide G) tk hr hgd (gr_val (ge_var (i := 0) rfl) (gr_val (ge_var (i := 1) rfl) (gr_val (ge_var (i := 2) rfl) (gr_nil))))) (gb_of (ge_int))))))) (gss_one (gs_ret (ge_call (ok__law_monic G) tk hr hgd (gr_val (ge_var (i := 0) rfl) (gr_val (ge_var (i := 1) rfl) (gr_nil))))))
def b__law_field : SM := retS (M.bind (M.consS 0 (M.consV (M.bind (M.cons (M.pure (.val (.int 2))) (M.cons (M.pure (.val (.int 2))) (M.cons (M.pure (.val (.int 3))) (M.cons (M.pure (.val (.int 5))) (M.pure []))))) fun ds => M.lift (lstO ds)) (M.pure []))) (callB 2 f__law_of))
def f__law_field : Fn := runFn 1 b__law_field
theorem ok__law_field (G : Facts K mg) : Cal P w K mg base 3 "_law_field" 1 f__law_field := by
  have S : FnScope ["pot"] ["pot"] (defScope (top 48)) := C8.fnScope_by (by decide +kernel)
  refine cal_of (body := b__law_field) G.d__law_field S (by decide) fun f cdv A outer s H E C hr hgd => ?_
  have tk := takes_of (X := cxOf (L2.CX P w) P w K mg base ["pot"] "_law_field" (defScope (top 48)) f cdv A outer s H E) rfl rfl rfl rfl
  have po : PassesOwn (model P w) (cxOf (L2.CX P w) P w K mg base ["pot"] "_law_field" (defScope (top 48)) f cdv A outer s H E).A (cxOf (L2.CX P w) P w K mg base ["pot"] "_law_field" (defScope (top 48)) f cdv A outer s H E).env (cxOf (L2.CX P w) P w K mg base ["pot"] "_law_field" (defScope (top 48)) f cdv A outer s H E).xe := passes_of rfl
  exact gss_one (gs_ret (ge_call (ok__law_of G) tk hr hgd (gr_ref (i := 0) rfl (gr_val (ge_lst (ga_cons (ge_int) (ga_cons (ge_int) (ga_cons (ge_int) (ga_cons (ge_int) (ga_nil)))))) (gr_nil)))))
def b__law_poly : SM := retS (M.bind (M.consV (M.bind (M.bind (M.cons (M.bind (M.consS 0 (M.consV (E2 addO (var 2) (M.ofB (M.pure (.val (.int 2))))) (M.pure []))) (callB 2 f__law_take)) (M.pure [])) rng1) (compB (.nm 3) (M.pure true) (M.bind (M.ofB (M.bind (M.consS 0 (M.consV (var 1) (M.pure []))) (callB 2 f__law_take))) fun d => M.lift (intO1 d)) [3])) (M.pure [])) (callB 1 f__law_trim))
def f__law_poly : Fn := runFn 4 b__law_poly
theorem ok__law_poly (G : Facts K mg) : Cal P w K mg base 2 "_law_poly" 3 f__law_poly := by
  have S : FnScope ["pot", "field", "most", "lap"] ["pot", "field", "most"] (defScope (top 49)) := C8.fnScope_by (by decide +kernel)
  refine cal_of (body := b__law_poly) G.d__law_poly S (by decide) fun f cdv A outer s H E C hr hgd => ?_
  have tk := takes_of (X := cxOf (L2.CX P w) P w K mg base ["pot", "field", "most", "lap"] "_law_poly" (defScope (top 49)) f cdv A outer s H E) rfl rfl rfl rfl
  have po : PassesOwn (model P w) (cxOf (L2.CX P w) P w K mg base ["pot", "field", "most", "lap"] "_law_poly" (defScope (top 49)) f cdv A outer s H E).A (cxOf (L2.CX P w) P w K mg base ["pot", "field", "most", "lap"] "_law_poly" (defScope (top 49)) f cdv A outer s H E).env (cxOf (L2.CX P w) P w K mg base ["pot", "field", "most", "lap"] "_law_poly" (defScope (top 49)) f cdv A outer s H E).xe := passes_of rfl
  exact gss_one (gs_ret (ge_call (ok__law_trim G) tk hr hgd (gr_val (ge_lc (own := [("lap", 3)]) rfl S.nd (gi_range1 G.f_range (ga_cons (ge_call (ok__law_take G) tk hr hgd (gr_ref (i := 0) rfl (gr_val (ge_op opAdd pureAdd (ge_var (i := 2) rfl) (gb_of (ge_int))) (gr_nil)))) (ga_nil))) (blkOk_by (N := ["pot", "field", "most", "lap"]) (sc := defScope (top 49)) (by decide +kernel)) (fun C _ _ _ _ _ => gg_name (i := 3) (S.nd) rfl) (fun C _ _ _ _ _ => gts_nil) (fun C _ _ _ _ _ => ge_t1 call_int1 pure_int G.f_int (by decide +kernel) (gb_of (ge_call (ok__law_take G) takes0 hr hgd (gr_ref (i := 0) rfl (gr_val (ge_var (i := 1) rfl) (gr_nil))))))) (gr_nil))))
def b__law_all_monic : SM := seqS (asgS 2 (M.bind (M.cons (M.bind (M.pure []) fun ds => M.lift (tupO ds)) (M.pure [])) fun ds => M.lift (lstO ds))) (seqS (forS (M.bind (M.cons (var 1) (M.pure [])) rng1) (.nm 3) (seqS (asgS 4 (M.bind (M.pure []) fun ds => M.lift (lstO ds))) (seqS (forS (M.bindD (var 2) itemsB) (.nm 5) (dropS (M.meth1 4 extL (M.bind (M.bind (M.cons (var 0) (M.pure [])) rng1) (compB (.nm 6) (M.pure true) (E2 addO (var 5) (M.ofB (M.bind (M.cons (var 6) (M.pure [])) fun ds => M.lift (tupO ds)))) [6]))))) (asgS 2 (var 4))))) (retS (M.bind (M.bindD (var 2) itemsB) (compB (.nm 5) (M.pure true) (E2 addO (var 5) (M.ofB (M.bind (M.cons (M.pure (.val (.int 1))) (M.pure [])) fun ds => M.lift (tupO ds)))) [5]))))
def f__law_all_monic : Fn := runFn 7 b__law_all_monic
theorem ok__law_all_monic (G : Facts K mg) : Cal P w K mg base 1 "_law_all_monic" 2 f__law_all_monic := by
  have S : FnScope ["field", "degree", "found", "lap", "longer", "row", "number"] ["field", "degree"] (defScope (top 50)) := C8.fnScope_by (by decide +kernel)
  refine cal_of (body := b__law_all_monic) G.d__law_all_monic S (by decide) fun f cdv A outer s H E C hr hgd => ?_
  have tk := takes_of (X := cxOf (L2.CX P w) P w K mg base ["field", "degree", "found", "lap", "longer", "row", "number"] "_law_all_monic" (defScope (top 50)) f cdv A outer s H E) rfl rfl rfl rfl
  have po : PassesOwn (model P w) (cxOf (L2.CX P w) P w K mg base ["field", "degree", "found", "lap", "longer", "row", "number"] "_law_all_monic" (defScope (top 50)) f cdv A outer s H E).A (cxOf (L2.CX P w) P w K mg base ["field", "degree", "found", "lap", "longer", "row", "number"] "_law_all_monic" (defScope (top 50)) f cdv A outer s H E).env (cxOf (L2.CX P w) P w K mg base ["field", "degree", "found", "lap", "longer", "row", "number"] "_law_all_monic" (defScope (top 50)) f cdv A outer s H E).xe := passes_of rfl
  exact gss_cons (gs_set (i := 2) S.nd rfl (ge_lst (ga_cons (ge_tup (ga_nil)) (ga_nil)))) (gss_cons (gs_for po rfl (gi_range1 G.f_range (ga_cons (ge_var (i := 1) rfl) (ga_nil))) (gg_name (i := 3) (S.nd) rfl) (gss_cons (gs_set (i := 4) S.nd rfl (ge_lst (ga_nil))) (gss_cons (gs_for po rfl (gi_seq (ge_var (i := 2) rfl)) (gg_name (i := 5) (S.nd) rfl) (gss_one (gs_expr (ge_meth1 (i := 4) F.slot_list_extend rfl mt_extend meth_extend rfl (ge_lc (own := [("number", 6)]) rfl S.nd (gi_range1 G.f_range (ga_cons (ge_var (i := 0) rfl) (ga_nil))) (blkOk_by (N := ["field", "degree", "found", "lap", "longer", "row", "number"]) (sc := defScope (top 50)) (by decide +kernel)) (fun C _ _ _ _ _ => gg_name (i := 6) (S.nd) rfl) (fun C _ _ _ _ _ => gts_nil) (fun C _ _ _ _ _ => ge_op opAdd pureAdd (ge_var (i := 5) rfl) (gb_of (ge_tup (ga_cons (ge_var (i := 6) rfl) (ga_nil)))))))))) (gss_one (gs_set (i := 2) S.nd rfl (ge_var (i := 4) rfl)))))) (gss_one (gs_ret (ge_lc (own := [("row", 5)]) rfl S.nd (gi_seq (ge_var (i := 2) rfl)) (blkOk_by (N := ["field", "degree", "found", "lap", "longer", "row", "number"]) (sc := defScope (top 50)) (by decide +kernel)) (fun C _ _ _ _ _ => gg_name (i := 5) (S.nd) rfl) (fun C _ _ _ _ _ => gts_nil) (fun C _ _ _ _ _ => ge_op opAdd pureAdd (ge_var (i := 5) rfl) (gb_of (ge_tup (ga_cons (ge_int) (ga_nil)))))))))
def b__law_power_rest : SM := seqS (par2 4 5 (E2 getO (M.bind (M.consV (var 0) (M.consV (M.bind (M.cons (M.pure (.val (.int 1))) (M.pure [])) fun ds => M.lift (tupO ds)) (M.consV (var 3) (M.pure [])))) (callB 3 f__law_divide)) (M.ofB (M.pure (.val (.int 1))))) (E2 getO (M.bind (M.consV (var 0) (M.consV (var 1) (M.consV (var 3) (M.pure [])))) (callB 3 f__law_divide)) (M.ofB (M.pure (.val (.int 1)))))) (seqS (forS (M.bind (M.cons (M.pure (.val (.int 40))) (M.pure [])) rng1) (.nm 6) (seqS (ifS (M.bind (E2 eqO (var 2) (M.ofB (M.pure (.val (.int 0))))) asB) (brkS) (nextS)) (seqS (ifS (M.bind (E2 neO (E2 mulO (E2 divO (var 2) (M.ofB (M.pure (.val (.int 2))))) (M.ofB (M.pure (.val (.int 2))))) (peek 2)) asB) (asgS 4 (E2 getO (M.bind (M.consV (var 0) (M.consV (M.bind (M.consV (var 0) (M.consV (var 4) (M.consV (var 5) (M.pure [])))) (callB 3 f__law_mul)) (M.consV (var 3) (M.pure [])))) (callB 3 f__law_divide)) (M.ofB (M.pure (.val (.int 1)))))) (nextS)) (seqS (asgS 5 (E2 getO (M.bind (M.consV (var 0) (M.consV (M.bind (M.consV (var 0) (M.consV (var 5) (M.consV (var 5) (M.pure [])))) (callB 3 f__law_mul)) (M.consV (var 3) (M.pure [])))) (callB 3 f__law_divide)) (M.ofB (M.pure (.val (.int 1)))))) (asgS 2 (E2 divO (var 2) (M.ofB (M.pure (.val (.int 2)))))))))) (retV 4))
def f__law_power_rest : Fn := runFn 7 b__law_power_rest
theorem ok__law_power_rest (G : Facts K mg) : Cal P w K mg base 3 "_law_power_rest" 4 f__law_power_rest := by
  have S : FnScope ["field", "poly", "many", "modulus", "found", "base", "lap"] ["field", "poly", "many", "modulus"] (defScope (top 51)) := C8.fnScope_by (by decide +kernel)
  refine cal_of (body := b__law_power_rest) G.d__law_power_rest S (by decide) fun f cdv A outer s H E C hr hgd => ?_
  have tk := takes_of (X := cxOf (L2.CX P w) P w K mg base ["field", "poly", "many", "modulus", "found", "base", "lap"] "_law_power_rest" (defScope (top 51)) f cdv A outer s H E) rfl rfl rfl rfl
  have po : PassesOwn (model P w) (cxOf (L2.CX P w) P w K mg base ["field", "poly", "many", "modulus", "found", "base", "lap"] "_law_power_rest" (defScope (top 51)) f cdv A outer s H E).A (cxOf (L2.CX P w) P w K mg base ["field", "poly", "many", "modulus", "found", "base", "lap"] "_law_power_rest" (defScope (top 51)) f cdv A outer s H E).env (cxOf (L2.CX P w) P w K mg base ["field", "poly", "many", "modulus", "found", "base", "lap"] "_law_power_rest" (defScope (top 51)) f cdv A outer s H E).xe := passes_of rfl
  exact gss_cons (gs_par (i := 4) (j := 5) rfl S.nd rfl rfl (by decide) (ge_ix (ge_call (ok__law_divide G) tk hr hgd (gr_val (ge_var (i := 0) rfl) (gr_val (ge_tup (ga_cons (ge_int) (ga_nil))) (gr_val (ge_var (i := 3) rfl) (gr_nil))))) (gb_of (ge_int))) (fun C => ge_ix (ge_call (ok__law_divide G) tk hr hgd (gr_val (ge_var (i := 0) rfl) (gr_val (ge_var (i := 1) rfl) (gr_val (ge_var (i := 3) rfl) (gr_nil))))) (gb_of (ge_int)))) (gss_cons (gs_for po rfl (gi_range1 G.f_range (ga_cons (ge_int) (ga_nil))) (gg_name (i := 6) (S.nd) rfl) (gss_cons (gs_if (gt_cmp (opEqD hr) pureEq (ge_var (i := 2) rfl) (gb_of (ge_int))) (gss_one (gs_break)) (gss_nil)) (gss_cons (gs_if (gt_cmp (opNeD hr) pureNe (ge_op opMul pureMul (ge_op opDiv pureDiv (ge_var (i := 2) rfl) (gb_of (ge_int))) (gb_of (ge_int))) (gb_name (i := 2) rfl)) (gss_one (gs_set (i := 4) S.nd rfl (ge_ix (ge_call (ok__law_divide G) tk hr hgd (gr_val (ge_var (i := 0) rfl) (gr_val (ge_call (ok__law_mul G) tk hr hgd (gr_val (ge_var (i := 0) rfl) (gr_val (ge_var (i := 4) rfl) (gr_val (ge_var (i := 5) rfl) (gr_nil))))) (gr_val (ge_var (i := 3) rfl) (gr_nil))))) (gb_of (ge_int))))) (gss_nil)) (gss_cons (gs_set (i := 5) S.nd rfl (ge_ix (ge_call (ok__law_divide G) tk hr hgd (gr_val (ge_var (i := 0) rfl) (gr_val (ge_call (ok__law_mul G) tk hr hgd (gr_val (ge_var (i := 0) rfl) (gr_val (ge_var (i := 5) rfl) (gr_val (ge_var (i := 5) rfl) (gr_nil))))) (gr_val (ge_var (i := 3) rfl) (gr_nil))))) (gb_of (ge_int)))) (gss_one (gs_set (i := 2) S.nd rfl (ge_op opDiv pureDiv (ge_var (i := 2) rfl) (gb_of (ge_int))))))))) (gss_one (gs_retV (i := 4) rfl)))
def b__law_makes : SM := seqS (asgS 4 (M.bind (M.consV (var 0) (M.consV (var 1) (M.consV (var 2) (M.pure [])))) (callB 3 f__law_gcd))) (seqS (ifS (M.or (M.not (M.truth (M.ofB (M.bind (peek 3) fun d => M.lift (isInstO "tuple" d))))) (M.or (M.bind (E2 neO (M.bind (peek 3) fun d => M.lift (lenO d)) (M.ofB (M.pure (.val (.int 3))))) asB) (M.bind (E2 neO (IxN 3 (M.pure (.val (.int 0)))) (peek 4)) asB))) (retS (M.pure (.val (.bool false)))) (nextS)) (retS (E2 eqO (M.bind (M.consV (var 0) (M.consV (M.bind (M.consV (var 0) (M.consV (IxN 3 (M.pure (.val (.int 1)))) (M.consV (var 1) (M.pure [])))) (callB 3 f__law_mul)) (M.consV (M.bind (M.consV (var 0) (M.consV (IxN 3 (M.pure (.val (.int 2)))) (M.consV (var 2) (M.pure [])))) (callB 3 f__law_mul)) (M.consV (M.pure (.val (.int 1))) (M.pure []))))) (callB 4 f__law_sum)) (peek 4))))
def f__law_makes : Fn := runFn 5 b__law_makes
theorem ok__law_makes (G : Facts K mg) : Cal P w K mg base 5 "_law_makes" 4 f__law_makes := by
  have S : FnScope ["field", "one", "other", "value", "due"] ["field", "one", "other", "value"] (defScope (top 52)) := C8.fnScope_by (by decide +kernel)
  refine cal_of (body := b__law_makes) G.d__law_makes S (by decide) fun f cdv A outer s H E C hr hgd => ?_
  have tk := takes_of (X := cxOf (L2.CX P w) P w K mg base ["field", "one", "other", "value", "due"] "_law_makes" (defScope (top 52)) f cdv A outer s H E) rfl rfl rfl rfl
  have po : PassesOwn (model P w) (cxOf (L2.CX P w) P w K mg base ["field", "one", "other", "value", "due"] "_law_makes" (defScope (top 52)) f cdv A outer s H E).A (cxOf (L2.CX P w) P w K mg base ["field", "one", "other", "value", "due"] "_law_makes" (defScope (top 52)) f cdv A outer s H E).env (cxOf (L2.CX P w) P w K mg base ["field", "one", "other", "value", "due"] "_law_makes" (defScope (top 52)) f cdv A outer s H E).xe := passes_of rfl
  exact gss_cons (gs_set (i := 4) S.nd rfl (ge_call (ok__law_gcd G) tk hr hgd (gr_val (ge_var (i := 0) rfl) (gr_val (ge_var (i := 1) rfl) (gr_val (ge_var (i := 2) rfl) (gr_nil)))))) (gss_cons (gs_if (gt_w (gw_or (gt_not (gt_val (gb_of (ge_isinst G.f_isinstance G.f_tuple (by decide +kernel) (gb_name (i := 3) rfl))))) (gw_or (gt_cmp (opNeD hr) pureNe (ge_b1 call_len pure_len G.f_len (by decide +kernel) (gb_name (i := 3) rfl)) (gb_of (ge_int))) (gw_or1 (gt_cmp (opNeD hr) pureNe (ge_ixN (i := 3) rfl (ge_int)) (gb_name (i := 4) rfl)))))) (gss_one (gs_ret (ge_bool))) (gss_nil)) (gss_one (gs_ret (ge_cmp (opEqD hr) pureEq (ge_call (ok__law_sum G) tk hr hgd (gr_val (ge_var (i := 0) rfl) (gr_val (ge_call (ok__law_mul G) tk hr hgd (gr_val (ge_var (i := 0) rfl) (gr_val (ge_ixN (i := 3) rfl (ge_int)) (gr_val (ge_var (i := 1) rfl) (gr_nil))))) (gr_val (ge_call (ok__law_mul G) tk hr hgd (gr_val (ge_var (i := 0) rfl) (gr_val (ge_ixN (i := 3) rfl (ge_int)) (gr_val (ge_var (i := 2) rfl) (gr_nil))))) (gr_val (ge_int) (gr_nil)))))) (gb_name (i := 4) rfl)))))
def b__law_right : SM := seqS (asgS 1 (M.bind (M.consS 0 (M.pure [])) (callB 1 f__law_field))) (seqS (asgS 2 (M.bind (M.consS 0 (M.consV (var 1) (M.consV (M.pure (.val (.int 4))) (M.pure [])))) (callB 3 f__law_poly))) (seqS (asgT (.ls [3, 4]) (M.bind (M.bind (M.cons (M.pure (.val (.int 2))) (M.pure [])) rng1) (compB (.nm 5) (M.pure true) (M.bind (M.consV (var 1) (M.consV (var 2) (M.consV (M.bind (M.consS 0 (M.consV (var 1) (M.consV (M.pure (.val (.int 6))) (M.pure [])))) (callB 3 f__law_poly)) (M.pure [])))) (callB 3 f__law_mul)) [5]))) (seqS (asgS 6 (M.bind (M.consV (var 1) (M.consV (var 3) (M.consV (var 4) (M.pure [])))) (callB 3 f_common))) (seqS (ifS (M.or (M.not (M.truth (M.ofB (M.bind (M.consV (var 1) (M.consV (var 3) (M.consV (var 4) (M.consV (var 6) (M.pure []))))) (callB 4 f__law_makes))))) (M.bind (E2 isNotO (M.bind (M.consV (var 1) (M.consV (var 3) (M.consV (var 4) (M.consV (var 6) (M.pure []))))) (callB 4 f_shows_common)) (M.ofB (M.pure (.val (.bool true))))) asB)) (retS (M.pure (.val (.bool false)))) (nextS)) (seqS (forS (M.bindD (M.bind (M.cons (M.pure (.val (.int 1))) (M.cons (M.pure (.val (.int 2))) (M.pure []))) fun ds => M.lift (tupO ds)) itemsB) (.nm 7) (forS (M.bindD (M.bind (M.consV (var 1) (M.consV (var 7) (M.pure []))) (callB 2 f__law_all_monic)) itemsB) (.nm 8) (seqS (asgS 9 (M.andV (E2 eqO (E2 getO (M.bind (M.consV (var 1) (M.consV (var 3) (M.consV (var 8) (M.pure [])))) (callB 3 f__law_divide)) (M.ofB (M.pure (.val (.int 1))))) (M.ofB (M.bind (M.pure []) fun ds => M.lift (tupO ds)))) (E2 eqO (E2 getO (M.bind (M.consV (var 1) (M.consV (var 4) (M.consV (var 8) (M.pure [])))) (callB 3 f__law_divide)) (M.ofB (M.pure (.val (.int 1))))) (M.ofB (M.bind (M.pure []) fun ds => M.lift (tupO ds)))))) (ifS (M.and (M.truth (peek 9)) (M.bind (E2 neO (E2 getO (M.bind (M.consV (var 1) (M.consV (IxN 6 (M.pure (.val (.int 0)))) (M.consV (var 8) (M.pure [])))) (callB 3 f__law_divide)) (M.ofB (M.pure (.val (.int 1))))) (M.ofB (M.bind (M.pure []) fun ds => M.lift (tupO ds)))) asB)) (retS (M.pure (.val (.bool false)))) (nextS))))) (seqS (asgS 10 (M.bind (M.consS 0 (M.consV (var 1) (M.consV (M.pure (.val (.int 2))) (M.pure [])))) (callB 3 f__law_poly))) (seqS (asgS 11 (M.bind (M.cons (IxN 6 (M.pure (.val (.int 0)))) (M.cons (M.bind (M.consV (var 1) (M.consV (IxN 6 (M.pure (.val (.int 1)))) (M.consV (M.bind (M.consV (var 1) (M.consV (var 10) (M.consV (var 4) (M.pure [])))) (callB 3 f__law_mul)) (M.consV (M.pure (.val (.int 1))) (M.pure []))))) (callB 4 f__law_sum)) (M.cons (M.bind (M.consV (var 1) (M.consV (IxN 6 (M.pure (.val (.int 2)))) (M.consV (M.bind (M.consV (var 1) (M.consV (var 10) (M.consV (var 3) (M.pure [])))) (callB 3 f__law_mul)) (M.consV (E2 subO (var 1) (M.ofB (M.pure (.val (.int 1))))) (M.pure []))))) (callB 4 f__law_sum)) (M.pure [])))) fun ds => M.lift (tupO ds))) (seqS (asgS 12 (M.bind (M.consS 0 (M.consV (M.bind (M.cons (M.bind (M.cons (IxN 6 (M.pure (.val (.int 0)))) (M.cons (IxN 6 (M.pure (.val (.int 2)))) (M.cons (IxN 6 (M.pure (.val (.int 1)))) (M.pure [])))) fun ds => M.lift (tupO ds)) (M.cons (M.bind (M.cons (IxN 6 (M.pure (.val (.int 0)))) (M.cons (IxN 6 (M.pure (.val (.int 1)))) (M.cons (M.bind (M.consV (var 1) (M.consV (IxN 6 (M.pure (.val (.int 2)))) (M.consV (M.bind (M.cons (M.pure (.val (.int 1))) (M.pure [])) fun ds => M.lift (tupO ds)) (M.consV (M.pure (.val (.int 1))) (M.pure []))))) (callB 4 f__law_sum)) (M.pure [])))) fun ds => M.lift (tupO ds)) (M.cons (M.bind (M.cons (M.bind (M.consV (var 1) (M.consV (IxN 6 (M.pure (.val (.int 0)))) (M.consV (M.bind (M.cons (M.pure (.val (.int 1))) (M.pure [])) fun ds => M.lift (tupO ds)) (M.consV (M.pure (.val (.int 1))) (M.pure []))))) (callB 4 f__law_sum)) (M.cons (IxN 6 (M.pure (.val (.int 1)))) (M.cons (IxN 6 (M.pure (.val (.int 2)))) (M.pure [])))) fun ds => M.lift (tupO ds)) (M.pure [])))) fun ds => M.lift (lstO ds)) (M.pure []))) (callB 2 f__law_of))) (seqS (forS (M.bindD (M.bind (M.cons (var 11) (M.cons (var 12) (M.pure []))) fun ds => M.lift (tupO ds)) itemsB) (.nm 8) (ifS (M.bind (E2 neO (M.bind (M.ofB (M.bind (M.consV (var 1) (M.consV (var 3) (M.consV (var 4) (M.consV (var 8) (M.pure []))))) (callB 4 f_shows_common))) fun d => M.lift (reprO d)) (M.ofB (M.bind (M.ofB (M.bind (M.consV (var 1) (M.consV (var 3) (M.consV (var 4) (M.consV (var 8) (M.pure []))))) (callB 4 f__law_makes))) fun d => M.lift (reprO d)))) asB) (retS (M.pure (.val (.bool false)))) (nextS))) (seqS (ifS (M.or (M.bind (E2 isNotO (M.bind (M.consV (var 1) (M.consV (var 3) (M.consV (var 4) (M.consV (M.bind (peek 6) fun d => M.lift (listO d)) (M.pure []))))) (callB 4 f_shows_common)) (M.ofB (M.pure (.val (.bool false))))) asB) (M.or (M.bind (E2 isNotO (M.bind (M.consV (var 1) (M.consV (var 3) (M.consV (var 4) (M.consV (SlN 6 (M.pure none) (M.part (M.pure (.val (.int 2))))) (M.pure []))))) (callB 4 f_shows_common)) (M.ofB (M.pure (.val (.bool false))))) asB) (M.bind (E2 neO (E2 getO (M.bind (M.consV (var 1) (M.consV (M.bind (M.pure []) fun ds => M.lift (tupO ds)) (M.consV (M.bind (M.pure []) fun ds => M.lift (tupO ds)) (M.pure [])))) (callB 3 f_common)) (M.ofB (M.pure (.val (.int 0))))) (M.ofB (M.bind (M.pure []) fun ds => M.lift (tupO ds)))) asB))) (retS (M.pure (.val (.bool false)))) (nextS)) (seqS (asgS 13 (M.bind (M.consV (var 1) (M.consV (M.bind (M.consS 0 (M.consV (var 1) (M.consV (M.pure (.val (.int 5))) (M.pure [])))) (callB 3 f__law_poly)) (M.consV (E2 addO (E2 mulO (M.bind (M.cons (M.pure (.val (.int 0))) (M.pure [])) fun ds => M.lift (tupO ds)) (M.ofB (M.pure (.val (.int 6))))) (M.ofB (M.bind (M.cons (E2 addO (M.pure (.val (.int 1))) (M.ofB (M.bind (M.ofB (M.bind (M.consS 0 (M.consV (E2 subO (var 1) (M.ofB (M.pure (.val (.int 1))))) (M.pure []))) (callB 2 f__law_take))) fun d => M.lift (intO1 d)))) (M.pure [])) fun ds => M.lift (tupO ds)))) (M.consV (M.pure (.val (.int 1))) (M.pure []))))) (callB 4 f__law_sum))) (seqS (par3 14 15 16 (M.cons (M.bind (M.consS 0 (M.consV (var 1) (M.consV (M.pure (.val (.int 8))) (M.pure [])))) (callB 3 f__law_poly)) (M.cons (M.bind (M.ofB (M.bind (M.consS 0 (M.consV (M.bind (M.cons (M.pure (.val (.int 0))) (M.cons (M.pure (.val (.int 1))) (M.cons (M.bind (M.consS 0 (M.consV (M.pure (.val (.int 40))) (M.pure []))) (callB 2 f__law_take)) (M.cons (M.pure (.val (.int 999999999))) (M.cons (M.bind (M.consS 0 (M.consV (E2 powO (M.pure (.val (.int 10))) (M.ofB (M.pure (.val (.int 9))))) (M.pure []))) (callB 2 f__law_take)) (M.pure [])))))) fun ds => M.lift (lstO ds)) (M.pure []))) (callB 2 f__law_of))) fun d => M.lift (intO1 d)) (M.cons (M.bind (M.ofB (M.bind (M.consS 0 (M.consV (M.pure (.val (.int 1000))) (M.pure []))) (callB 2 f__law_take))) fun d => M.lift (intO1 d)) (M.pure []))))) (seqS (asgS 17 (M.bind (M.consV (var 1) (M.consV (var 14) (M.consV (var 15) (M.consV (var 13) (M.pure []))))) (callB 4 f__law_power_rest))) (seqS (ifS (M.bind (E2 neO (M.bind (M.ofB (M.bind (M.consV (var 1) (M.consV (var 14) (M.consV (var 15) (M.consV (var 13) (M.pure []))))) (callB 4 f_power_rest))) fun d => M.lift (reprO d)) (M.ofB (M.bind (peek 17) fun d => M.lift (reprO d)))) asB) (retS (M.pure (.val (.bool false)))) (nextS)) (seqS (ifS (M.and (M.bind (E2 leO (E2 addO (var 15) (peek 16)) (M.ofB (M.pure (.val (.int 999999999))))) asB) (M.bind (E2 neO (M.bind (M.consV (var 1) (M.consV (var 14) (M.consV (E2 addO (var 15) (peek 16)) (M.consV (var 13) (M.pure []))))) (callB 4 f_power_rest)) (M.ofB (E2 getO (M.bind (M.consV (var 1) (M.consV (M.bind (M.consV (var 1) (M.consV (var 17) (M.consV (M.bind (M.consV (var 1) (M.consV (var 14) (M.consV (var 16) (M.consV (var 13) (M.pure []))))) (callB 4 f_power_rest)) (M.pure [])))) (callB 3 f_times)) (M.consV (var 13) (M.pure [])))) (callB 3 f_divided)) (M.ofB (M.pure (.val (.int 1))))))) asB)) (retS (M.pure (.val (.bool false)))) (nextS)) (retS (E2 eqO (M.bind (M.consV (var 1) (M.consV (var 14) (M.consV (var 15) (M.consV (M.bind (M.cons (M.pure (.val (.int 1))) (M.pure [])) fun ds => M.lift (tupO ds)) (M.pure []))))) (callB 4 f_power_rest)) (M.ofB (M.bind (M.pure []) fun ds => M.lift (tupO ds))))))))))))))))))))
def f__law_right : Fn := runFn 18 b__law_right
theorem ok__law_right (G : Facts K mg) : Cal P w K mg base 8 "_law_right" 1 f__law_right := by
  have S : FnScope ["pot", "field", "part", "one", "other", "lap", "told", "degree", "its", "is_both", "more", "value", "bent", "modulus", "poly", "many", "again", "due"] ["pot"] (defScope (top 53)) := C8.fnScope_by (by decide +kernel)
  refine cal_of (body := b__law_right) G.d__law_right S (by decide) fun f cdv A outer s H E C hr hgd => ?_
  have tk := takes_of (X := cxOf (L2.CX P w) P w K mg base ["pot", "field", "part", "one", "other", "lap", "told", "degree", "its", "is_both", "more", "value", "bent", "modulus", "poly", "many", "again", "due"] "_law_right" (defScope (top 53)) f cdv A outer s H E) rfl rfl rfl rfl
  have po : PassesOwn (model P w) (cxOf (L2.CX P w) P w K mg base ["pot", "field", "part", "one", "other", "lap", "told", "degree", "its", "is_both", "more", "value", "bent", "modulus", "poly", "many", "again", "due"] "_law_right" (defScope (top 53)) f cdv A outer s H E).A (cxOf (L2.CX P w) P w K mg base ["pot", "field", "part", "one", "other", "lap", "told", "degree", "its", "is_both", "more", "value", "bent", "modulus", "poly", "many", "again", "due"] "_law_right" (defScope (top 53)) f cdv A outer s H E).env (cxOf (L2.CX P w) P w K mg base ["pot", "field", "part", "one", "other", "lap", "told", "degree", "its", "is_both", "more", "value", "bent", "modulus", "poly", "many", "again", "due"] "_law_right" (defScope (top 53)) f cdv A outer s H E).xe := passes_of rfl
  exact gss_cons (gs_set (i := 1) S.nd rfl (ge_call (ok__law_field G) tk hr hgd (gr_ref (i := 0) rfl (gr_nil)))) (gss_cons (gs_set (i := 2) S.nd rfl (ge_call (ok__law_poly G) tk hr hgd (gr_ref (i := 0) rfl (gr_val (ge_var (i := 1) rfl) (gr_val (ge_int) (gr_nil)))))) (gss_cons (gs_asg (ge_lc (own := [("lap", 5)]) rfl S.nd (gi_range1 G.f_range (ga_cons (ge_int) (ga_nil))) (blkOk_by (N := ["pot", "field", "part", "one", "other", "lap", "told", "degree", "its", "is_both", "more", "value", "bent", "modulus", "poly", "many", "again", "due"]) (sc := defScope (top 53)) (by decide +kernel)) (fun C _ _ _ _ _ => gg_name (i := 5) (S.nd) rfl) (fun C _ _ _ _ _ => gts_nil) (fun C _ _ _ _ _ => ge_call (ok__law_mul G) takes0 hr hgd (gr_val (ge_var (i := 1) rfl) (gr_val (ge_var (i := 2) rfl) (gr_val (ge_call (ok__law_poly G) takes0 hr hgd (gr_ref (i := 0) rfl (gr_val (ge_var (i := 1) rfl) (gr_val (ge_int) (gr_nil))))) (gr_nil)))))) (gg_lst rfl (ggs_cons (i := 3) S.nd rfl (ggs_cons (i := 4) S.nd rfl (ggs_nil))))) (gss_cons (gs_set (i := 6) S.nd rfl (ge_call (ok_common G) tk hr hgd (gr_val (ge_var (i := 1) rfl) (gr_val (ge_var (i := 3) rfl) (gr_val (ge_var (i := 4) rfl) (gr_nil)))))) (gss_cons (gs_if (gt_w (gw_or (gt_not (gt_val (gb_of (ge_call (ok__law_makes G) tk hr hgd (gr_val (ge_var (i := 1) rfl) (gr_val (ge_var (i := 3) rfl) (gr_val (ge_var (i := 4) rfl) (gr_val (ge_var (i := 6) rfl) (gr_nil))))))))) (gw_or1 (gt_cmp opIsNot pureIsNot (ge_call (ok_shows_common G) tk hr hgd (gr_val (ge_var (i := 1) rfl) (gr_val (ge_var (i := 3) rfl) (gr_val (ge_var (i := 4) rfl) (gr_val (ge_var (i := 6) rfl) (gr_nil)))))) (gb_of (ge_bool)))))) (gss_one (gs_ret (ge_bool))) (gss_nil)) (gss_cons (gs_for po rfl (gi_seq (ge_tup (ga_cons (ge_int) (ga_cons (ge_int) (ga_nil))))) (gg_name (i := 7) (S.nd) rfl) (gss_one (gs_for po rfl (gi_seq (ge_call (ok__law_all_monic G) tk hr hgd (gr_val (ge_var (i := 1) rfl) (gr_val (ge_var (i := 7) rfl) (gr_nil))))) (gg_name (i := 8) (S.nd) rfl) (gss_cons (gs_set (i := 9) S.nd rfl (ge_and (ge_cmp (opEqD hr) pureEq (ge_ix (ge_call (ok__law_divide G) tk hr hgd (gr_val (ge_var (i := 1) rfl) (gr_val (ge_var (i := 3) rfl) (gr_val (ge_var (i := 8) rfl) (gr_nil))))) (gb_of (ge_int))) (gb_of (ge_tup (ga_nil)))) (ge_one (ge_cmp (opEqD hr) pureEq (ge_ix (ge_call (ok__law_divide G) tk hr hgd (gr_val (ge_var (i := 1) rfl) (gr_val (ge_var (i := 4) rfl) (gr_val (ge_var (i := 8) rfl) (gr_nil))))) (gb_of (ge_int))) (gb_of (ge_tup (ga_nil))))))) (gss_one (gs_if (gt_w (gw_and (gt_val (gb_name (i := 9) rfl)) (gw_and1 (gt_cmp (opNeD hr) pureNe (ge_ix (ge_call (ok__law_divide G) tk hr hgd (gr_val (ge_var (i := 1) rfl) (gr_val (ge_ixN (i := 6) rfl (ge_int)) (gr_val (ge_var (i := 8) rfl) (gr_nil))))) (gb_of (ge_int))) (gb_of (ge_tup (ga_nil))))))) (gss_one (gs_ret (ge_bool))) (gss_nil))))))) (gss_cons (gs_set (i := 10) S.nd rfl (ge_call (ok__law_poly G) tk hr hgd (gr_ref (i := 0) rfl (gr_val (ge_var (i := 1) rfl) (gr_val (ge_int) (gr_nil)))))) (gss_cons (gs_set (i := 11) S.nd rfl (ge_tup (ga_cons (ge_ixN (i := 6) rfl (ge_int)) (ga_cons (ge_call (ok__law_sum G) tk hr hgd (gr_val (ge_var (i := 1) rfl) (gr_val (ge_ixN (i := 6) rfl (ge_int)) (gr_val (ge_call (ok__law_mul G) tk hr hgd (gr_val (ge_var (i := 1) rfl) (gr_val (ge_var (i := 10) rfl) (gr_val (ge_var (i := 4) rfl) (gr_nil))))) (gr_val (ge_int) (gr_nil)))))) (ga_cons (ge_call (ok__law_sum G) tk hr hgd (gr_val (ge_var (i := 1) rfl) (gr_val (ge_ixN (i := 6) rfl (ge_int)) (gr_val (ge_call (ok__law_mul G) tk hr hgd (gr_val (ge_var (i := 1) rfl) (gr_val (ge_var (i := 10) rfl) (gr_val (ge_var (i := 3) rfl) (gr_nil))))) (gr_val (ge_op opSub pureSub (ge_var (i := 1) rfl) (gb_of (ge_int))) (gr_nil)))))) (ga_nil)))))) (gss_cons (gs_set (i := 12) S.nd rfl (ge_call (ok__law_of G) tk hr hgd (gr_ref (i := 0) rfl (gr_val (ge_lst (ga_cons (ge_tup (ga_cons (ge_ixN (i := 6) rfl (ge_int)) (ga_cons (ge_ixN (i := 6) rfl (ge_int)) (ga_cons (ge_ixN (i := 6) rfl (ge_int)) (ga_nil))))) (ga_cons (ge_tup (ga_cons (ge_ixN (i := 6) rfl (ge_int)) (ga_cons (ge_ixN (i := 6) rfl (ge_int)) (ga_cons (ge_call (ok__law_sum G) tk hr hgd (gr_val (ge_var (i := 1) rfl) (gr_val (ge_ixN (i := 6) rfl (ge_int)) (gr_val (ge_tup (ga_cons (ge_int) (ga_nil))) (gr_val (ge_int) (gr_nil)))))) (ga_nil))))) (ga_cons (ge_tup (ga_cons (ge_call (ok__law_sum G) tk hr hgd (gr_val (ge_var (i := 1) rfl) (gr_val (ge_ixN (i := 6) rfl (ge_int)) (gr_val (ge_tup (ga_cons (ge_int) (ga_nil))) (gr_val (ge_int) (gr_nil)))))) (ga_cons (ge_ixN (i := 6) rfl (ge_int)) (ga_cons (ge_ixN (i := 6) rfl (ge_int)) (ga_nil))))) (ga_nil))))) (gr_nil))))) (gss_cons (gs_for po rfl (gi_seq (ge_tup (ga_cons (ge_var (i := 11) rfl) (ga_cons (ge_var (i := 12) rfl) (ga_nil))))) (gg_name (i := 8) (S.nd) rfl) (gss_one (gs_if (gt_cmp (opNeD hr) pureNe (ge_b1 (call_reprD hgd hr) pure_repr G.f_repr (by decide +kernel) (gb_of (ge_call (ok_shows_common G) tk hr hgd (gr_val (ge_var (i := 1) rfl) (gr_val (ge_var (i := 3) rfl) (gr_val (ge_var (i := 4) rfl) (gr_val (ge_var (i := 8) rfl) (gr_nil)))))))) (gb_of (ge_b1 (call_reprD hgd hr) pure_repr G.f_repr (by decide +kernel) (gb_of (ge_call (ok__law_makes G) tk hr hgd (gr_val (ge_var (i := 1) rfl) (gr_val (ge_var (i := 3) rfl) (gr_val (ge_var (i := 4) rfl) (gr_val (ge_var (i := 8) rfl) (gr_nil)))))))))) (gss_one (gs_ret (ge_bool))) (gss_nil)))) (gss_cons (gs_if (gt_w (gw_or (gt_cmp opIsNot pureIsNot (ge_call (ok_shows_common G) tk hr hgd (gr_val (ge_var (i := 1) rfl) (gr_val (ge_var (i := 3) rfl) (gr_val (ge_var (i := 4) rfl) (gr_val (ge_t1 call_list_of pure_list G.f_list (by decide +kernel) (gb_name (i := 6) rfl)) (gr_nil)))))) (gb_of (ge_bool))) (gw_or (gt_cmp opIsNot pureIsNot (ge_call (ok_shows_common G) tk hr hgd (gr_val (ge_var (i := 1) rfl) (gr_val (ge_var (i := 3) rfl) (gr_val (ge_var (i := 4) rfl) (gr_val (ge_slN (i := 6) rfl (go_none) (go_some (ge_int))) (gr_nil)))))) (gb_of (ge_bool))) (gw_or1 (gt_cmp (opNeD hr) pureNe (ge_ix (ge_call (ok_common G) tk hr hgd (gr_val (ge_var (i := 1) rfl) (gr_val (ge_tup (ga_nil)) (gr_val (ge_tup (ga_nil)) (gr_nil))))) (gb_of (ge_int))) (gb_of (ge_tup (ga_nil)))))))) (gss_one (gs_ret (ge_bool))) (gss_nil)) (gss_cons (gs_set (i := 13) S.nd rfl (ge_call (ok__law_sum G) tk hr hgd (gr_val (ge_var (i := 1) rfl) (gr_val (ge_call (ok__law_poly G) tk hr hgd (gr_ref (i := 0) rfl (gr_val (ge_var (i := 1) rfl) (gr_val (ge_int) (gr_nil))))) (gr_val (ge_op opAdd pureAdd (ge_op opMul pureMul (ge_tup (ga_cons (ge_int) (ga_nil))) (gb_of (ge_int))) (gb_of (ge_tup (ga_cons (ge_op opAdd pureAdd (ge_int) (gb_of (ge_t1 call_int1 pure_int G.f_int (by decide +kernel) (gb_of (ge_call (ok__law_take G) tk hr hgd (gr_ref (i := 0) rfl (gr_val (ge_op opSub pureSub (ge_var (i := 1) rfl) (gb_of (ge_int))) (gr_nil)))))))) (ga_nil))))) (gr_val (ge_int) (gr_nil))))))) (gss_cons (gs_par3 (i := 14) (j := 15) (l := 16) rfl S.nd rfl rfl rfl (by decide) (by decide) (by decide) (ga_cons (ge_call (ok__law_poly G) tk hr hgd (gr_ref (i := 0) rfl (gr_val (ge_var (i := 1) rfl) (gr_val (ge_int) (gr_nil))))) (ga_cons (ge_t1 call_int1 pure_int G.f_int (by decide +kernel) (gb_of (ge_call (ok__law_of G) tk hr hgd (gr_ref (i := 0) rfl (gr_val (ge_lst (ga_cons (ge_int) (ga_cons (ge_int) (ga_cons (ge_call (ok__law_take G) tk hr hgd (gr_ref (i := 0) rfl (gr_val (ge_int) (gr_nil)))) (ga_cons (ge_int) (ga_cons (ge_call (ok__law_take G) tk hr hgd (gr_ref (i := 0) rfl (gr_val (ge_op opPow purePow (ge_int) (gb_of (ge_int))) (gr_nil)))) (ga_nil))))))) (gr_nil)))))) (ga_cons (ge_t1 call_int1 pure_int G.f_int (by decide +kernel) (gb_of (ge_call (ok__law_take G) tk hr hgd (gr_ref (i := 0) rfl (gr_val (ge_int) (gr_nil)))))) (ga_nil))))) (gss_cons (gs_set (i := 17) S.nd rfl (ge_call (ok__law_power_rest G) tk hr hgd (gr_val (ge_var (i := 1) rfl) (gr_val (ge_var (i := 14) rfl) (gr_val (ge_var (i := 15) rfl) (gr_val (ge_var (i := 13) rfl) (gr_nil))))))) (gss_cons (gs_if (gt_cmp (opNeD hr) pureNe (ge_b1 (call_reprD hgd hr) pure_repr G.f_repr (by decide +kernel) (gb_of (ge_call (ok_power_rest G) tk hr hgd (gr_val (ge_var (i := 1) rfl) (gr_val (ge_var (i := 14) rfl) (gr_val (ge_var (i := 15) rfl) (gr_val (ge_var (i := 13) rfl) (gr_nil)))))))) (gb_of (ge_b1 (call_reprD hgd hr) pure_repr G.f_repr (by decide +kernel) (gb_name (i := 17) rfl)))) (gss_one (gs_ret (ge_bool))) (gss_nil)) (gss_cons (gs_if (gt_w (gw_and (gt_cmp op_le pureLe (ge_op opAdd pureAdd (ge_var (i := 15) rfl) (gb_name (i := 16) rfl)) (gb_of (ge_int))) (gw_and1 (gt_cmp (opNeD hr) pureNe (ge_call (ok_power_rest G) tk hr hgd (gr_val (ge_var (i := 1) rfl) (gr_val (ge_var (i := 14) rfl) (gr_val (ge_op opAdd pureAdd (ge_var (i := 15) rfl) (gb_name (i := 16) rfl)) (gr_val (ge_var (i := 13) rfl) (gr_nil)))))) (gb_of (ge_ix (ge_call (ok_divided G) tk hr hgd (gr_val (ge_var (i := 1) rfl) (gr_val (ge_call (ok_times G) tk hr hgd (gr_val (ge_var (i := 1) rfl) (gr_val (ge_var (i := 17) rfl) (gr_val (ge_call (ok_power_rest G) tk hr hgd (gr_val (ge_var (i := 1) rfl) (gr_val (ge_var (i := 14) rfl) (gr_val (ge_var (i := 16) rfl) (gr_val (ge_var (i := 13) rfl) (gr_nil)))))) (gr_nil))))) (gr_val (ge_var (i := 13) rfl) (gr_nil))))) (gb_of (ge_int)))))))) (gss_one (gs_ret (ge_bool))) (gss_nil)) (gss_one (gs_ret (ge_cmp (opEqD hr) pureEq (ge_call (ok_power_rest G) tk hr hgd (gr_val (ge_var (i := 1) rfl) (gr_val (ge_var (i := 14) rfl) (gr_val (ge_var (i := 15) rfl) (gr_val (ge_tup (ga_cons (ge_int) (ga_nil))) (gr_nil)))))) (gb_of (ge_tup (ga_nil)))))))))))))))))))))
def b_law : SM := seqS (forS (M.bindD (M.bind (M.consV (var 0) (M.consV (M.pure (.val (.int 2))) (M.pure []))) (callB 2 f__law_cells)) itemsB) (.nm 1) (seqS (asgS 2 (M.bind (M.consV (var 0) (M.consV (var 1) (M.pure []))) (callB 2 f__law_pot))) (forS (M.bind (M.cons (M.pure (.val (.int 4))) (M.pure [])) rng1) (.nm 3) (ifS (M.not (M.truth (M.ofB (M.bind (M.consS 2 (M.pure [])) (callB 1 f__law_right))))) (retS (M.pure (.val (.bool false)))) (nextS))))) (retS (M.pure (.val (.bool true))))
def f_law : Fn := runFn 4 b_law
theorem ok_law (G : Facts K mg) : Cal P w K mg base 9 "law" 1 f_law := by
  have S : FnScope ["script", "place", "pot", "lap"] ["script"] (defScope (top 54)) := C8.fnScope_by (by decide +kernel)
  refine cal_of (body := b_law) G.d_law S (by decide) fun f cdv A outer s H E C hr hgd => ?_
  have tk := takes_of (X := cxOf (L2.CX P w) P w K mg base ["script", "place", "pot", "lap"] "law" (defScope (top 54)) f cdv A outer s H E) rfl rfl rfl rfl
  have po : PassesOwn (model P w) (cxOf (L2.CX P w) P w K mg base ["script", "place", "pot", "lap"] "law" (defScope (top 54)) f cdv A outer s H E).A (cxOf (L2.CX P w) P w K mg base ["script", "place", "pot", "lap"] "law" (defScope (top 54)) f cdv A outer s H E).env (cxOf (L2.CX P w) P w K mg base ["script", "place", "pot", "lap"] "law" (defScope (top 54)) f cdv A outer s H E).xe := passes_of rfl
  exact gss_cons (gs_for po rfl (gi_seq (ge_call (ok__law_cells G) tk hr hgd (gr_val (ge_var (i := 0) rfl) (gr_val (ge_int) (gr_nil))))) (gg_name (i := 1) (S.nd) rfl) (gss_cons (gs_set (i := 2) S.nd rfl (ge_call (ok__law_pot G) tk hr hgd (gr_val (ge_var (i := 0) rfl) (gr_val (ge_var (i := 1) rfl) (gr_nil))))) (gss_one (gs_for po rfl (gi_range1 G.f_range (ga_cons (ge_int) (ga_nil))) (gg_name (i := 3) (S.nd) rfl) (gss_one (gs_if (gt_not (gt_val (gb_of (ge_call (ok__law_right G) tk hr hgd (gr_ref (i := 2) rfl (gr_nil)))))) (gss_one (gs_ret (ge_bool))) (gss_nil))))))) (gss_one (gs_ret (ge_bool)))
end K01

set_option Elab.async false
set_option linter.all false
set_option maxRecDepth 100000
set_option maxHeartbeats 2000000
namespace K01
open PySem PySem.Spec PyProof.Rows L2 RZ Fx PM
/-- polys as data -/
abbrev T (L : List Int) : PyData := .tuple (I L)
theorem I_get {L : List Int} {n : Nat} (h : n < L.length) : (I L)[n]? = some (.int (cf L n)) := by
  rw [List.getElem?_map, List.getElem?_eq_getElem h]
  simp [cf, h]
theorem getI_tup {L : List Int} {i : Int} {n : Nat} (h : i = n) (hl : n < L.length) : getO (.tuple (I L)) (.int i) = some (.val (.int (cf L n))) := by
  rw [getO_tup, atI_nat h (by rw [I_len]; exact hl), I_get hl]; rfl
theorem getI_lst {L : List Int} {i : Int} {n : Nat} (h : i = n) (hl : n < L.length) : getO (.list (I L)) (.int i) = some (.val (.int (cf L n))) := by
  rw [getO_lst, atI_nat h (by rw [I_len]; exact hl), I_get hl]; rfl
theorem getI_last {L : List Int} (hl : L ≠ []) : getO (.tuple (I L)) (.int (-1)) = some (.val (.int (cf L (L.length - 1)))) := by
  have h0 : 0 < L.length := by cases L with | nil => exact absurd rfl hl | cons => simp
  rw [getO_tup, atI_neg (i := -1) (n := 0) rfl (by rw [I_len]; exact h0), I_len, Nat.sub_zero, I_get (by omega)]; rfl
/-! ### cut, _law_trim -/
def cutN : Nat → List Int → Nat
  | 0, _ => 0
  | k + 1, L => if cf L k = 0 then cutN k L else k + 1
theorem cutN_le : ∀ (k : Nat) (L : List Int), cutN k L ≤ k
  | 0, _ => Nat.le_refl _
  | k + 1, L => by
    unfold cutN
    split
    · have := cutN_le k L; omega
    · exact Nat.le_refl _
theorem cf_take (L : List Int) (k n : Nat) : cf (L.take k) n = if n < k then cf L n else 0 := by
  unfold cf
  rw [List.getD_eq_getElem?_getD, List.getD_eq_getElem?_getD, List.getElem?_take]
  split <;> rfl
theorem cutN_zero : ∀ (k : Nat) (L : List Int) (n : Nat), cutN k L ≤ n → n < k → cf L n = 0
  | 0, _, n, _, h => by omega
  | k + 1, L, n, h1, h2 => by
    unfold cutN at h1
    split at h1
    · rename_i h
      by_cases e : n = k
      · rw [e, h]
      · exact cutN_zero k L n h1 (by omega)
    · omega
theorem trim_id : ∀ (a : List Int), (a ≠ [] → cf a (a.length - 1) ≠ 0) → trim a = a
  | [], _ => rfl
  | [x], h => by
    have h := h (by simp)
    have h : x ≠ 0 := h
    simp [trim, h]
  | x :: y :: a, h => by
    have h := h (by simp)
    have ih := trim_id (y :: a) fun _ => by
      have e : (x :: y :: a).length - 1 = ((y :: a).length - 1) + 1 := by simp
      rw [e, cf_succ] at h
      exact h
    unfold trim
    rw [ih, if_neg (by simp)]
theorem cutN_ne : ∀ (k : Nat) (L : List Int), cutN k L ≠ 0 → cf L (cutN k L - 1) ≠ 0
  | 0, _, h => absurd rfl h
  | k + 1, L, h => by
    unfold cutN at h ⊢
    split
    · rename_i h2
      rw [if_pos h2] at h
      exact cutN_ne k L h
    · rename_i h2; exact h2
theorem cutN_trim (L : List Int) : L.take (cutN L.length L) = trim L := by
  have hle := cutN_le L.length L
  have h1 : trim (L.take (cutN L.length L)) = L.take (cutN L.length L) := trim_id _ fun h => by
    have hl : (L.take (cutN L.length L)).length = cutN L.length L := by rw [List.length_take]; omega
    have h0 : cutN L.length L ≠ 0 := fun z => h (by rw [z]; rfl)
    rw [hl, cf_take, if_pos (by omega)]
    exact cutN_ne _ _ h0
  rw [← h1]
  refine trim_ext _ _ fun n => ?_
  rw [cf_take]
  split
  · rfl
  · by_cases h : n < L.length
    · exact (cutN_zero _ _ n (by omega) h).symm
    · exact (cf_ge (by omega)).symm
theorem slice_to {L : List Int} {k : Nat} (h : k ≤ L.length) : Fx.cutD (I L) none (some (k : Int)) = I (L.take k) := by
  unfold Fx.cutD
  have e0 : HT.sIx (I L).length 0 none = 0 := rfl
  have e1 : HT.sIx (I L).length (I L).length (some (k : Int)) = k := by
    rw [I_len]
    unfold HT.sIx
    have : ¬ ((k : Int) < 0) := by omega
    simp [this]
    omega
  rw [e0, e1, List.drop_zero, Nat.sub_zero]
  exact List.map_take.symm
theorem cut_loop (d : PyData) (L : List Int) (hd : d = .list (I L) ∨ d = .tuple (I L)) : ∀ (k n : Nat), k < n → k ≤ L.length → whL (M.and (M.bind (E2 gtO (var 1) (M.ofB (M.pure (.val (.int 0))))) asB) (M.bind (E2 eqO (IxN 0 (E2 subO (var 1) (M.ofB (M.pure (.val (.int 1)))))) (M.ofB (M.pure (.val (.int 0))))) asB)) (asgS 1 (E2 subO (var 1) (M.ofB (M.pure (.val (.int 1)))))) n
      [some (.val d), some (.val (.int (k : Int)))] = .nx [some (.val d), some (.val (.int (cutN k L : Nat)))]
  | 0, n + 1, _, _ => by
    unfold whL
    simp [gtO_int, cutN]
  | k + 1, n + 1, hn, hk => by
    unfold whL
    have e : getO d (.int (k : Int)) = some (.val (.int (cf L k))) := by
      rcases hd with hd | hd <;> subst hd
      · exact getI_lst rfl (by omega)
      · exact getI_tup rfl (by omega)
    have ih := cut_loop d L hd k n (by omega) (by omega)
    have e2 : ((k + 1 : Nat) : Int) - 1 = k := by omega
    have e3 : (0 : Int) < ((k + 1 : Nat) : Int) := by omega
    simp only [and_ap, bind_ap, bnd_ok, E2_ap, var_ap, List.getElem?_cons_succ, List.getElem?_cons_zero, sv_val, ofB_ap, pure_ap, Rv.d_val, gtO_int, lift_some, asB_ap, e3, decide_true, cnd_t, IxN_ap, chk_ap, cv_some, bindD_ap, subO_int, e2, peek_ap, pv'_val, e, eqO_int]
    unfold cutN
    by_cases hz : cf L k = 0
    · simp only [hz, decide_true, if_true, asgS_ap, E2_ap, var_ap, List.getElem?_cons_succ, List.getElem?_cons_zero, sv_val, bnd_ok, bind_ap, ofB_ap, pure_ap, Rv.d_val, subO_int, e2, lift_some, bnS_ok, List.set_cons_succ, List.set_cons_zero, Rv.sl]
      exact ih
    · simp only [hz, decide_false, if_false]
theorem cut_eq (L : List Int) (hl : L.length < 1000) : f_cut [.v (.list (I L))] = .ok (.val (T (trim L))) [] := by
  have h := cut_loop (.list (I L)) L (.inl rfl) L.length FUEL (by unfold FUEL; omega) (Nat.le_refl _)
  unfold f_cut runFn b_cut initR agR agR
  simp only [seqS_ap, asgS_ap, bind_ap, peek_ap, List.nil_append, List.cons_append, List.length_cons, List.length_nil, List.replicate, List.getElem?_cons_zero, pv'_val, bnd_ok, lenO_lst, lift_some, bnS_ok, List.set_cons_succ, List.set_cons_zero, Rv.sl, sq_nx, whS_ap, I_len, h]
  have hs := slice_to (L := L) (cutN_le L.length L)
  simp [sliceO, hs, tupleO_lst, endR, outsR, cutN_trim]
end K01

set_option Elab.async false
set_option linter.all false
set_option maxRecDepth 100000
set_option maxHeartbeats 2000000
namespace K01
open PySem PySem.Spec PyProof.Rows L2 RZ Fx PM
theorem pw : (1000000 : Nat) < 2 ^ 4000 := Nat.lt_of_lt_of_le (by decide : (1000000 : Nat) < 2 ^ 20) (Nat.pow_le_pow_right (by decide) (by decide))
theorem mulO_s {a b : Int} (ha : 0 ≤ a) (ha2 : a < 1000000) (hb : 0 ≤ b) (hb2 : b < 1000000) : mulO (.int a) (.int b) = some (.val (.int (a * b))) :=
  mulO_int (Nat.lt_trans (by omega : a.natAbs < 1000000) pw) (Nat.lt_trans (by omega : b.natAbs < 1000000) pw)
theorem I_set {L : List Int} {n : Nat} {v : Int} : (I L).set n (.int v) = I (L.set n v) := List.map_set.symm
theorem setI {L : List Int} {i : Int} {n : Nat} {v : Int} (h : i = n) (hl : n < L.length) : setAt (.int i) (.int v) (I L) = some (I (L.set n v)) := by
  rw [setAt_int h (by rw [I_len]; exact hl), I_set]
/-! ### mul_polys -/
def mulIn : SM := setIx 3 (E2 modO (E2 addO (IxN 3 (E2 addO (var 4) (peek 6))) (M.ofB (E2 mulO (var 5) (peek 7)))) (peek 0)) (E2 addO (var 4) (peek 6))
theorem mul_inner {p : Int} (hp : 0 < p ∧ p < 1000) (A B : PyData) (K : Nat) (x : Int) (hx : 0 ≤ x ∧ x < p) : ∀ (b : List Int) (j : Nat) (f : List Int) (u v : Option Sl), Rd p b → K + j + b.length ≤ f.length → ∃ u' v',
    forL (.tp [6, 7]) mulIn (enK j (I b)) [some (.val (.int p)), some (.val A), some (.val B), some (.own (I f)), some (.val (.int (K : Int))), some (.val (.int x)), u, v] =
      .nx [some (.val (.int p)), some (.val A), some (.val B), some (.own (I (addAt p x (K + j) b f))), some (.val (.int (K : Int))), some (.val (.int x)), u', v']
  | [], j, f, u, v, _, _ => ⟨u, v, rfl⟩
  | y :: b, j, f, u, v, hb, hl => by
    have hl : K + j + (b.length + 1) ≤ f.length := hl
    have hy := hb y (by simp)
    obtain ⟨u', v', ih⟩ := mul_inner hp A B K x hx b (j + 1) (f.set (K + j) ((cf f (K + j) + x * y) % p)) (some (.val (.int (j : Int)))) (some (.val (.int y))) (fun z hz => hb z (List.mem_cons_of_mem _ hz)) (by rw [List.length_set]; omega)
    refine ⟨u', v', ?_⟩
    have e1 : (I (y :: b)) = .int y :: I b := rfl
    rw [e1]
    unfold enK forL
    have g := getI_lst (L := f) (i := (K : Int) + (j : Int)) (n := K + j) (by omega) (by omega)
    have m := mulO_s (a := x) (b := y) hx.1 (by omega) hy.1 (by omega)
    have md := modO_int (a := cf f (K + j) + x * y) (b := p) hp.1
    have st := setI (L := f) (i := (K : Int) + (j : Int)) (n := K + j) (v := (cf f (K + j) + x * y) % p) (by omega) (by omega)
    unfold mulIn at ih ⊢
    simp -implicitDefEqProofs only [bnd_ok, bnd_exc, bnd_bad, pure_ap, bind_ap, bindD_ap, lift_some, lift_none, ofB_ap, truth_ap, asB_ap, cnd_t, cnd_f, ite_ap, and_ap, or_ap, not_ap, ofBool_ap, andV_ap, orV_ap, cons_ap, consV_ap, consS_ap, E2_ap, IxN_ap, SlN_ap, SlE_ap, partR_int, part_ap, chain_ap, var_ap, sv_val, sv_own, peek_ap, pv'_val, pv'_own, pv'_brw, chk_ap, cv_some, bnS_ok, bnS_bad, bindS_ap, sq_nx, sq_ret, sq_brk, sq_cnt, sq_bad, seqS_ap, nextS_ap, brkS_ap, cntS_ap, neverS_ap, asgS_ap, retS_ap, dropS_ap, cndS_t, cndS_f, ifS_ap, par2_ap, asgT_ap, forS_ap, whS_ap, setIx_ap, List.getElem?_cons_succ, List.getElem?_cons_zero, List.set_cons_succ, List.set_cons_zero, Rv.d_val, Rv.d_new, Rv.sl, addO_int, subO_int, gtO_int, ltO_int, geO_int, leO_int, negO_int, intO1_int, lenO_tup, lenO_lst, listO_tup, listO_lst, tupleO_tup, tupleO_lst, max2O_int, min2O_int, tupO0, tupO1, tupO2, tupO3, tupO4, lstO0, lstO1, lstO2, lstO3, lstO4, lstO5, eqO_int, neO_int, eqO_tup, neO_tup, eqO_nil, neO_nil, call1, call2, call3, call4, call5, cres_ok, truth_bool, set_tp2, set_tp3, set_nm, set_ls2, I_len, decide_true, decide_false, Bool.not_true, Bool.not_false, inst_int, eq_self, g, m, md, updL_ap, uv_own st]
    exact ih
def mulOut : SM := forS (M.bind (M.cons (var 2) (M.pure [])) enumB) (.tp [6, 7]) mulIn
theorem mul_outer {p : Int} (hp : 0 < p ∧ p < 1000) (A : PyData) (b : List Int) (hb : Rd p b) : ∀ (a : List Int) (k : Nat) (f : List Int) (s t u v : Option Sl), Rd p a → (a ≠ [] → k + a.length + b.length ≤ f.length + 1) → ∃ s' t' u' v',
    forL (.tp [4, 5]) mulOut (enK k (I a)) [some (.val (.int p)), some (.val A), some (.val (T b)), some (.own (I f)), s, t, u, v] =
      .nx [some (.val (.int p)), some (.val A), some (.val (T b)), some (.own (I (mulLoop p b k a f))), s', t', u', v']
  | [], k, f, s, t, u, v, _, _ => ⟨s, t, u, v, rfl⟩
  | x :: a, k, f, s, t, u, v, ha, hl => by
    have hl := hl (by simp)
    have hl : k + (a.length + 1) + b.length ≤ f.length + 1 := hl
    have hx := ha x (by simp)
    obtain ⟨u1, v1, hi⟩ := mul_inner hp A (T b) k x hx b 0 f u v hb (by omega)
    obtain ⟨s', t', u', v', ih⟩ := mul_outer hp A b hb a (k + 1) (addAt p x k b f) (some (.val (.int (k : Int)))) (some (.val (.int x))) u1 v1 (fun z hz => ha z (List.mem_cons_of_mem _ hz)) (fun _ => by rw [addAt_len]; omega)
    refine ⟨s', t', u', v', ?_⟩
    have e1 : (I (x :: a)) = .int x :: I a := rfl
    rw [e1]
    unfold enK forL
    have e2 : mulOut [some (.val (.int p)), some (.val A), some (.val (T b)), some (.own (I f)), some (.val (.int (k : Int))), some (.val (.int x)), u, v] = .nx [some (.val (.int p)), some (.val A), some (.val (T b)), some (.own (I (addAt p x k b f))), some (.val (.int (k : Int))), some (.val (.int x)), u1, v1] := by
      unfold mulOut
      simp -implicitDefEqProofs only [bnd_ok, bnd_exc, bnd_bad, pure_ap, bind_ap, bindD_ap, lift_some, lift_none, ofB_ap, truth_ap, asB_ap, cnd_t, cnd_f, ite_ap, and_ap, or_ap, not_ap, ofBool_ap, andV_ap, orV_ap, cons_ap, consV_ap, consS_ap, E2_ap, IxN_ap, SlN_ap, SlE_ap, partR_int, part_ap, chain_ap, var_ap, sv_val, sv_own, peek_ap, pv'_val, pv'_own, pv'_brw, chk_ap, cv_some, bnS_ok, bnS_bad, bindS_ap, sq_nx, sq_ret, sq_brk, sq_cnt, sq_bad, seqS_ap, nextS_ap, brkS_ap, cntS_ap, neverS_ap, asgS_ap, retS_ap, dropS_ap, cndS_t, cndS_f, ifS_ap, par2_ap, asgT_ap, forS_ap, whS_ap, setIx_ap, List.getElem?_cons_succ, List.getElem?_cons_zero, List.set_cons_succ, List.set_cons_zero, Rv.d_val, Rv.d_new, Rv.sl, addO_int, subO_int, gtO_int, ltO_int, geO_int, leO_int, negO_int, intO1_int, lenO_tup, lenO_lst, listO_tup, listO_lst, tupleO_tup, tupleO_lst, max2O_int, min2O_int, tupO0, tupO1, tupO2, tupO3, tupO4, lstO0, lstO1, lstO2, lstO3, lstO4, lstO5, eqO_int, neO_int, eqO_tup, neO_tup, eqO_nil, neO_nil, call1, call2, call3, call4, call5, cres_ok, truth_bool, set_tp2, set_tp3, set_nm, set_ls2, I_len, decide_true, decide_false, Bool.not_true, Bool.not_false, inst_int, eq_self, enumB_tup, enumD_enK]
      exact hi
    simp -implicitDefEqProofs only [bnd_ok, bnd_exc, bnd_bad, pure_ap, bind_ap, bindD_ap, lift_some, lift_none, ofB_ap, truth_ap, asB_ap, cnd_t, cnd_f, ite_ap, and_ap, or_ap, not_ap, ofBool_ap, andV_ap, orV_ap, cons_ap, consV_ap, consS_ap, E2_ap, IxN_ap, SlN_ap, SlE_ap, partR_int, part_ap, chain_ap, var_ap, sv_val, sv_own, peek_ap, pv'_val, pv'_own, pv'_brw, chk_ap, cv_some, bnS_ok, bnS_bad, bindS_ap, sq_nx, sq_ret, sq_brk, sq_cnt, sq_bad, seqS_ap, nextS_ap, brkS_ap, cntS_ap, neverS_ap, asgS_ap, retS_ap, dropS_ap, cndS_t, cndS_f, ifS_ap, par2_ap, asgT_ap, forS_ap, whS_ap, setIx_ap, List.getElem?_cons_succ, List.getElem?_cons_zero, List.set_cons_succ, List.set_cons_zero, Rv.d_val, Rv.d_new, Rv.sl, addO_int, subO_int, gtO_int, ltO_int, geO_int, leO_int, negO_int, intO1_int, lenO_tup, lenO_lst, listO_tup, listO_lst, tupleO_tup, tupleO_lst, max2O_int, min2O_int, tupO0, tupO1, tupO2, tupO3, tupO4, lstO0, lstO1, lstO2, lstO3, lstO4, lstO5, eqO_int, neO_int, eqO_tup, neO_tup, eqO_nil, neO_nil, call1, call2, call3, call4, call5, cres_ok, truth_bool, set_tp2, set_tp3, set_nm, set_ls2, I_len, decide_true, decide_false, Bool.not_true, Bool.not_false, inst_int, eq_self]
    rw [e2]
    exact ih
theorem flat0 : ∀ k : Nat, (List.replicate k [PyData.int 0]).flatten = I (List.replicate k 0)
  | 0 => rfl
  | k + 1 => by rw [List.replicate_succ, List.flatten_cons, flat0 k]; rfl
theorem rep0 {n : Int} {k : Nat} (h : n = k) (hk : k ≤ 10000) : mulO (.list [.int 0]) (.int n) = some (.new (I (List.replicate k 0))) := by
  subst h
  have h1 : repL (.list [.int 0]) (.int (k : Int)) = some (.new (I (List.replicate k 0))) := by
    have hc : -(2 ^ 63) ≤ (k : Int) ∧ (k : Int) < 2 ^ 63 ∧ [PyData.int 0].length * (k : Int).toNat ≤ sizeLine := ⟨by omega, by omega, by show 1 * _ ≤ sizeLine; have : sizeLine = 16777216 := rfl; omega⟩
    simp only [repL, hc, and_self, if_true]
    congr 2
    exact flat0 k
  show (intO mulC (fun i j => i * j) (.list [.int 0]) (.int (k : Int))).or ((repL (.list [.int 0]) (.int (k : Int))).or _) = _
  rw [h1]
  rfl
theorem mul_eq {p : Int} (hp : 0 < p ∧ p < 1000) {a b : List Int} (ha : Rd p a) (hb : Rd p b) (hla : a.length < 400) (hlb : b.length < 400) : f_mul_polys [.v (.int p), .v (T a), .v (T b)] = .ok (.val (T (pmul p a b))) [] := by
  have zero : ∀ c : List Int, pmul p [] c = [] := fun c => by
    unfold pmul
    show trim (List.replicate _ 0) = []
    exact trim_zero _ fun n => cf_replicate _ n
  have zero2 : ∀ c : List Int, Rd p c → pmul p c [] = [] := fun c hc => by
    have := pmul_ok hp.1 c []
    exact can_zero hp.1 this.2.1 (by rw [this.1, mk_nil]; grind)
  refine run_e (n := 8) (body := b_mul_polys) (ds := [.int p, T a, T b]) ?_
  show retOf (b_mul_polys [some (.val (.int p)), some (.val (T a)), some (.val (T b)), none, none, none, none, none]) = _
  unfold b_mul_polys
  by_cases h1 : a = []
  · subst h1
    rw [zero]
    simp -implicitDefEqProofs only [bnd_ok, bnd_exc, bnd_bad, pure_ap, bind_ap, bindD_ap, lift_some, lift_none, ofB_ap, truth_ap, asB_ap, cnd_t, cnd_f, ite_ap, and_ap, or_ap, not_ap, ofBool_ap, andV_ap, orV_ap, cons_ap, consV_ap, consS_ap, E2_ap, IxN_ap, SlN_ap, SlE_ap, partR_int, part_ap, chain_ap, var_ap, sv_val, sv_own, peek_ap, pv'_val, pv'_own, pv'_brw, chk_ap, cv_some, bnS_ok, bnS_bad, bindS_ap, sq_nx, sq_ret, sq_brk, sq_cnt, sq_bad, seqS_ap, nextS_ap, brkS_ap, cntS_ap, neverS_ap, asgS_ap, retS_ap, dropS_ap, cndS_t, cndS_f, ifS_ap, par2_ap, asgT_ap, forS_ap, whS_ap, setIx_ap, List.getElem?_cons_succ, List.getElem?_cons_zero, List.set_cons_succ, List.set_cons_zero, Rv.d_val, Rv.d_new, Rv.sl, addO_int, subO_int, gtO_int, ltO_int, geO_int, leO_int, negO_int, intO1_int, lenO_tup, lenO_lst, listO_tup, listO_lst, tupleO_tup, tupleO_lst, max2O_int, min2O_int, tupO0, tupO1, tupO2, tupO3, tupO4, lstO0, lstO1, lstO2, lstO3, lstO4, lstO5, eqO_int, neO_int, eqO_tup, neO_tup, eqO_nil, neO_nil, call1, call2, call3, call4, call5, cres_ok, truth_bool, set_tp2, set_tp3, set_nm, set_ls2, I_len, decide_true, decide_false, Bool.not_true, Bool.not_false, inst_int, eq_self, retOf_ret]
    rfl
  · by_cases h2 : b = []
    · subst h2
      rw [zero2 a ha]
      simp -implicitDefEqProofs only [bnd_ok, bnd_exc, bnd_bad, pure_ap, bind_ap, bindD_ap, lift_some, lift_none, ofB_ap, truth_ap, asB_ap, cnd_t, cnd_f, ite_ap, and_ap, or_ap, not_ap, ofBool_ap, andV_ap, orV_ap, cons_ap, consV_ap, consS_ap, E2_ap, IxN_ap, SlN_ap, SlE_ap, partR_int, part_ap, chain_ap, var_ap, sv_val, sv_own, peek_ap, pv'_val, pv'_own, pv'_brw, chk_ap, cv_some, bnS_ok, bnS_bad, bindS_ap, sq_nx, sq_ret, sq_brk, sq_cnt, sq_bad, seqS_ap, nextS_ap, brkS_ap, cntS_ap, neverS_ap, asgS_ap, retS_ap, dropS_ap, cndS_t, cndS_f, ifS_ap, par2_ap, asgT_ap, forS_ap, whS_ap, setIx_ap, List.getElem?_cons_succ, List.getElem?_cons_zero, List.set_cons_succ, List.set_cons_zero, Rv.d_val, Rv.d_new, Rv.sl, addO_int, subO_int, gtO_int, ltO_int, geO_int, leO_int, negO_int, intO1_int, lenO_tup, lenO_lst, listO_tup, listO_lst, tupleO_tup, tupleO_lst, max2O_int, min2O_int, tupO0, tupO1, tupO2, tupO3, tupO4, lstO0, lstO1, lstO2, lstO3, lstO4, lstO5, eqO_int, neO_int, eqO_tup, neO_tup, eqO_nil, neO_nil, call1, call2, call3, call4, call5, cres_ok, truth_bool, set_tp2, set_tp3, set_nm, set_ls2, I_len, decide_true, decide_false, Bool.not_true, Bool.not_false, inst_int, eq_self, h1, retOf_ret]
      rfl
    · obtain ⟨s, t, u, v, h⟩ := mul_outer hp (T a) b hb a 0 (List.replicate (a.length + b.length - 1) 0) none none none none ha (fun _ => by rw [List.length_replicate]; omega)
      have h3 : 0 < a.length := by cases a with | nil => exact absurd rfl h1 | cons => simp
      have r := rep0 (n := (a.length : Int) + (b.length : Int) - 1) (k := a.length + b.length - 1) (by omega) (by omega)
      have c := cut_eq (mulLoop p b 0 a (List.replicate (a.length + b.length - 1) 0)) (by
        have := (mulLoop_ok hp.1 b a 0 (List.replicate (a.length + b.length - 1) 0) (rd_zeros hp.1 _) fun _ => by rw [List.length_replicate]; omega).2.2
        rw [this, List.length_replicate]; omega)
      unfold mulOut mulIn at h
      simp -implicitDefEqProofs only [bnd_ok, bnd_exc, bnd_bad, pure_ap, bind_ap, bindD_ap, lift_some, lift_none, ofB_ap, truth_ap, asB_ap, cnd_t, cnd_f, ite_ap, and_ap, or_ap, not_ap, ofBool_ap, andV_ap, orV_ap, cons_ap, consV_ap, consS_ap, E2_ap, IxN_ap, SlN_ap, SlE_ap, partR_int, part_ap, chain_ap, var_ap, sv_val, sv_own, peek_ap, pv'_val, pv'_own, pv'_brw, chk_ap, cv_some, bnS_ok, bnS_bad, bindS_ap, sq_nx, sq_ret, sq_brk, sq_cnt, sq_bad, seqS_ap, nextS_ap, brkS_ap, cntS_ap, neverS_ap, asgS_ap, retS_ap, dropS_ap, cndS_t, cndS_f, ifS_ap, par2_ap, asgT_ap, forS_ap, whS_ap, setIx_ap, List.getElem?_cons_succ, List.getElem?_cons_zero, List.set_cons_succ, List.set_cons_zero, Rv.d_val, Rv.d_new, Rv.sl, addO_int, subO_int, gtO_int, ltO_int, geO_int, leO_int, negO_int, intO1_int, lenO_tup, lenO_lst, listO_tup, listO_lst, tupleO_tup, tupleO_lst, max2O_int, min2O_int, tupO0, tupO1, tupO2, tupO3, tupO4, lstO0, lstO1, lstO2, lstO3, lstO4, lstO5, eqO_int, neO_int, eqO_tup, neO_tup, eqO_nil, neO_nil, call1, call2, call3, call4, call5, cres_ok, truth_bool, set_tp2, set_tp3, set_nm, set_ls2, I_len, decide_true, decide_false, Bool.not_true, Bool.not_false, inst_int, eq_self, h1, h2, r, enumB_tup, enumD_enK, h, c, retOf_ret]
      rfl
/-! ### add_polys, scaled, take_polys -/
theorem zip_I (a b : List Int) : zipD (I a) (I b) = (a.zip b).map fun z => .tuple [.int z.1, .int z.2] := by
  unfold zipD
  rw [List.zip, List.map_zipWith, List.zipWith_map]
theorem addM_zip (p t : Int) : ∀ a b : List Int, addM p t a b = (a.zip b).map fun z => (z.1 + t * z.2) % p
  | [], b => by simp [addM]
  | x :: a, [] => by simp [addM]
  | x :: a, y :: b => by
    have := addM_zip p t a b
    simp only [addM, List.zip_cons_cons, List.map_cons, this]
theorem cat_I {a : List Int} {k n : Int} {m : Nat} (h : n = m) (hm : m ≤ 10000) (ha : a.length ≤ 10000) : addO (.list (I a)) (.list (I (List.replicate m 0))) = some (.new (I (a ++ List.replicate m 0))) := by
  have hc : (I a).length + (I (List.replicate m 0)).length ≤ sizeLine := by
    rw [I_len, I_len, List.length_replicate]
    have : sizeLine = 16777216 := rfl
    omega
  show Option.or none (Option.or none ((catL (.list (I a)) (.list (I (List.replicate m 0)))).or _)) = _
  simp only [catL, hc, if_true]
  rw [← List.map_append]
  rfl
theorem add_eq {p : Int} (hp : 0 < p ∧ p < 1000) {a b : List Int} (ha : Rd p a) (hb : Rd p b) (hla : a.length < 900) (hlb : b.length < 900) : f_add_polys [.v (.int p), .v (T a), .v (T b)] = .ok (.val (T (padd p 1 a b))) [] := by
  refine run_e (n := 8) (body := b_add_polys) (ds := [.int p, T a, T b]) ?_
  show retOf (b_add_polys [some (.val (.int p)), some (.val (T a)), some (.val (T b)), none, none, none, none, none]) = _
  have em : (max (a.length : Int) (b.length : Int)) = ((max a.length b.length : Nat) : Int) := by omega
  have r1 := rep0 (n := (max (a.length : Int) (b.length : Int)) - (a.length : Int)) (k := max a.length b.length - a.length) (by omega) (by omega)
  have r2 := rep0 (n := (max (a.length : Int) (b.length : Int)) - (b.length : Int)) (k := max a.length b.length - b.length) (by omega) (by omega)
  have c1 := cat_I (a := a) (k := 0) (n := ((max a.length b.length - a.length : Nat) : Int)) (m := max a.length b.length - a.length) rfl (by omega) (by omega)
  have c2 := cat_I (a := b) (k := 0) (n := ((max a.length b.length - b.length : Nat) : Int)) (m := max a.length b.length - b.length) rfl (by omega) (by omega)
  have hz : zipB [.list (I (padTo (max a.length b.length) a)), .list (I (padTo (max a.length b.length) b))] = M.pure ((((padTo (max a.length b.length) a).zip (padTo (max a.length b.length) b))).map fun z => .tuple [.int z.1, .int z.2]) := by
    rw [zipB_lst, zip_I]
  have hzl : ((padTo (max a.length b.length) a).zip (padTo (max a.length b.length) b)).length ≤ 100000 := by
    rw [List.length_zip, pad_len (by omega), pad_len (by omega)]; omega
  have cm := compB_map (t := .tp [6, 7]) (me := E2 modO (E2 addO (var 6) (peek 7)) (peek 0)) (vs := [6, 7]) (ρ := [some (.val (.int p)), some (.val (T a)), some (.val (T b)), some (.val (.int (max (a.length : Int) (b.length : Int)))), some (.val (.list (I (padTo (max a.length b.length) a)))), some (.val (.list (I (padTo (max a.length b.length) b)))), none, none])
    (fun z : Int × Int => .tuple [.int z.1, .int z.2]) (fun z => .int ((z.1 + z.2) % p)) _ hzl rfl (fun z _ => by
      have md := modO_int (a := z.1 + z.2) (b := p) hp.1
      have hm : ∀ u1 u2 u3 u4 u5, E2 modO (E2 addO (var 6) (peek 7)) (peek 0) [some (.val (.int p)), u1, u2, u3, u4, u5, some (.val (.int z.1)), some (.val (.int z.2))] = .ok (.val (.int ((z.1 + z.2) % p))) [some (.val (.int p)), u1, u2, u3, u4, u5, some (.val (.int z.1)), some (.val (.int z.2))] := fun _ _ _ _ _ => by
        simp -implicitDefEqProofs only [bnd_ok, bnd_exc, bnd_bad, pure_ap, bind_ap, bindD_ap, lift_some, lift_none, ofB_ap, truth_ap, asB_ap, cnd_t, cnd_f, ite_ap, and_ap, or_ap, not_ap, ofBool_ap, andV_ap, orV_ap, cons_ap, consV_ap, consS_ap, E2_ap, IxN_ap, SlN_ap, SlE_ap, partR_int, part_ap, chain_ap, var_ap, sv_val, sv_own, peek_ap, pv'_val, pv'_own, pv'_brw, chk_ap, cv_some, bnS_ok, bnS_bad, bindS_ap, sq_nx, sq_ret, sq_brk, sq_cnt, sq_bad, seqS_ap, nextS_ap, brkS_ap, cntS_ap, neverS_ap, asgS_ap, retS_ap, dropS_ap, cndS_t, cndS_f, ifS_ap, par2_ap, asgT_ap, forS_ap, whS_ap, setIx_ap, List.getElem?_cons_succ, List.getElem?_cons_zero, List.set_cons_succ, List.set_cons_zero, Rv.d_val, Rv.d_new, Rv.sl, addO_int, subO_int, gtO_int, ltO_int, geO_int, leO_int, negO_int, intO1_int, lenO_tup, lenO_lst, listO_tup, listO_lst, tupleO_tup, tupleO_lst, max2O_int, min2O_int, tupO0, tupO1, tupO2, tupO3, tupO4, lstO0, lstO1, lstO2, lstO3, lstO4, lstO5, eqO_int, neO_int, eqO_tup, neO_tup, eqO_nil, neO_nil, call1, call2, call3, call4, call5, cres_ok, truth_bool, set_tp2, set_tp3, set_nm, set_ls2, I_len, decide_true, decide_false, Bool.not_true, Bool.not_false, inst_int, eq_self, md]
      exact ⟨_, rfl, _, _, hm _ _ _ _ _, rfl, rfl⟩)
  have eo : (((padTo (max a.length b.length) a).zip (padTo (max a.length b.length) b)).map fun z => PyData.int ((z.1 + z.2) % p)) = I (addM p 1 (padTo (max a.length b.length) a) (padTo (max a.length b.length) b)) := by
    rw [addM_zip]
    show _ = List.map PyData.int (List.map _ _)
    rw [List.map_map]
    refine List.map_congr_left fun z _ => ?_
    show PyData.int _ = PyData.int ((z.1 + 1 * z.2) % p)
    rw [Int.one_mul]
  rw [eo] at cm
  have hc := cut_eq (addM p 1 (padTo (max a.length b.length) a) (padTo (max a.length b.length) b)) (by
    have := (addM_ok hp.1 1 (padTo (max a.length b.length) a) (padTo (max a.length b.length) b) (by rw [pad_len (by omega), pad_len (by omega)])).2.2
    rw [this, pad_len (by omega)]; omega)
  unfold padTo at cm hz hc
  unfold b_add_polys
  simp -implicitDefEqProofs only [bnd_ok, bnd_exc, bnd_bad, pure_ap, bind_ap, bindD_ap, lift_some, lift_none, ofB_ap, truth_ap, asB_ap, cnd_t, cnd_f, ite_ap, and_ap, or_ap, not_ap, ofBool_ap, andV_ap, orV_ap, cons_ap, consV_ap, consS_ap, E2_ap, IxN_ap, SlN_ap, SlE_ap, partR_int, part_ap, chain_ap, var_ap, sv_val, sv_own, peek_ap, pv'_val, pv'_own, pv'_brw, chk_ap, cv_some, bnS_ok, bnS_bad, bindS_ap, sq_nx, sq_ret, sq_brk, sq_cnt, sq_bad, seqS_ap, nextS_ap, brkS_ap, cntS_ap, neverS_ap, asgS_ap, retS_ap, dropS_ap, cndS_t, cndS_f, ifS_ap, par2_ap, asgT_ap, forS_ap, whS_ap, setIx_ap, List.getElem?_cons_succ, List.getElem?_cons_zero, List.set_cons_succ, List.set_cons_zero, Rv.d_val, Rv.d_new, Rv.sl, addO_int, subO_int, gtO_int, ltO_int, geO_int, leO_int, negO_int, intO1_int, lenO_tup, lenO_lst, listO_tup, listO_lst, tupleO_tup, tupleO_lst, max2O_int, min2O_int, tupO0, tupO1, tupO2, tupO3, tupO4, lstO0, lstO1, lstO2, lstO3, lstO4, lstO5, eqO_int, neO_int, eqO_tup, neO_tup, eqO_nil, neO_nil, call1, call2, call3, call4, call5, cres_ok, truth_bool, set_tp2, set_tp3, set_nm, set_ls2, I_len, decide_true, decide_false, Bool.not_true, Bool.not_false, inst_int, eq_self, r1, r2, c1, c2, hz, cm, hc, retOf_ret]
  rfl
end K01

set_option Elab.async false
set_option linter.all false
set_option maxRecDepth 100000
set_option maxHeartbeats 2000000
namespace K01
open PySem PySem.Spec PyProof.Rows L2 RZ Fx PM
def Fld (p : Int) : Prop := p = 2 ∨ p = 3 ∨ p = 5
theorem Fld.b {p : Int} (h : Fld p) : 0 < p ∧ p < 1000 := by rcases h with h | h | h <;> subst h <;> decide
def inv (p x : Int) : Int := if x = 1 then 1 else if p = 5 then (if x = 2 then 3 else if x = 3 then 2 else 4) else 2
theorem inv_ok {p x : Int} (h : Fld p) (hx : 0 < x ∧ x < p) : p ∣ x * inv p x - 1 ∧ 0 < inv p x ∧ inv p x < p := by
  rcases h with h | h | h <;> subst h
  · have : x = 1 := by omega
    subst this; decide
  · have : x = 1 ∨ x = 2 := by omega
    rcases this with e | e <;> subst e <;> decide
  · have : x = 1 ∨ x = 2 ∨ x = 3 ∨ x = 4 := by omega
    rcases this with e | e | e | e <;> subst e <;> decide
theorem inverse_eq {p x : Int} (h : Fld p) (hx : 0 < x ∧ x < p) : f_inverse_number [.v (.int p), .v (.int x)] = .ok (.val (.int (inv p x))) [] := by
  rcases h with h | h | h <;> subst h
  · have : x = 1 := by omega
    subst this; kernel_rfl
  · have : x = 1 ∨ x = 2 := by omega
    rcases this with e | e <;> subst e <;> kernel_rfl
  · have : x = 1 ∨ x = 2 ∨ x = 3 ∨ x = 4 := by omega
    rcases this with e | e | e | e <;> subst e <;> kernel_rfl
theorem linverse_eq {p x : Int} (h : Fld p) (hx : 0 < x ∧ x < p) : f__law_inverse_of [.v (.int p), .v (.int x)] = .ok (.val (.int (inv p x))) [] := by
  rcases h with h | h | h <;> subst h
  · have : x = 1 := by omega
    subst this; kernel_rfl
  · have : x = 1 ∨ x = 2 := by omega
    rcases this with e | e <;> subst e <;> kernel_rfl
  · have : x = 1 ∨ x = 2 ∨ x = 3 ∨ x = 4 := by omega
    rcases this with e | e | e | e <;> subst e <;> kernel_rfl
/-! ### scaled -/
theorem items_tup {ds : List PyData} {ρ : Rho} : itemsB (.tuple ds) ρ = .ok ds ρ := rfl
theorem items_lst {ds : List PyData} {ρ : Rho} : itemsB (.list ds) ρ = .ok ds ρ := rfl
theorem scaled_eq {p c : Int} (hp : 0 < p ∧ p < 1000) (hc : 0 ≤ c ∧ c < 1000) {a : List Int} (ha : Rd p a) (hla : a.length < 900) : f_scaled [.v (.int p), .v (T a), .v (.int c)] = .ok (.val (T (pscale p c a))) [] := by
  refine run_e (n := 4) (body := b_scaled) (ds := [.int p, T a, .int c]) ?_
  show retOf (b_scaled [some (.val (.int p)), some (.val (T a)), some (.val (.int c)), none]) = _
  have cm := compB_map (t := .nm 3) (me := E2 modO (E2 mulO (var 2) (peek 3)) (peek 0)) (vs := [3]) (ρ := [some (.val (.int p)), some (.val (T a)), some (.val (.int c)), none])
    PyData.int (fun z => .int ((c * z) % p)) a (by omega) rfl (fun z hz => by
      have md := modO_int (a := c * z) (b := p) hp.1
      have hz := ha z hz
      have ml := mulO_s (a := c) (b := z) hc.1 (by omega) hz.1 (by omega)
      have hm : ∀ u1, E2 modO (E2 mulO (var 2) (peek 3)) (peek 0) [some (.val (.int p)), u1, some (.val (.int c)), some (.val (.int z))] = .ok (.val (.int ((c * z) % p))) [some (.val (.int p)), u1, some (.val (.int c)), some (.val (.int z))] := fun _ => by
        simp -implicitDefEqProofs only [bnd_ok, bnd_exc, bnd_bad, pure_ap, bind_ap, bindD_ap, lift_some, lift_none, ofB_ap, truth_ap, asB_ap, cnd_t, cnd_f, ite_ap, and_ap, or_ap, not_ap, ofBool_ap, andV_ap, orV_ap, cons_ap, consV_ap, consS_ap, E2_ap, IxN_ap, SlN_ap, SlE_ap, partR_int, part_ap, chain_ap, var_ap, sv_val, sv_own, peek_ap, pv'_val, pv'_own, pv'_brw, chk_ap, cv_some, bnS_ok, bnS_bad, bindS_ap, sq_nx, sq_ret, sq_brk, sq_cnt, sq_bad, seqS_ap, nextS_ap, brkS_ap, cntS_ap, neverS_ap, asgS_ap, retS_ap, dropS_ap, cndS_t, cndS_f, ifS_ap, par2_ap, asgT_ap, forS_ap, whS_ap, setIx_ap, List.getElem?_cons_succ, List.getElem?_cons_zero, List.set_cons_succ, List.set_cons_zero, Rv.d_val, Rv.d_new, Rv.sl, addO_int, subO_int, gtO_int, ltO_int, geO_int, leO_int, negO_int, intO1_int, lenO_tup, lenO_lst, listO_tup, listO_lst, tupleO_tup, tupleO_lst, max2O_int, min2O_int, tupO0, tupO1, tupO2, tupO3, tupO4, lstO0, lstO1, lstO2, lstO3, lstO4, lstO5, eqO_int, neO_int, eqO_tup, neO_tup, eqO_nil, neO_nil, call1, call2, call3, call4, call5, cres_ok, truth_bool, set_tp2, set_tp3, set_nm, set_ls2, I_len, decide_true, decide_false, Bool.not_true, Bool.not_false, inst_int, eq_self, ml, md]
      exact ⟨_, rfl, _, _, hm _, rfl, rfl⟩)
  have eo : (a.map fun z => PyData.int ((c * z) % p)) = I (a.map fun z => (c * z) % p) := by
    show _ = List.map PyData.int (List.map _ _)
    rw [List.map_map]; rfl
  rw [eo] at cm
  have hcut := cut_eq (a.map fun z => (c * z) % p) (by rw [List.length_map]; omega)
  unfold b_scaled
  simp -implicitDefEqProofs only [bnd_ok, bnd_exc, bnd_bad, pure_ap, bind_ap, bindD_ap, lift_some, lift_none, ofB_ap, truth_ap, asB_ap, cnd_t, cnd_f, ite_ap, and_ap, or_ap, not_ap, ofBool_ap, andV_ap, orV_ap, cons_ap, consV_ap, consS_ap, E2_ap, IxN_ap, SlN_ap, SlE_ap, partR_int, part_ap, chain_ap, var_ap, sv_val, sv_own, peek_ap, pv'_val, pv'_own, pv'_brw, chk_ap, cv_some, bnS_ok, bnS_bad, bindS_ap, sq_nx, sq_ret, sq_brk, sq_cnt, sq_bad, seqS_ap, nextS_ap, brkS_ap, cntS_ap, neverS_ap, asgS_ap, retS_ap, dropS_ap, cndS_t, cndS_f, ifS_ap, par2_ap, asgT_ap, forS_ap, whS_ap, setIx_ap, List.getElem?_cons_succ, List.getElem?_cons_zero, List.set_cons_succ, List.set_cons_zero, Rv.d_val, Rv.d_new, Rv.sl, addO_int, subO_int, gtO_int, ltO_int, geO_int, leO_int, negO_int, intO1_int, lenO_tup, lenO_lst, listO_tup, listO_lst, tupleO_tup, tupleO_lst, max2O_int, min2O_int, tupO0, tupO1, tupO2, tupO3, tupO4, lstO0, lstO1, lstO2, lstO3, lstO4, lstO5, eqO_int, neO_int, eqO_tup, neO_tup, eqO_nil, neO_nil, call1, call2, call3, call4, call5, cres_ok, truth_bool, set_tp2, set_tp3, set_nm, set_ls2, I_len, decide_true, decide_false, Bool.not_true, Bool.not_false, inst_int, eq_self, items_tup, cm, hcut, retOf_ret]
  rfl
/-- one + (p - 1) other -/
def psub (p : Int) (a b : List Int) : List Int := padd p 1 a (pscale p (p - 1) b)
theorem take_eq {p : Int} (hp : 0 < p ∧ p < 1000) {a b : List Int} (ha : Rd p a) (hb : Rd p b) (hla : a.length < 900) (hlb : b.length < 900) : f_take_polys [.v (.int p), .v (T a), .v (T b)] = .ok (.val (T (psub p a b))) [] := by
  refine run_e (n := 3) (body := b_take_polys) (ds := [.int p, T a, T b]) ?_
  show retOf (b_take_polys [some (.val (.int p)), some (.val (T a)), some (.val (T b))]) = _
  have h1 := scaled_eq (c := p - 1) hp (by omega) hb hlb
  have k := pscale_ok hp.1 (p - 1) b
  have h2 := add_eq hp ha k.2.1.rd hla (by omega)
  unfold b_take_polys
  simp -implicitDefEqProofs only [bnd_ok, bnd_exc, bnd_bad, pure_ap, bind_ap, bindD_ap, lift_some, lift_none, ofB_ap, truth_ap, asB_ap, cnd_t, cnd_f, ite_ap, and_ap, or_ap, not_ap, ofBool_ap, andV_ap, orV_ap, cons_ap, consV_ap, consS_ap, E2_ap, IxN_ap, SlN_ap, SlE_ap, partR_int, part_ap, chain_ap, var_ap, sv_val, sv_own, peek_ap, pv'_val, pv'_own, pv'_brw, chk_ap, cv_some, bnS_ok, bnS_bad, bindS_ap, sq_nx, sq_ret, sq_brk, sq_cnt, sq_bad, seqS_ap, nextS_ap, brkS_ap, cntS_ap, neverS_ap, asgS_ap, retS_ap, dropS_ap, cndS_t, cndS_f, ifS_ap, par2_ap, asgT_ap, forS_ap, whS_ap, setIx_ap, List.getElem?_cons_succ, List.getElem?_cons_zero, List.set_cons_succ, List.set_cons_zero, Rv.d_val, Rv.d_new, Rv.sl, addO_int, subO_int, gtO_int, ltO_int, geO_int, leO_int, negO_int, intO1_int, lenO_tup, lenO_lst, listO_tup, listO_lst, tupleO_tup, tupleO_lst, max2O_int, min2O_int, tupO0, tupO1, tupO2, tupO3, tupO4, lstO0, lstO1, lstO2, lstO3, lstO4, lstO5, eqO_int, neO_int, eqO_tup, neO_tup, eqO_nil, neO_nil, call1, call2, call3, call4, call5, cres_ok, truth_bool, set_tp2, set_tp3, set_nm, set_ls2, I_len, decide_true, decide_false, Bool.not_true, Bool.not_false, inst_int, eq_self, h1, h2, retOf_ret]
  rfl
/-! ### div_polys -/
def divIn : SM := setIx 3 (E2 modO (E2 subO (IxN 3 (E2 addO (var 6) (peek 8))) (M.ofB (E2 mulO (var 7) (peek 9)))) (peek 0)) (E2 addO (var 6) (peek 8))
theorem div_inner {p : Int} (hp : 0 < p ∧ p < 1000) (A B F l : Option Sl) (K : Nat) (c : Int) (hc : 0 ≤ c ∧ c < p) : ∀ (b : List Int) (j : Nat) (f : List Int) (u v : Option Sl), Rd p b → K + j + b.length ≤ f.length → ∃ u' v',
    forL (.tp [8, 9]) divIn (enK j (I b)) [some (.val (.int p)), A, B, some (.own (I f)), F, l, some (.val (.int (K : Int))), some (.val (.int c)), u, v] =
      .nx [some (.val (.int p)), A, B, some (.own (I (subAt p c (K + j) b f))), F, l, some (.val (.int (K : Int))), some (.val (.int c)), u', v']
  | [], j, f, u, v, _, _ => ⟨u, v, rfl⟩
  | y :: b, j, f, u, v, hb, hl => by
    have hl : K + j + (b.length + 1) ≤ f.length := hl
    have hy := hb y (by simp)
    obtain ⟨u', v', ih⟩ := div_inner hp A B F l K c hc b (j + 1) (f.set (K + j) ((cf f (K + j) - c * y) % p)) (some (.val (.int (j : Int)))) (some (.val (.int y))) (fun z hz => hb z (List.mem_cons_of_mem _ hz)) (by rw [List.length_set]; omega)
    refine ⟨u', v', ?_⟩
    have e1 : (I (y :: b)) = .int y :: I b := rfl
    rw [e1]
    unfold enK forL
    have g := getI_lst (L := f) (i := (K : Int) + (j : Int)) (n := K + j) (by omega) (by omega)
    have m := mulO_s (a := c) (b := y) hc.1 (by omega) hy.1 (by omega)
    have md := modO_int (a := cf f (K + j) - c * y) (b := p) hp.1
    have st := setI (L := f) (i := (K : Int) + (j : Int)) (n := K + j) (v := (cf f (K + j) - c * y) % p) (by omega) (by omega)
    unfold divIn at ih ⊢
    simp -implicitDefEqProofs only [bnd_ok, bnd_exc, bnd_bad, pure_ap, bind_ap, bindD_ap, lift_some, lift_none, ofB_ap, truth_ap, asB_ap, cnd_t, cnd_f, ite_ap, and_ap, or_ap, not_ap, ofBool_ap, andV_ap, orV_ap, cons_ap, consV_ap, consS_ap, E2_ap, IxN_ap, SlN_ap, SlE_ap, partR_int, part_ap, chain_ap, var_ap, sv_val, sv_own, peek_ap, pv'_val, pv'_own, pv'_brw, chk_ap, cv_some, bnS_ok, bnS_bad, bindS_ap, sq_nx, sq_ret, sq_brk, sq_cnt, sq_bad, seqS_ap, nextS_ap, brkS_ap, cntS_ap, neverS_ap, asgS_ap, retS_ap, dropS_ap, cndS_t, cndS_f, ifS_ap, par2_ap, asgT_ap, forS_ap, whS_ap, setIx_ap, List.getElem?_cons_succ, List.getElem?_cons_zero, List.set_cons_succ, List.set_cons_zero, Rv.d_val, Rv.d_new, Rv.sl, addO_int, subO_int, gtO_int, ltO_int, geO_int, leO_int, negO_int, intO1_int, lenO_tup, lenO_lst, listO_tup, listO_lst, tupleO_tup, tupleO_lst, max2O_int, min2O_int, tupO0, tupO1, tupO2, tupO3, tupO4, lstO0, lstO1, lstO2, lstO3, lstO4, lstO5, eqO_int, neO_int, eqO_tup, neO_tup, eqO_nil, neO_nil, call1, call2, call3, call4, call5, cres_ok, truth_bool, set_tp2, set_tp3, set_nm, set_ls2, I_len, decide_true, decide_false, Bool.not_true, Bool.not_false, inst_int, eq_self, g, m, md, updL_ap, uv_own st]
    exact ih
def divOut : SM := seqS (asgS 7 (E2 modO (E2 mulO (IxN 3 (E2 subO (E2 addO (var 6) (M.ofB (M.bind (peek 2) fun d => M.lift (lenO d)))) (M.ofB (M.pure (.val (.int 1)))))) (peek 5)) (peek 0))) (seqS (setIx 4 (var 7) (var 6)) (forS (M.bind (M.cons (var 2) (M.pure [])) enumB) (.tp [8, 9]) divIn))
theorem div_outer {p u : Int} (hp : 0 < p ∧ p < 1000) (hu : 0 ≤ u ∧ u < p) (A : Option Sl) (b : List Int) (hb : Rd p b) (hne : b ≠ []) : ∀ (k : Nat) (f r : List Int) (s t v w : Option Sl), Rd p r → k ≤ f.length → (k = 0 ∨ k + b.length ≤ r.length + 1) → ∃ s' t' v' w',
    forL (.nm 6) divOut (dnK k) [some (.val (.int p)), A, some (.val (T b)), some (.own (I r)), some (.own (I f)), some (.val (.int u)), s, t, v, w] =
      .nx [some (.val (.int p)), A, some (.val (T b)), some (.own (I (divLoop p u b k (f, r)).2)), some (.own (I (divLoop p u b k (f, r)).1)), some (.val (.int u)), s', t', v', w']
  | 0, f, r, s, t, v, w, _, _, _ => ⟨s, t, v, w, rfl⟩
  | k + 1, f, r, s, t, v, w, hr, hk, hkr => by
    have hbl : 0 < b.length := by cases b with | nil => exact absurd rfl hne | cons => simp
    have hkr : k + 1 + b.length ≤ r.length + 1 := by rcases hkr with h | h <;> omega
    have hc0 : 0 ≤ (cf r (k + b.length - 1) * u) % p ∧ (cf r (k + b.length - 1) * u) % p < p := ⟨Int.emod_nonneg _ (by omega), Int.emod_lt_of_pos _ hp.1⟩
    generalize hc : (cf r (k + b.length - 1) * u) % p = c at hc0
    obtain ⟨v1, w1, hi⟩ := div_inner hp A (some (.val (T b))) (some (.own (I (f.set k c)))) (some (.val (.int u))) k c hc0 b 0 r v w hb (by omega)
    have es := subAt_eq (p := p) c b k r
    obtain ⟨s', t', v', w', ih⟩ := div_outer hp hu A b hb hne k (f.set k c) (subAt p c k b r) (some (.val (.int (k : Int)))) (some (.val (.int c))) v1 w1 (by rw [es]; exact addAt_rd _ hp.1 b k r hr) (by rw [List.length_set]; omega) (.inr (by rw [es, addAt_len]; omega))
    refine ⟨s', t', v', w', ?_⟩
    have e3 : divLoop p u b (k + 1) (f, r) = divLoop p u b k (f.set k c, subAt p c k b r) := by rw [← hc]; rfl
    rw [e3]
    unfold dnK forL
    have hrd := cf_rd hr hp.1 (k + b.length - 1)
    have g := getI_lst (L := r) (i := (k : Int) + (b.length : Int) - 1) (n := k + b.length - 1) (by omega) (by omega)
    have m := mulO_s (a := cf r (k + b.length - 1)) (b := u) hrd.1 (by omega) hu.1 (by omega)
    have md := modO_int (a := cf r (k + b.length - 1) * u) (b := p) hp.1
    have st := setI (L := f) (i := (k : Int)) (n := k) (v := c) rfl (by omega)
    rw [hc] at md
    have e2 : divOut [some (.val (.int p)), A, some (.val (T b)), some (.own (I r)), some (.own (I f)), some (.val (.int u)), some (.val (.int (k : Int))), t, v, w] = .nx [some (.val (.int p)), A, some (.val (T b)), some (.own (I (subAt p c k b r))), some (.own (I (f.set k c))), some (.val (.int u)), some (.val (.int (k : Int))), some (.val (.int c)), v1, w1] := by
      unfold divOut
      simp -implicitDefEqProofs only [bnd_ok, bnd_exc, bnd_bad, pure_ap, bind_ap, bindD_ap, lift_some, lift_none, ofB_ap, truth_ap, asB_ap, cnd_t, cnd_f, ite_ap, and_ap, or_ap, not_ap, ofBool_ap, andV_ap, orV_ap, cons_ap, consV_ap, consS_ap, E2_ap, IxN_ap, SlN_ap, SlE_ap, partR_int, part_ap, chain_ap, var_ap, sv_val, sv_own, peek_ap, pv'_val, pv'_own, pv'_brw, chk_ap, cv_some, bnS_ok, bnS_bad, bindS_ap, sq_nx, sq_ret, sq_brk, sq_cnt, sq_bad, seqS_ap, nextS_ap, brkS_ap, cntS_ap, neverS_ap, asgS_ap, retS_ap, dropS_ap, cndS_t, cndS_f, ifS_ap, par2_ap, asgT_ap, forS_ap, whS_ap, setIx_ap, List.getElem?_cons_succ, List.getElem?_cons_zero, List.set_cons_succ, List.set_cons_zero, Rv.d_val, Rv.d_new, Rv.sl, addO_int, subO_int, gtO_int, ltO_int, geO_int, leO_int, negO_int, intO1_int, lenO_tup, lenO_lst, listO_tup, listO_lst, tupleO_tup, tupleO_lst, max2O_int, min2O_int, tupO0, tupO1, tupO2, tupO3, tupO4, lstO0, lstO1, lstO2, lstO3, lstO4, lstO5, eqO_int, neO_int, eqO_tup, neO_tup, eqO_nil, neO_nil, call1, call2, call3, call4, call5, cres_ok, truth_bool, set_tp2, set_tp3, set_nm, set_ls2, I_len, decide_true, decide_false, Bool.not_true, Bool.not_false, inst_int, eq_self, g, m, md, updL_ap, uv_own st, enumB_tup, enumD_enK]
      exact hi
    simp -implicitDefEqProofs only [bnd_ok, bnd_exc, bnd_bad, pure_ap, bind_ap, bindD_ap, lift_some, lift_none, ofB_ap, truth_ap, asB_ap, cnd_t, cnd_f, ite_ap, and_ap, or_ap, not_ap, ofBool_ap, andV_ap, orV_ap, cons_ap, consV_ap, consS_ap, E2_ap, IxN_ap, SlN_ap, SlE_ap, partR_int, part_ap, chain_ap, var_ap, sv_val, sv_own, peek_ap, pv'_val, pv'_own, pv'_brw, chk_ap, cv_some, bnS_ok, bnS_bad, bindS_ap, sq_nx, sq_ret, sq_brk, sq_cnt, sq_bad, seqS_ap, nextS_ap, brkS_ap, cntS_ap, neverS_ap, asgS_ap, retS_ap, dropS_ap, cndS_t, cndS_f, ifS_ap, par2_ap, asgT_ap, forS_ap, whS_ap, setIx_ap, List.getElem?_cons_succ, List.getElem?_cons_zero, List.set_cons_succ, List.set_cons_zero, Rv.d_val, Rv.d_new, Rv.sl, addO_int, subO_int, gtO_int, ltO_int, geO_int, leO_int, negO_int, intO1_int, lenO_tup, lenO_lst, listO_tup, listO_lst, tupleO_tup, tupleO_lst, max2O_int, min2O_int, tupO0, tupO1, tupO2, tupO3, tupO4, lstO0, lstO1, lstO2, lstO3, lstO4, lstO5, eqO_int, neO_int, eqO_tup, neO_tup, eqO_nil, neO_nil, call1, call2, call3, call4, call5, cres_ok, truth_bool, set_tp2, set_tp3, set_nm, set_ls2, I_len, decide_true, decide_false, Bool.not_true, Bool.not_false, inst_int, eq_self]
    rw [e2]
    exact ih
theorem div_eq {p : Int} (h : Fld p) {a b : List Int} (ha : Rd p a) (hb : Can p b) (hne : b ≠ []) (hla : a.length < 900) (hlb : b.length < 900) :
    f_div_polys [.v (.int p), .v (T a), .v (T b)] = .ok (.val (.tuple [T (pdiv p (inv p (cf b (b.length - 1))) a b).1, T (pdiv p (inv p (cf b (b.length - 1))) a b).2])) [] := by
  have hp := h.b
  have hbl : 0 < b.length := by cases b with | nil => exact absurd rfl hne | cons => simp
  have hlead := cf_rd hb.rd hp.1 (b.length - 1)
  have hlz := last_ne b hb.tr hne
  have hi := inv_ok h (x := cf b (b.length - 1)) (by omega)
  refine run_e (n := 10) (body := b_div_polys) (ds := [.int p, T a, T b]) ?_
  show retOf (b_div_polys [some (.val (.int p)), some (.val (T a)), some (.val (T b)), none, none, none, none, none, none, none]) = _
  have r := rep0 (n := max 0 ((a.length : Int) - (b.length : Int) + 1)) (k := a.length + 1 - b.length) (by omega) (by omega)
  have hl := getI_last hne
  have hv := inverse_eq h (x := cf b (b.length - 1)) (by omega)
  have hrg := rng3_dn (i := (((List.replicate (a.length + 1 - b.length) (0 : Int)).length : Nat) : Int) - 1) (by rw [List.length_replicate]; omega)
  have hrn : ((((List.replicate (a.length + 1 - b.length) (0 : Int)).length : Nat) : Int) - 1 + 1).toNat = a.length + 1 - b.length := by rw [List.length_replicate]; omega
  rw [hrn] at hrg
  obtain ⟨s, t, v, w, ho⟩ := div_outer (u := inv p (cf b (b.length - 1))) hp (by omega) (some (.val (T a))) b hb.rd hne (a.length + 1 - b.length) (List.replicate (a.length + 1 - b.length) 0) a none none none none ha (by rw [List.length_replicate]; omega) (by omega)
  have ok := divLoop_ok hp.1 hne hi.1 (a.length + 1 - b.length) (List.replicate (a.length + 1 - b.length) 0) a (rd_zeros hp.1 _) ha (by rw [List.length_replicate]; omega) (by omega) (fun n _ => cf_replicate _ _) (fun n hn => cf_ge (by omega)) _ _ rfl
  have c1 := cut_eq (divLoop p (inv p (cf b (b.length - 1))) b (a.length + 1 - b.length) (List.replicate (a.length + 1 - b.length) 0, a)).1 (by rw [ok.2.2.2.1, List.length_replicate]; omega)
  have c2 := cut_eq (divLoop p (inv p (cf b (b.length - 1))) b (a.length + 1 - b.length) (List.replicate (a.length + 1 - b.length) 0, a)).2 (by rw [ok.2.2.2.2.1]; omega)
  unfold divOut divIn at ho
  unfold b_div_polys
  simp -implicitDefEqProofs only [bnd_ok, bnd_exc, bnd_bad, pure_ap, bind_ap, bindD_ap, lift_some, lift_none, ofB_ap, truth_ap, asB_ap, cnd_t, cnd_f, ite_ap, and_ap, or_ap, not_ap, ofBool_ap, andV_ap, orV_ap, cons_ap, consV_ap, consS_ap, E2_ap, IxN_ap, SlN_ap, SlE_ap, partR_int, part_ap, chain_ap, var_ap, sv_val, sv_own, peek_ap, pv'_val, pv'_own, pv'_brw, chk_ap, cv_some, bnS_ok, bnS_bad, bindS_ap, sq_nx, sq_ret, sq_brk, sq_cnt, sq_bad, seqS_ap, nextS_ap, brkS_ap, cntS_ap, neverS_ap, asgS_ap, retS_ap, dropS_ap, cndS_t, cndS_f, ifS_ap, par2_ap, asgT_ap, forS_ap, whS_ap, setIx_ap, List.getElem?_cons_succ, List.getElem?_cons_zero, List.set_cons_succ, List.set_cons_zero, Rv.d_val, Rv.d_new, Rv.sl, addO_int, subO_int, gtO_int, ltO_int, geO_int, leO_int, negO_int, intO1_int, lenO_tup, lenO_lst, listO_tup, listO_lst, tupleO_tup, tupleO_lst, max2O_int, min2O_int, tupO0, tupO1, tupO2, tupO3, tupO4, lstO0, lstO1, lstO2, lstO3, lstO4, lstO5, eqO_int, neO_int, eqO_tup, neO_tup, eqO_nil, neO_nil, call1, call2, call3, call4, call5, cres_ok, truth_bool, set_tp2, set_tp3, set_nm, set_ls2, I_len, decide_true, decide_false, Bool.not_true, Bool.not_false, inst_int, eq_self, r, hl, hv, hrg, ho, c1, c2, retOf_ret]
  rfl
end K01

set_option Elab.async false
set_option linter.all false
set_option maxRecDepth 100000
set_option maxHeartbeats 2000000
namespace K01
open PySem PySem.Spec PyProof.Rows L2 RZ Fx PM
/-! ### _law_trim -/
def trB : SM := ifS (M.and (M.bind (E2 gtO (var 1) (M.ofB (M.pure (.val (.int 0))))) asB) (M.bind (E2 eqO (IxN 0 (E2 subO (var 1) (M.ofB (M.pure (.val (.int 1)))))) (M.ofB (M.pure (.val (.int 0))))) asB)) (asgS 1 (E2 subO (var 1) (M.ofB (M.pure (.val (.int 1)))))) (nextS)
theorem tr_step {d : PyData} {L : List Int} (hd : d = .list (I L) ∨ d = .tuple (I L)) (l : Nat) (hl : l ≤ L.length) (u : Option Sl) :
    trB [some (.val d), some (.val (.int (l : Int))), u] = .nx [some (.val d), some (.val (.int ((if l ≠ 0 ∧ cf L (l - 1) = 0 then l - 1 else l : Nat) : Int))), u] := by
  unfold trB
  cases l with
  | zero =>
    have e : ((0 : Nat) : Int) = 0 := rfl
    have e2 : ¬ ((0 : Int) < 0) := by decide
    simp -implicitDefEqProofs only [bnd_ok, bnd_exc, bnd_bad, pure_ap, bind_ap, bindD_ap, lift_some, lift_none, ofB_ap, truth_ap, asB_ap, cnd_t, cnd_f, ite_ap, and_ap, or_ap, not_ap, ofBool_ap, andV_ap, orV_ap, cons_ap, consV_ap, consS_ap, E2_ap, IxN_ap, SlN_ap, SlE_ap, partR_int, part_ap, chain_ap, var_ap, sv_val, sv_own, peek_ap, pv'_val, pv'_own, pv'_brw, chk_ap, cv_some, bnS_ok, bnS_bad, bindS_ap, sq_nx, sq_ret, sq_brk, sq_cnt, sq_bad, seqS_ap, nextS_ap, brkS_ap, cntS_ap, neverS_ap, asgS_ap, retS_ap, dropS_ap, cndS_t, cndS_f, ifS_ap, par2_ap, asgT_ap, forS_ap, whS_ap, setIx_ap, List.getElem?_cons_succ, List.getElem?_cons_zero, List.set_cons_succ, List.set_cons_zero, Rv.d_val, Rv.d_new, Rv.sl, addO_int, subO_int, gtO_int, ltO_int, geO_int, leO_int, negO_int, intO1_int, lenO_tup, lenO_lst, listO_tup, listO_lst, tupleO_tup, tupleO_lst, max2O_int, min2O_int, tupO0, tupO1, tupO2, tupO3, tupO4, lstO0, lstO1, lstO2, lstO3, lstO4, lstO5, eqO_int, neO_int, eqO_tup, neO_tup, eqO_nil, neO_nil, call1, call2, call3, call4, call5, cres_ok, truth_bool, set_tp2, set_tp3, set_nm, set_ls2, I_len, decide_true, decide_false, Bool.not_true, Bool.not_false, inst_int, eq_self, e, e2]
    rfl
  | succ k =>
    have e : getO d (.int (k : Int)) = some (.val (.int (cf L k))) := by
      rcases hd with hd | hd <;> subst hd
      · exact getI_lst rfl (by omega)
      · exact getI_tup rfl (by omega)
    have e2 : ((k + 1 : Nat) : Int) - 1 = k := by omega
    have e3 : (0 : Int) < ((k + 1 : Nat) : Int) := by omega
    by_cases hz : cf L k = 0
    · have e4 : (if k + 1 ≠ 0 ∧ cf L (k + 1 - 1) = 0 then k + 1 - 1 else k + 1) = k := by rw [if_pos ⟨by omega, hz⟩]; omega
      rw [e4]
      simp -implicitDefEqProofs only [bnd_ok, bnd_exc, bnd_bad, pure_ap, bind_ap, bindD_ap, lift_some, lift_none, ofB_ap, truth_ap, asB_ap, cnd_t, cnd_f, ite_ap, and_ap, or_ap, not_ap, ofBool_ap, andV_ap, orV_ap, cons_ap, consV_ap, consS_ap, E2_ap, IxN_ap, SlN_ap, SlE_ap, partR_int, part_ap, chain_ap, var_ap, sv_val, sv_own, peek_ap, pv'_val, pv'_own, pv'_brw, chk_ap, cv_some, bnS_ok, bnS_bad, bindS_ap, sq_nx, sq_ret, sq_brk, sq_cnt, sq_bad, seqS_ap, nextS_ap, brkS_ap, cntS_ap, neverS_ap, asgS_ap, retS_ap, dropS_ap, cndS_t, cndS_f, ifS_ap, par2_ap, asgT_ap, forS_ap, whS_ap, setIx_ap, List.getElem?_cons_succ, List.getElem?_cons_zero, List.set_cons_succ, List.set_cons_zero, Rv.d_val, Rv.d_new, Rv.sl, addO_int, subO_int, gtO_int, ltO_int, geO_int, leO_int, negO_int, intO1_int, lenO_tup, lenO_lst, listO_tup, listO_lst, tupleO_tup, tupleO_lst, max2O_int, min2O_int, tupO0, tupO1, tupO2, tupO3, tupO4, lstO0, lstO1, lstO2, lstO3, lstO4, lstO5, eqO_int, neO_int, eqO_tup, neO_tup, eqO_nil, neO_nil, call1, call2, call3, call4, call5, cres_ok, truth_bool, set_tp2, set_tp3, set_nm, set_ls2, I_len, decide_true, decide_false, Bool.not_true, Bool.not_false, inst_int, eq_self, e3, e2, e, hz]
    · have e4 : (if k + 1 ≠ 0 ∧ cf L (k + 1 - 1) = 0 then k + 1 - 1 else k + 1) = k + 1 := by rw [if_neg fun z => hz z.2]
      rw [e4]
      simp -implicitDefEqProofs only [bnd_ok, bnd_exc, bnd_bad, pure_ap, bind_ap, bindD_ap, lift_some, lift_none, ofB_ap, truth_ap, asB_ap, cnd_t, cnd_f, ite_ap, and_ap, or_ap, not_ap, ofBool_ap, andV_ap, orV_ap, cons_ap, consV_ap, consS_ap, E2_ap, IxN_ap, SlN_ap, SlE_ap, partR_int, part_ap, chain_ap, var_ap, sv_val, sv_own, peek_ap, pv'_val, pv'_own, pv'_brw, chk_ap, cv_some, bnS_ok, bnS_bad, bindS_ap, sq_nx, sq_ret, sq_brk, sq_cnt, sq_bad, seqS_ap, nextS_ap, brkS_ap, cntS_ap, neverS_ap, asgS_ap, retS_ap, dropS_ap, cndS_t, cndS_f, ifS_ap, par2_ap, asgT_ap, forS_ap, whS_ap, setIx_ap, List.getElem?_cons_succ, List.getElem?_cons_zero, List.set_cons_succ, List.set_cons_zero, Rv.d_val, Rv.d_new, Rv.sl, addO_int, subO_int, gtO_int, ltO_int, geO_int, leO_int, negO_int, intO1_int, lenO_tup, lenO_lst, listO_tup, listO_lst, tupleO_tup, tupleO_lst, max2O_int, min2O_int, tupO0, tupO1, tupO2, tupO3, tupO4, lstO0, lstO1, lstO2, lstO3, lstO4, lstO5, eqO_int, neO_int, eqO_tup, neO_tup, eqO_nil, neO_nil, call1, call2, call3, call4, call5, cres_ok, truth_bool, set_tp2, set_tp3, set_nm, set_ls2, I_len, decide_true, decide_false, Bool.not_true, Bool.not_false, inst_int, eq_self, e3, e2, e, hz]
theorem tr_loop {d : PyData} {L : List Int} (hd : d = .list (I L) ∨ d = .tuple (I L)) : ∀ (ds : List PyData) (l : Nat) (u : Option Sl), l ≤ L.length → (l ≤ ds.length ∨ (l ≠ 0 ∧ cf L (l - 1) ≠ 0)) → ∃ u',
    forL (.nm 2) trB ds [some (.val d), some (.val (.int (l : Int))), u] = .nx [some (.val d), some (.val (.int (cutN l L : Nat))), u']
  | [], l, u, hl, h => by
    rcases h with h | h
    · have : l = 0 := by simpa using h
      subst this
      exact ⟨u, rfl⟩
    · refine ⟨u, ?_⟩
      have : cutN l L = l := by
        cases l with
        | zero => exact absurd rfl h.1
        | succ k =>
          have h2 : ¬ cf L k = 0 := h.2
          unfold cutN
          rw [if_neg h2]
      rw [this]; rfl
  | x :: ds, l, u, hl, h => by
    unfold forL
    have st := tr_step hd l hl (some (.val x))
    by_cases hz : l ≠ 0 ∧ cf L (l - 1) = 0
    · rw [if_pos hz] at st
      obtain ⟨u', ih⟩ := tr_loop hd ds (l - 1) (some (.val x)) (by omega) (by rcases h with h | h
                                                                              · left; simp only [List.length_cons] at h; omega
                                                                              · exact absurd hz.2 h.2)
      refine ⟨u', ?_⟩
      have e : cutN l L = cutN (l - 1) L := by
        cases l with
        | zero => rfl
        | succ k =>
          have h2 : cf L k = 0 := hz.2
          rw [cutN, if_pos h2]; rfl
      rw [e]
      simp -implicitDefEqProofs only [bnd_ok, bnd_exc, bnd_bad, pure_ap, bind_ap, bindD_ap, lift_some, lift_none, ofB_ap, truth_ap, asB_ap, cnd_t, cnd_f, ite_ap, and_ap, or_ap, not_ap, ofBool_ap, andV_ap, orV_ap, cons_ap, consV_ap, consS_ap, E2_ap, IxN_ap, SlN_ap, SlE_ap, partR_int, part_ap, chain_ap, var_ap, sv_val, sv_own, peek_ap, pv'_val, pv'_own, pv'_brw, chk_ap, cv_some, bnS_ok, bnS_bad, bindS_ap, sq_nx, sq_ret, sq_brk, sq_cnt, sq_bad, seqS_ap, nextS_ap, brkS_ap, cntS_ap, neverS_ap, asgS_ap, retS_ap, dropS_ap, cndS_t, cndS_f, ifS_ap, par2_ap, asgT_ap, forS_ap, whS_ap, setIx_ap, List.getElem?_cons_succ, List.getElem?_cons_zero, List.set_cons_succ, List.set_cons_zero, Rv.d_val, Rv.d_new, Rv.sl, addO_int, subO_int, gtO_int, ltO_int, geO_int, leO_int, negO_int, intO1_int, lenO_tup, lenO_lst, listO_tup, listO_lst, tupleO_tup, tupleO_lst, max2O_int, min2O_int, tupO0, tupO1, tupO2, tupO3, tupO4, lstO0, lstO1, lstO2, lstO3, lstO4, lstO5, eqO_int, neO_int, eqO_tup, neO_tup, eqO_nil, neO_nil, call1, call2, call3, call4, call5, cres_ok, truth_bool, set_tp2, set_tp3, set_nm, set_ls2, I_len, decide_true, decide_false, Bool.not_true, Bool.not_false, inst_int, eq_self]
      rw [st]
      exact ih
    · rw [if_neg hz] at st
      obtain ⟨u', ih⟩ := tr_loop hd ds l (some (.val x)) hl (by
        by_cases h0 : l = 0
        · left; omega
        · right; exact ⟨h0, fun z => hz ⟨h0, z⟩⟩)
      refine ⟨u', ?_⟩
      simp -implicitDefEqProofs only [bnd_ok, bnd_exc, bnd_bad, pure_ap, bind_ap, bindD_ap, lift_some, lift_none, ofB_ap, truth_ap, asB_ap, cnd_t, cnd_f, ite_ap, and_ap, or_ap, not_ap, ofBool_ap, andV_ap, orV_ap, cons_ap, consV_ap, consS_ap, E2_ap, IxN_ap, SlN_ap, SlE_ap, partR_int, part_ap, chain_ap, var_ap, sv_val, sv_own, peek_ap, pv'_val, pv'_own, pv'_brw, chk_ap, cv_some, bnS_ok, bnS_bad, bindS_ap, sq_nx, sq_ret, sq_brk, sq_cnt, sq_bad, seqS_ap, nextS_ap, brkS_ap, cntS_ap, neverS_ap, asgS_ap, retS_ap, dropS_ap, cndS_t, cndS_f, ifS_ap, par2_ap, asgT_ap, forS_ap, whS_ap, setIx_ap, List.getElem?_cons_succ, List.getElem?_cons_zero, List.set_cons_succ, List.set_cons_zero, Rv.d_val, Rv.d_new, Rv.sl, addO_int, subO_int, gtO_int, ltO_int, geO_int, leO_int, negO_int, intO1_int, lenO_tup, lenO_lst, listO_tup, listO_lst, tupleO_tup, tupleO_lst, max2O_int, min2O_int, tupO0, tupO1, tupO2, tupO3, tupO4, lstO0, lstO1, lstO2, lstO3, lstO4, lstO5, eqO_int, neO_int, eqO_tup, neO_tup, eqO_nil, neO_nil, call1, call2, call3, call4, call5, cres_ok, truth_bool, set_tp2, set_tp3, set_nm, set_ls2, I_len, decide_true, decide_false, Bool.not_true, Bool.not_false, inst_int, eq_self]
      rw [st]
      exact ih
theorem range_len (k : Int) (n : Nat) : (rangeD1 k n).length = n := by unfold rangeD1; simp
theorem ltrim_eq (L : List Int) (hl : L.length < 2000) : f__law_trim [.v (.list (I L))] = .ok (.val (T (trim L))) [] := by
  refine run_e (n := 3) (body := b__law_trim) (ds := [.list (I L)]) ?_
  show retOf (b__law_trim [some (.val (.list (I L))), none, none]) = _
  obtain ⟨u, h⟩ := tr_loop (d := .list (I L)) (L := L) (.inl rfl) (rangeD1 0 L.length) L.length none (Nat.le_refl _) (.inl (by rw [range_len]; exact Nat.le_refl _))
  have hr := rng1_int (j := (L.length : Int)) (by omega)
  have e : ((L.length : Int)).toNat = L.length := by omega
  rw [e] at hr
  have hs := slice_to (L := L) (cutN_le L.length L)
  unfold trB at h
  unfold b__law_trim
  simp -implicitDefEqProofs only [bnd_ok, bnd_exc, bnd_bad, pure_ap, bind_ap, bindD_ap, lift_some, lift_none, ofB_ap, truth_ap, asB_ap, cnd_t, cnd_f, ite_ap, and_ap, or_ap, not_ap, ofBool_ap, andV_ap, orV_ap, cons_ap, consV_ap, consS_ap, E2_ap, IxN_ap, SlN_ap, SlE_ap, partR_int, part_ap, chain_ap, var_ap, sv_val, sv_own, peek_ap, pv'_val, pv'_own, pv'_brw, chk_ap, cv_some, bnS_ok, bnS_bad, bindS_ap, sq_nx, sq_ret, sq_brk, sq_cnt, sq_bad, seqS_ap, nextS_ap, brkS_ap, cntS_ap, neverS_ap, asgS_ap, retS_ap, dropS_ap, cndS_t, cndS_f, ifS_ap, par2_ap, asgT_ap, forS_ap, whS_ap, setIx_ap, List.getElem?_cons_succ, List.getElem?_cons_zero, List.set_cons_succ, List.set_cons_zero, Rv.d_val, Rv.d_new, Rv.sl, addO_int, subO_int, gtO_int, ltO_int, geO_int, leO_int, negO_int, intO1_int, lenO_tup, lenO_lst, listO_tup, listO_lst, tupleO_tup, tupleO_lst, max2O_int, min2O_int, tupO0, tupO1, tupO2, tupO3, tupO4, lstO0, lstO1, lstO2, lstO3, lstO4, lstO5, eqO_int, neO_int, eqO_tup, neO_tup, eqO_nil, neO_nil, call1, call2, call3, call4, call5, cres_ok, truth_bool, set_tp2, set_tp3, set_nm, set_ls2, I_len, decide_true, decide_false, Bool.not_true, Bool.not_false, inst_int, eq_self, hr, h, sliceO, hs, retOf_ret, cutN_trim]
/-! ### _law_sum -/
theorem lsum_eq {p t : Int} (hp : 0 < p ∧ p < 1000) (ht : 0 ≤ t ∧ t < 1000) {a b : List Int} (ha : Rd p a) (hb : Rd p b) (hla : a.length < 900) (hlb : b.length < 900) : f__law_sum [.v (.int p), .v (T a), .v (T b), .v (.int t)] = .ok (.val (T (padd p t a b))) [] := by
  refine run_e (n := 9) (body := b__law_sum) (ds := [.int p, T a, T b, .int t]) ?_
  show retOf (b__law_sum [some (.val (.int p)), some (.val (T a)), some (.val (T b)), some (.val (.int t)), none, none, none, none, none]) = _
  have r1 := rep0 (n := (max (a.length : Int) (b.length : Int)) - (a.length : Int)) (k := max a.length b.length - a.length) (by omega) (by omega)
  have r2 := rep0 (n := (max (a.length : Int) (b.length : Int)) - (b.length : Int)) (k := max a.length b.length - b.length) (by omega) (by omega)
  have c1 := cat_I (a := a) (k := 0) (n := ((max a.length b.length - a.length : Nat) : Int)) (m := max a.length b.length - a.length) rfl (by omega) (by omega)
  have c2 := cat_I (a := b) (k := 0) (n := ((max a.length b.length - b.length : Nat) : Int)) (m := max a.length b.length - b.length) rfl (by omega) (by omega)
  have hz : zipB [.list (I (padTo (max a.length b.length) a)), .list (I (padTo (max a.length b.length) b))] = M.pure ((((padTo (max a.length b.length) a).zip (padTo (max a.length b.length) b))).map fun z => .tuple [.int z.1, .int z.2]) := by
    rw [zipB_lst, zip_I]
  have hzl : ((padTo (max a.length b.length) a).zip (padTo (max a.length b.length) b)).length ≤ 100000 := by
    rw [List.length_zip, pad_len (by omega), pad_len (by omega)]; omega
  have hpb : ∀ z ∈ (padTo (max a.length b.length) a).zip (padTo (max a.length b.length) b), 0 ≤ z.2 ∧ z.2 < p := fun z hz => by
    have h2 : z.2 ∈ padTo (max a.length b.length) b := (List.of_mem_zip (show (z.1, z.2) ∈ _ from hz)).2
    unfold padTo at h2
    rcases List.mem_append.mp h2 with h | h
    · exact hb _ h
    · rw [(List.mem_replicate.mp h).2]; exact ⟨Int.le_refl _, hp.1⟩
  have cm := compB_map (t := .tp [7, 8]) (me := E2 modO (M.bind (M.ofB (E2 addO (var 7) (M.ofB (E2 mulO (var 3) (peek 8))))) fun d => M.lift (intO1 d)) (peek 0)) (vs := [7, 8]) (ρ := [some (.val (.int p)), some (.val (T a)), some (.val (T b)), some (.val (.int t)), some (.val (.int (max (a.length : Int) (b.length : Int)))), some (.val (.list (I (padTo (max a.length b.length) a)))), some (.val (.list (I (padTo (max a.length b.length) b)))), none, none])
    (fun z : Int × Int => .tuple [.int z.1, .int z.2]) (fun z => .int ((z.1 + t * z.2) % p)) _ hzl rfl (fun z hz => by
      have hzb := hpb z hz
      have md := modO_int (a := z.1 + t * z.2) (b := p) hp.1
      have ml := mulO_s (a := t) (b := z.2) ht.1 (by omega) hzb.1 (by omega)
      have hm : ∀ u1 u2 u4 u5 u6, E2 modO (M.bind (M.ofB (E2 addO (var 7) (M.ofB (E2 mulO (var 3) (peek 8))))) fun d => M.lift (intO1 d)) (peek 0) [some (.val (.int p)), u1, u2, some (.val (.int t)), u4, u5, u6, some (.val (.int z.1)), some (.val (.int z.2))] = .ok (.val (.int ((z.1 + t * z.2) % p))) [some (.val (.int p)), u1, u2, some (.val (.int t)), u4, u5, u6, some (.val (.int z.1)), some (.val (.int z.2))] := fun _ _ _ _ _ => by
        simp -implicitDefEqProofs only [bnd_ok, bnd_exc, bnd_bad, pure_ap, bind_ap, bindD_ap, lift_some, lift_none, ofB_ap, truth_ap, asB_ap, cnd_t, cnd_f, ite_ap, and_ap, or_ap, not_ap, ofBool_ap, andV_ap, orV_ap, cons_ap, consV_ap, consS_ap, E2_ap, IxN_ap, SlN_ap, SlE_ap, partR_int, part_ap, chain_ap, var_ap, sv_val, sv_own, peek_ap, pv'_val, pv'_own, pv'_brw, chk_ap, cv_some, bnS_ok, bnS_bad, bindS_ap, sq_nx, sq_ret, sq_brk, sq_cnt, sq_bad, seqS_ap, nextS_ap, brkS_ap, cntS_ap, neverS_ap, asgS_ap, retS_ap, dropS_ap, cndS_t, cndS_f, ifS_ap, par2_ap, asgT_ap, forS_ap, whS_ap, setIx_ap, List.getElem?_cons_succ, List.getElem?_cons_zero, List.set_cons_succ, List.set_cons_zero, Rv.d_val, Rv.d_new, Rv.sl, addO_int, subO_int, gtO_int, ltO_int, geO_int, leO_int, negO_int, intO1_int, lenO_tup, lenO_lst, listO_tup, listO_lst, tupleO_tup, tupleO_lst, max2O_int, min2O_int, tupO0, tupO1, tupO2, tupO3, tupO4, lstO0, lstO1, lstO2, lstO3, lstO4, lstO5, eqO_int, neO_int, eqO_tup, neO_tup, eqO_nil, neO_nil, call1, call2, call3, call4, call5, cres_ok, truth_bool, set_tp2, set_tp3, set_nm, set_ls2, I_len, decide_true, decide_false, Bool.not_true, Bool.not_false, inst_int, eq_self, ml, md]
      exact ⟨_, rfl, _, _, hm _ _ _ _ _, rfl, rfl⟩)
  have eo : (((padTo (max a.length b.length) a).zip (padTo (max a.length b.length) b)).map fun z => PyData.int ((z.1 + t * z.2) % p)) = I (addM p t (padTo (max a.length b.length) a) (padTo (max a.length b.length) b)) := by
    rw [addM_zip]
    show _ = List.map PyData.int (List.map _ _)
    rw [List.map_map]
    rfl
  rw [eo] at cm
  have hc := ltrim_eq (addM p t (padTo (max a.length b.length) a) (padTo (max a.length b.length) b)) (by
    have := (addM_ok hp.1 t (padTo (max a.length b.length) a) (padTo (max a.length b.length) b) (by rw [pad_len (by omega), pad_len (by omega)])).2.2
    rw [this, pad_len (by omega)]; omega)
  unfold padTo at cm hz hc
  unfold b__law_sum
  simp -implicitDefEqProofs only [bnd_ok, bnd_exc, bnd_bad, pure_ap, bind_ap, bindD_ap, lift_some, lift_none, ofB_ap, truth_ap, asB_ap, cnd_t, cnd_f, ite_ap, and_ap, or_ap, not_ap, ofBool_ap, andV_ap, orV_ap, cons_ap, consV_ap, consS_ap, E2_ap, IxN_ap, SlN_ap, SlE_ap, partR_int, part_ap, chain_ap, var_ap, sv_val, sv_own, peek_ap, pv'_val, pv'_own, pv'_brw, chk_ap, cv_some, bnS_ok, bnS_bad, bindS_ap, sq_nx, sq_ret, sq_brk, sq_cnt, sq_bad, seqS_ap, nextS_ap, brkS_ap, cntS_ap, neverS_ap, asgS_ap, retS_ap, dropS_ap, cndS_t, cndS_f, ifS_ap, par2_ap, asgT_ap, forS_ap, whS_ap, setIx_ap, List.getElem?_cons_succ, List.getElem?_cons_zero, List.set_cons_succ, List.set_cons_zero, Rv.d_val, Rv.d_new, Rv.sl, addO_int, subO_int, gtO_int, ltO_int, geO_int, leO_int, negO_int, intO1_int, lenO_tup, lenO_lst, listO_tup, listO_lst, tupleO_tup, tupleO_lst, max2O_int, min2O_int, tupO0, tupO1, tupO2, tupO3, tupO4, lstO0, lstO1, lstO2, lstO3, lstO4, lstO5, eqO_int, neO_int, eqO_tup, neO_tup, eqO_nil, neO_nil, call1, call2, call3, call4, call5, cres_ok, truth_bool, set_tp2, set_tp3, set_nm, set_ls2, I_len, decide_true, decide_false, Bool.not_true, Bool.not_false, inst_int, eq_self, r1, r2, c1, c2, hz, cm, hc, retOf_ret]
  rfl
/-! ### _law_mul -/
def lmulIn : SM := setIx 3 (E2 modO (M.bind (M.ofB (E2 addO (IxN 3 (E2 addO (var 4) (peek 6))) (M.ofB (E2 mulO (var 5) (peek 7))))) fun d => M.lift (intO1 d)) (peek 0)) (E2 addO (var 4) (peek 6))
theorem lmul_inner {p : Int} (hp : 0 < p ∧ p < 1000) (A B : PyData) (K : Nat) (x : Int) (hx : 0 ≤ x ∧ x < p) : ∀ (b : List Int) (j : Nat) (f : List Int) (u v : Option Sl), Rd p b → K + j + b.length ≤ f.length → ∃ u' v',
    forL (.tp [6, 7]) lmulIn (enK j (I b)) [some (.val (.int p)), some (.val A), some (.val B), some (.own (I f)), some (.val (.int (K : Int))), some (.val (.int x)), u, v] =
      .nx [some (.val (.int p)), some (.val A), some (.val B), some (.own (I (addAt p x (K + j) b f))), some (.val (.int (K : Int))), some (.val (.int x)), u', v']
  | [], j, f, u, v, _, _ => ⟨u, v, rfl⟩
  | y :: b, j, f, u, v, hb, hl => by
    have hl : K + j + (b.length + 1) ≤ f.length := hl
    have hy := hb y (by simp)
    obtain ⟨u', v', ih⟩ := lmul_inner hp A B K x hx b (j + 1) (f.set (K + j) ((cf f (K + j) + x * y) % p)) (some (.val (.int (j : Int)))) (some (.val (.int y))) (fun z hz => hb z (List.mem_cons_of_mem _ hz)) (by rw [List.length_set]; omega)
    refine ⟨u', v', ?_⟩
    have e1 : (I (y :: b)) = .int y :: I b := rfl
    rw [e1]
    unfold enK forL
    have g := getI_lst (L := f) (i := (K : Int) + (j : Int)) (n := K + j) (by omega) (by omega)
    have m := mulO_s (a := x) (b := y) hx.1 (by omega) hy.1 (by omega)
    have md := modO_int (a := cf f (K + j) + x * y) (b := p) hp.1
    have st := setI (L := f) (i := (K : Int) + (j : Int)) (n := K + j) (v := (cf f (K + j) + x * y) % p) (by omega) (by omega)
    unfold lmulIn at ih ⊢
    simp -implicitDefEqProofs only [bnd_ok, bnd_exc, bnd_bad, pure_ap, bind_ap, bindD_ap, lift_some, lift_none, ofB_ap, truth_ap, asB_ap, cnd_t, cnd_f, ite_ap, and_ap, or_ap, not_ap, ofBool_ap, andV_ap, orV_ap, cons_ap, consV_ap, consS_ap, E2_ap, IxN_ap, SlN_ap, SlE_ap, partR_int, part_ap, chain_ap, var_ap, sv_val, sv_own, peek_ap, pv'_val, pv'_own, pv'_brw, chk_ap, cv_some, bnS_ok, bnS_bad, bindS_ap, sq_nx, sq_ret, sq_brk, sq_cnt, sq_bad, seqS_ap, nextS_ap, brkS_ap, cntS_ap, neverS_ap, asgS_ap, retS_ap, dropS_ap, cndS_t, cndS_f, ifS_ap, par2_ap, asgT_ap, forS_ap, whS_ap, setIx_ap, List.getElem?_cons_succ, List.getElem?_cons_zero, List.set_cons_succ, List.set_cons_zero, Rv.d_val, Rv.d_new, Rv.sl, addO_int, subO_int, gtO_int, ltO_int, geO_int, leO_int, negO_int, intO1_int, lenO_tup, lenO_lst, listO_tup, listO_lst, tupleO_tup, tupleO_lst, max2O_int, min2O_int, tupO0, tupO1, tupO2, tupO3, tupO4, lstO0, lstO1, lstO2, lstO3, lstO4, lstO5, eqO_int, neO_int, eqO_tup, neO_tup, eqO_nil, neO_nil, call1, call2, call3, call4, call5, cres_ok, truth_bool, set_tp2, set_tp3, set_nm, set_ls2, I_len, decide_true, decide_false, Bool.not_true, Bool.not_false, inst_int, eq_self, g, m, md, updL_ap, uv_own st]
    exact ih
def lmulOut : SM := forS (M.bind (M.cons (var 2) (M.pure [])) enumB) (.tp [6, 7]) lmulIn
theorem lmul_outer {p : Int} (hp : 0 < p ∧ p < 1000) (A : PyData) (b : List Int) (hb : Rd p b) : ∀ (a : List Int) (k : Nat) (f : List Int) (s t u v : Option Sl), Rd p a → (a ≠ [] → k + a.length + b.length ≤ f.length + 1) → ∃ s' t' u' v',
    forL (.tp [4, 5]) lmulOut (enK k (I a)) [some (.val (.int p)), some (.val A), some (.val (T b)), some (.own (I f)), s, t, u, v] =
      .nx [some (.val (.int p)), some (.val A), some (.val (T b)), some (.own (I (mulLoop p b k a f))), s', t', u', v']
  | [], k, f, s, t, u, v, _, _ => ⟨s, t, u, v, rfl⟩
  | x :: a, k, f, s, t, u, v, ha, hl => by
    have hl := hl (by simp)
    have hl : k + (a.length + 1) + b.length ≤ f.length + 1 := hl
    have hx := ha x (by simp)
    obtain ⟨u1, v1, hi⟩ := lmul_inner hp A (T b) k x hx b 0 f u v hb (by omega)
    obtain ⟨s', t', u', v', ih⟩ := lmul_outer hp A b hb a (k + 1) (addAt p x k b f) (some (.val (.int (k : Int)))) (some (.val (.int x))) u1 v1 (fun z hz => ha z (List.mem_cons_of_mem _ hz)) (fun _ => by rw [addAt_len]; omega)
    refine ⟨s', t', u', v', ?_⟩
    have e1 : (I (x :: a)) = .int x :: I a := rfl
    rw [e1]
    unfold enK forL
    have e2 : lmulOut [some (.val (.int p)), some (.val A), some (.val (T b)), some (.own (I f)), some (.val (.int (k : Int))), some (.val (.int x)), u, v] = .nx [some (.val (.int p)), some (.val A), some (.val (T b)), some (.own (I (addAt p x k b f))), some (.val (.int (k : Int))), some (.val (.int x)), u1, v1] := by
      unfold lmulOut
      simp -implicitDefEqProofs only [bnd_ok, bnd_exc, bnd_bad, pure_ap, bind_ap, bindD_ap, lift_some, lift_none, ofB_ap, truth_ap, asB_ap, cnd_t, cnd_f, ite_ap, and_ap, or_ap, not_ap, ofBool_ap, andV_ap, orV_ap, cons_ap, consV_ap, consS_ap, E2_ap, IxN_ap, SlN_ap, SlE_ap, partR_int, part_ap, chain_ap, var_ap, sv_val, sv_own, peek_ap, pv'_val, pv'_own, pv'_brw, chk_ap, cv_some, bnS_ok, bnS_bad, bindS_ap, sq_nx, sq_ret, sq_brk, sq_cnt, sq_bad, seqS_ap, nextS_ap, brkS_ap, cntS_ap, neverS_ap, asgS_ap, retS_ap, dropS_ap, cndS_t, cndS_f, ifS_ap, par2_ap, asgT_ap, forS_ap, whS_ap, setIx_ap, List.getElem?_cons_succ, List.getElem?_cons_zero, List.set_cons_succ, List.set_cons_zero, Rv.d_val, Rv.d_new, Rv.sl, addO_int, subO_int, gtO_int, ltO_int, geO_int, leO_int, negO_int, intO1_int, lenO_tup, lenO_lst, listO_tup, listO_lst, tupleO_tup, tupleO_lst, max2O_int, min2O_int, tupO0, tupO1, tupO2, tupO3, tupO4, lstO0, lstO1, lstO2, lstO3, lstO4, lstO5, eqO_int, neO_int, eqO_tup, neO_tup, eqO_nil, neO_nil, call1, call2, call3, call4, call5, cres_ok, truth_bool, set_tp2, set_tp3, set_nm, set_ls2, I_len, decide_true, decide_false, Bool.not_true, Bool.not_false, inst_int, eq_self, enumB_tup, enumD_enK]
      exact hi
    simp -implicitDefEqProofs only [bnd_ok, bnd_exc, bnd_bad, pure_ap, bind_ap, bindD_ap, lift_some, lift_none, ofB_ap, truth_ap, asB_ap, cnd_t, cnd_f, ite_ap, and_ap, or_ap, not_ap, ofBool_ap, andV_ap, orV_ap, cons_ap, consV_ap, consS_ap, E2_ap, IxN_ap, SlN_ap, SlE_ap, partR_int, part_ap, chain_ap, var_ap, sv_val, sv_own, peek_ap, pv'_val, pv'_own, pv'_brw, chk_ap, cv_some, bnS_ok, bnS_bad, bindS_ap, sq_nx, sq_ret, sq_brk, sq_cnt, sq_bad, seqS_ap, nextS_ap, brkS_ap, cntS_ap, neverS_ap, asgS_ap, retS_ap, dropS_ap, cndS_t, cndS_f, ifS_ap, par2_ap, asgT_ap, forS_ap, whS_ap, setIx_ap, List.getElem?_cons_succ, List.getElem?_cons_zero, List.set_cons_succ, List.set_cons_zero, Rv.d_val, Rv.d_new, Rv.sl, addO_int, subO_int, gtO_int, ltO_int, geO_int, leO_int, negO_int, intO1_int, lenO_tup, lenO_lst, listO_tup, listO_lst, tupleO_tup, tupleO_lst, max2O_int, min2O_int, tupO0, tupO1, tupO2, tupO3, tupO4, lstO0, lstO1, lstO2, lstO3, lstO4, lstO5, eqO_int, neO_int, eqO_tup, neO_tup, eqO_nil, neO_nil, call1, call2, call3, call4, call5, cres_ok, truth_bool, set_tp2, set_tp3, set_nm, set_ls2, I_len, decide_true, decide_false, Bool.not_true, Bool.not_false, inst_int, eq_self]
    rw [e2]
    exact ih
theorem lmul_eq {p : Int} (hp : 0 < p ∧ p < 1000) {a b : List Int} (ha : Rd p a) (hb : Rd p b) (hla : a.length < 400) (hlb : b.length < 400) : f__law_mul [.v (.int p), .v (T a), .v (T b)] = .ok (.val (T (pmul p a b))) [] := by
  refine run_e (n := 8) (body := b__law_mul) (ds := [.int p, T a, T b]) ?_
  show retOf (b__law_mul [some (.val (.int p)), some (.val (T a)), some (.val (T b)), none, none, none, none, none]) = _
  obtain ⟨s, t, u, v, h⟩ := lmul_outer hp (T a) b hb a 0 (List.replicate (a.length + b.length - 1) 0) none none none none ha (fun _ => by rw [List.length_replicate]; omega)
  have r := rep0 (n := max 0 ((a.length : Int) + (b.length : Int) - 1)) (k := a.length + b.length - 1) (by omega) (by omega)
  have c := ltrim_eq (mulLoop p b 0 a (List.replicate (a.length + b.length - 1) 0)) (by
    have := (mulLoop_ok hp.1 b a 0 (List.replicate (a.length + b.length - 1) 0) (rd_zeros hp.1 _) fun _ => by rw [List.length_replicate]; omega).2.2
    rw [this, List.length_replicate]; omega)
  unfold lmulOut lmulIn at h
  unfold b__law_mul
  simp -implicitDefEqProofs only [bnd_ok, bnd_exc, bnd_bad, pure_ap, bind_ap, bindD_ap, lift_some, lift_none, ofB_ap, truth_ap, asB_ap, cnd_t, cnd_f, ite_ap, and_ap, or_ap, not_ap, ofBool_ap, andV_ap, orV_ap, cons_ap, consV_ap, consS_ap, E2_ap, IxN_ap, SlN_ap, SlE_ap, partR_int, part_ap, chain_ap, var_ap, sv_val, sv_own, peek_ap, pv'_val, pv'_own, pv'_brw, chk_ap, cv_some, bnS_ok, bnS_bad, bindS_ap, sq_nx, sq_ret, sq_brk, sq_cnt, sq_bad, seqS_ap, nextS_ap, brkS_ap, cntS_ap, neverS_ap, asgS_ap, retS_ap, dropS_ap, cndS_t, cndS_f, ifS_ap, par2_ap, asgT_ap, forS_ap, whS_ap, setIx_ap, List.getElem?_cons_succ, List.getElem?_cons_zero, List.set_cons_succ, List.set_cons_zero, Rv.d_val, Rv.d_new, Rv.sl, addO_int, subO_int, gtO_int, ltO_int, geO_int, leO_int, negO_int, intO1_int, lenO_tup, lenO_lst, listO_tup, listO_lst, tupleO_tup, tupleO_lst, max2O_int, min2O_int, tupO0, tupO1, tupO2, tupO3, tupO4, lstO0, lstO1, lstO2, lstO3, lstO4, lstO5, eqO_int, neO_int, eqO_tup, neO_tup, eqO_nil, neO_nil, call1, call2, call3, call4, call5, cres_ok, truth_bool, set_tp2, set_tp3, set_nm, set_ls2, I_len, decide_true, decide_false, Bool.not_true, Bool.not_false, inst_int, eq_self, r, enumB_tup, enumD_enK, h, c, retOf_ret]
  rfl
/-! ### _law_divide -/
def ldivIn : SM := setIx 3 (E2 modO (M.bind (M.ofB (E2 subO (IxN 3 (E2 addO (var 6) (peek 8))) (M.ofB (E2 mulO (var 7) (peek 9))))) fun d => M.lift (intO1 d)) (peek 0)) (E2 addO (var 6) (peek 8))
theorem ldiv_inner {p : Int} (hp : 0 < p ∧ p < 1000) (A B F l : Option Sl) (K : Nat) (c : Int) (hc : 0 ≤ c ∧ c < p) : ∀ (b : List Int) (j : Nat) (f : List Int) (u v : Option Sl), Rd p b → K + j + b.length ≤ f.length → ∃ u' v',
    forL (.tp [8, 9]) ldivIn (enK j (I b)) [some (.val (.int p)), A, B, some (.own (I f)), F, l, some (.val (.int (K : Int))), some (.val (.int c)), u, v] =
      .nx [some (.val (.int p)), A, B, some (.own (I (subAt p c (K + j) b f))), F, l, some (.val (.int (K : Int))), some (.val (.int c)), u', v']
  | [], j, f, u, v, _, _ => ⟨u, v, rfl⟩
  | y :: b, j, f, u, v, hb, hl => by
    have hl : K + j + (b.length + 1) ≤ f.length := hl
    have hy := hb y (by simp)
    obtain ⟨u', v', ih⟩ := ldiv_inner hp A B F l K c hc b (j + 1) (f.set (K + j) ((cf f (K + j) - c * y) % p)) (some (.val (.int (j : Int)))) (some (.val (.int y))) (fun z hz => hb z (List.mem_cons_of_mem _ hz)) (by rw [List.length_set]; omega)
    refine ⟨u', v', ?_⟩
    have e1 : (I (y :: b)) = .int y :: I b := rfl
    rw [e1]
    unfold enK forL
    have g := getI_lst (L := f) (i := (K : Int) + (j : Int)) (n := K + j) (by omega) (by omega)
    have m := mulO_s (a := c) (b := y) hc.1 (by omega) hy.1 (by omega)
    have md := modO_int (a := cf f (K + j) - c * y) (b := p) hp.1
    have st := setI (L := f) (i := (K : Int) + (j : Int)) (n := K + j) (v := (cf f (K + j) - c * y) % p) (by omega) (by omega)
    unfold ldivIn at ih ⊢
    simp -implicitDefEqProofs only [bnd_ok, bnd_exc, bnd_bad, pure_ap, bind_ap, bindD_ap, lift_some, lift_none, ofB_ap, truth_ap, asB_ap, cnd_t, cnd_f, ite_ap, and_ap, or_ap, not_ap, ofBool_ap, andV_ap, orV_ap, cons_ap, consV_ap, consS_ap, E2_ap, IxN_ap, SlN_ap, SlE_ap, partR_int, part_ap, chain_ap, var_ap, sv_val, sv_own, peek_ap, pv'_val, pv'_own, pv'_brw, chk_ap, cv_some, bnS_ok, bnS_bad, bindS_ap, sq_nx, sq_ret, sq_brk, sq_cnt, sq_bad, seqS_ap, nextS_ap, brkS_ap, cntS_ap, neverS_ap, asgS_ap, retS_ap, dropS_ap, cndS_t, cndS_f, ifS_ap, par2_ap, asgT_ap, forS_ap, whS_ap, setIx_ap, List.getElem?_cons_succ, List.getElem?_cons_zero, List.set_cons_succ, List.set_cons_zero, Rv.d_val, Rv.d_new, Rv.sl, addO_int, subO_int, gtO_int, ltO_int, geO_int, leO_int, negO_int, intO1_int, lenO_tup, lenO_lst, listO_tup, listO_lst, tupleO_tup, tupleO_lst, max2O_int, min2O_int, tupO0, tupO1, tupO2, tupO3, tupO4, lstO0, lstO1, lstO2, lstO3, lstO4, lstO5, eqO_int, neO_int, eqO_tup, neO_tup, eqO_nil, neO_nil, call1, call2, call3, call4, call5, cres_ok, truth_bool, set_tp2, set_tp3, set_nm, set_ls2, I_len, decide_true, decide_false, Bool.not_true, Bool.not_false, inst_int, eq_self, g, m, md, updL_ap, uv_own st]
    exact ih
def ldivOut : SM := seqS (asgS 7 (E2 modO (M.bind (M.ofB (E2 mulO (IxN 3 (E2 subO (E2 addO (var 6) (M.ofB (M.bind (peek 2) fun d => M.lift (lenO d)))) (M.ofB (M.pure (.val (.int 1)))))) (peek 5))) fun d => M.lift (intO1 d)) (peek 0))) (seqS (setIx 4 (var 7) (var 6)) (forS (M.bind (M.cons (var 2) (M.pure [])) enumB) (.tp [8, 9]) ldivIn))
theorem ldiv_outer {p u : Int} (hp : 0 < p ∧ p < 1000) (hu : 0 ≤ u ∧ u < p) (A : Option Sl) (b : List Int) (hb : Rd p b) (hne : b ≠ []) : ∀ (k : Nat) (f r : List Int) (s t v w : Option Sl), Rd p r → k ≤ f.length → (k = 0 ∨ k + b.length ≤ r.length + 1) → ∃ s' t' v' w',
    forL (.nm 6) ldivOut (dnK k) [some (.val (.int p)), A, some (.val (T b)), some (.own (I r)), some (.own (I f)), some (.val (.int u)), s, t, v, w] =
      .nx [some (.val (.int p)), A, some (.val (T b)), some (.own (I (divLoop p u b k (f, r)).2)), some (.own (I (divLoop p u b k (f, r)).1)), some (.val (.int u)), s', t', v', w']
  | 0, f, r, s, t, v, w, _, _, _ => ⟨s, t, v, w, rfl⟩
  | k + 1, f, r, s, t, v, w, hr, hk, hkr => by
    have hbl : 0 < b.length := by cases b with | nil => exact absurd rfl hne | cons => simp
    have hkr : k + 1 + b.length ≤ r.length + 1 := by rcases hkr with h | h <;> omega
    have hc0 : 0 ≤ (cf r (k + b.length - 1) * u) % p ∧ (cf r (k + b.length - 1) * u) % p < p := ⟨Int.emod_nonneg _ (by omega), Int.emod_lt_of_pos _ hp.1⟩
    generalize hc : (cf r (k + b.length - 1) * u) % p = c at hc0
    obtain ⟨v1, w1, hi⟩ := ldiv_inner hp A (some (.val (T b))) (some (.own (I (f.set k c)))) (some (.val (.int u))) k c hc0 b 0 r v w hb (by omega)
    have es := subAt_eq (p := p) c b k r
    obtain ⟨s', t', v', w', ih⟩ := ldiv_outer hp hu A b hb hne k (f.set k c) (subAt p c k b r) (some (.val (.int (k : Int)))) (some (.val (.int c))) v1 w1 (by rw [es]; exact addAt_rd _ hp.1 b k r hr) (by rw [List.length_set]; omega) (.inr (by rw [es, addAt_len]; omega))
    refine ⟨s', t', v', w', ?_⟩
    have e3 : divLoop p u b (k + 1) (f, r) = divLoop p u b k (f.set k c, subAt p c k b r) := by rw [← hc]; rfl
    rw [e3]
    unfold dnK forL
    have hrd := cf_rd hr hp.1 (k + b.length - 1)
    have g := getI_lst (L := r) (i := (k : Int) + (b.length : Int) - 1) (n := k + b.length - 1) (by omega) (by omega)
    have m := mulO_s (a := cf r (k + b.length - 1)) (b := u) hrd.1 (by omega) hu.1 (by omega)
    have md := modO_int (a := cf r (k + b.length - 1) * u) (b := p) hp.1
    have st := setI (L := f) (i := (k : Int)) (n := k) (v := c) rfl (by omega)
    rw [hc] at md
    have e2 : ldivOut [some (.val (.int p)), A, some (.val (T b)), some (.own (I r)), some (.own (I f)), some (.val (.int u)), some (.val (.int (k : Int))), t, v, w] = .nx [some (.val (.int p)), A, some (.val (T b)), some (.own (I (subAt p c k b r))), some (.own (I (f.set k c))), some (.val (.int u)), some (.val (.int (k : Int))), some (.val (.int c)), v1, w1] := by
      unfold ldivOut
      simp -implicitDefEqProofs only [bnd_ok, bnd_exc, bnd_bad, pure_ap, bind_ap, bindD_ap, lift_some, lift_none, ofB_ap, truth_ap, asB_ap, cnd_t, cnd_f, ite_ap, and_ap, or_ap, not_ap, ofBool_ap, andV_ap, orV_ap, cons_ap, consV_ap, consS_ap, E2_ap, IxN_ap, SlN_ap, SlE_ap, partR_int, part_ap, chain_ap, var_ap, sv_val, sv_own, peek_ap, pv'_val, pv'_own, pv'_brw, chk_ap, cv_some, bnS_ok, bnS_bad, bindS_ap, sq_nx, sq_ret, sq_brk, sq_cnt, sq_bad, seqS_ap, nextS_ap, brkS_ap, cntS_ap, neverS_ap, asgS_ap, retS_ap, dropS_ap, cndS_t, cndS_f, ifS_ap, par2_ap, asgT_ap, forS_ap, whS_ap, setIx_ap, List.getElem?_cons_succ, List.getElem?_cons_zero, List.set_cons_succ, List.set_cons_zero, Rv.d_val, Rv.d_new, Rv.sl, addO_int, subO_int, gtO_int, ltO_int, geO_int, leO_int, negO_int, intO1_int, lenO_tup, lenO_lst, listO_tup, listO_lst, tupleO_tup, tupleO_lst, max2O_int, min2O_int, tupO0, tupO1, tupO2, tupO3, tupO4, lstO0, lstO1, lstO2, lstO3, lstO4, lstO5, eqO_int, neO_int, eqO_tup, neO_tup, eqO_nil, neO_nil, call1, call2, call3, call4, call5, cres_ok, truth_bool, set_tp2, set_tp3, set_nm, set_ls2, I_len, decide_true, decide_false, Bool.not_true, Bool.not_false, inst_int, eq_self, g, m, md, updL_ap, uv_own st, enumB_tup, enumD_enK]
      exact hi
    simp -implicitDefEqProofs only [bnd_ok, bnd_exc, bnd_bad, pure_ap, bind_ap, bindD_ap, lift_some, lift_none, ofB_ap, truth_ap, asB_ap, cnd_t, cnd_f, ite_ap, and_ap, or_ap, not_ap, ofBool_ap, andV_ap, orV_ap, cons_ap, consV_ap, consS_ap, E2_ap, IxN_ap, SlN_ap, SlE_ap, partR_int, part_ap, chain_ap, var_ap, sv_val, sv_own, peek_ap, pv'_val, pv'_own, pv'_brw, chk_ap, cv_some, bnS_ok, bnS_bad, bindS_ap, sq_nx, sq_ret, sq_brk, sq_cnt, sq_bad, seqS_ap, nextS_ap, brkS_ap, cntS_ap, neverS_ap, asgS_ap, retS_ap, dropS_ap, cndS_t, cndS_f, ifS_ap, par2_ap, asgT_ap, forS_ap, whS_ap, setIx_ap, List.getElem?_cons_succ, List.getElem?_cons_zero, List.set_cons_succ, List.set_cons_zero, Rv.d_val, Rv.d_new, Rv.sl, addO_int, subO_int, gtO_int, ltO_int, geO_int, leO_int, negO_int, intO1_int, lenO_tup, lenO_lst, listO_tup, listO_lst, tupleO_tup, tupleO_lst, max2O_int, min2O_int, tupO0, tupO1, tupO2, tupO3, tupO4, lstO0, lstO1, lstO2, lstO3, lstO4, lstO5, eqO_int, neO_int, eqO_tup, neO_tup, eqO_nil, neO_nil, call1, call2, call3, call4, call5, cres_ok, truth_bool, set_tp2, set_tp3, set_nm, set_ls2, I_len, decide_true, decide_false, Bool.not_true, Bool.not_false, inst_int, eq_self]
    rw [e2]
    exact ih
theorem ldiv_eq {p : Int} (h : Fld p) {a b : List Int} (ha : Rd p a) (hb : Can p b) (hne : b ≠ []) (hla : a.length < 900) (hlb : b.length < 900) :
    f__law_divide [.v (.int p), .v (T a), .v (T b)] = .ok (.val (.tuple [T (pdiv p (inv p (cf b (b.length - 1))) a b).1, T (pdiv p (inv p (cf b (b.length - 1))) a b).2])) [] := by
  have hp := h.b
  have hbl : 0 < b.length := by cases b with | nil => exact absurd rfl hne | cons => simp
  have hlead := cf_rd hb.rd hp.1 (b.length - 1)
  have hlz := last_ne b hb.tr hne
  have hi := inv_ok h (x := cf b (b.length - 1)) (by omega)
  refine run_e (n := 10) (body := b__law_divide) (ds := [.int p, T a, T b]) ?_
  show retOf (b__law_divide [some (.val (.int p)), some (.val (T a)), some (.val (T b)), none, none, none, none, none, none, none]) = _
  have r := rep0 (n := max 0 ((a.length : Int) - (b.length : Int) + 1)) (k := a.length + 1 - b.length) (by omega) (by omega)
  have hl := getI_last hne
  have hv := linverse_eq h (x := cf b (b.length - 1)) (by omega)
  have hrg := rng3_dn (i := (a.length : Int) - (b.length : Int)) (by omega)
  have hrn : ((a.length : Int) - (b.length : Int) + 1).toNat = a.length + 1 - b.length := by omega
  rw [hrn] at hrg
  obtain ⟨s, t, v, w, ho⟩ := ldiv_outer (u := inv p (cf b (b.length - 1))) hp (by omega) (some (.val (T a))) b hb.rd hne (a.length + 1 - b.length) (List.replicate (a.length + 1 - b.length) 0) a none none none none ha (by rw [List.length_replicate]; omega) (by omega)
  have ok := divLoop_ok hp.1 hne hi.1 (a.length + 1 - b.length) (List.replicate (a.length + 1 - b.length) 0) a (rd_zeros hp.1 _) ha (by rw [List.length_replicate]; omega) (by omega) (fun n _ => cf_replicate _ _) (fun n hn => cf_ge (by omega)) _ _ rfl
  have c1 := ltrim_eq (divLoop p (inv p (cf b (b.length - 1))) b (a.length + 1 - b.length) (List.replicate (a.length + 1 - b.length) 0, a)).1 (by rw [ok.2.2.2.1, List.length_replicate]; omega)
  have c2 := ltrim_eq (divLoop p (inv p (cf b (b.length - 1))) b (a.length + 1 - b.length) (List.replicate (a.length + 1 - b.length) 0, a)).2 (by rw [ok.2.2.2.2.1]; omega)
  unfold ldivOut ldivIn at ho
  unfold b__law_divide
  simp -implicitDefEqProofs only [bnd_ok, bnd_exc, bnd_bad, pure_ap, bind_ap, bindD_ap, lift_some, lift_none, ofB_ap, truth_ap, asB_ap, cnd_t, cnd_f, ite_ap, and_ap, or_ap, not_ap, ofBool_ap, andV_ap, orV_ap, cons_ap, consV_ap, consS_ap, E2_ap, IxN_ap, SlN_ap, SlE_ap, partR_int, part_ap, chain_ap, var_ap, sv_val, sv_own, peek_ap, pv'_val, pv'_own, pv'_brw, chk_ap, cv_some, bnS_ok, bnS_bad, bindS_ap, sq_nx, sq_ret, sq_brk, sq_cnt, sq_bad, seqS_ap, nextS_ap, brkS_ap, cntS_ap, neverS_ap, asgS_ap, retS_ap, dropS_ap, cndS_t, cndS_f, ifS_ap, par2_ap, asgT_ap, forS_ap, whS_ap, setIx_ap, List.getElem?_cons_succ, List.getElem?_cons_zero, List.set_cons_succ, List.set_cons_zero, Rv.d_val, Rv.d_new, Rv.sl, addO_int, subO_int, gtO_int, ltO_int, geO_int, leO_int, negO_int, intO1_int, lenO_tup, lenO_lst, listO_tup, listO_lst, tupleO_tup, tupleO_lst, max2O_int, min2O_int, tupO0, tupO1, tupO2, tupO3, tupO4, lstO0, lstO1, lstO2, lstO3, lstO4, lstO5, eqO_int, neO_int, eqO_tup, neO_tup, eqO_nil, neO_nil, call1, call2, call3, call4, call5, cres_ok, truth_bool, set_tp2, set_tp3, set_nm, set_ls2, I_len, decide_true, decide_false, Bool.not_true, Bool.not_false, inst_int, eq_self, r, hl, hv, hrg, ho, c1, c2, retOf_ret]
  rfl
end K01

set_option Elab.async false
set_option linter.all false
set_option maxRecDepth 100000
set_option maxHeartbeats 2000000
namespace K01
open PySem PySem.Spec PyProof.Rows L2 RZ Fx PM
def lead (b : List Int) : Int := cf b (b.length - 1)
def quo (p : Int) (a b : List Int) : List Int := (pdiv p (inv p (lead b)) a b).1
def rem (p : Int) (a b : List Int) : List Int := (pdiv p (inv p (lead b)) a b).2
theorem lead_b {p : Int} (h : Fld p) {b : List Int} (hb : Can p b) (hne : b ≠ []) : 0 < lead b ∧ lead b < p := by
  have h1 := cf_rd hb.rd h.b.1 (b.length - 1)
  have h2 := last_ne b hb.tr hne
  unfold lead
  omega
theorem quo_ok {p : Int} (h : Fld p) {a b : List Int} (ha : Rd p a) (hb : Can p b) (hne : b ≠ []) : mk p (quo p a b) * mk p b + mk p (rem p a b) = mk p a ∧ Can p (quo p a b) ∧ Can p (rem p a b) ∧ (rem p a b).length < b.length ∧ (quo p a b).length ≤ a.length + 1 - b.length :=
  pdiv_ok h.b.1 ha hne (inv_ok h (lead_b h hb hne)).1
theorem dv_eq {p : Int} (h : Fld p) {a b : List Int} (ha : Rd p a) (hb : Can p b) (hne : b ≠ []) (hla : a.length < 900) (hlb : b.length < 900) : f_div_polys [.v (.int p), .v (T a), .v (T b)] = .ok (.val (.tuple [T (quo p a b), T (rem p a b)])) [] := div_eq h ha hb hne hla hlb
theorem ldv_eq {p : Int} (h : Fld p) {a b : List Int} (ha : Rd p a) (hb : Can p b) (hne : b ≠ []) (hla : a.length < 900) (hlb : b.length < 900) : f__law_divide [.v (.int p), .v (T a), .v (T b)] = .ok (.val (.tuple [T (quo p a b), T (rem p a b)])) [] := ldiv_eq h ha hb hne hla hlb
theorem get2_1 {a b : PyData} : getO (.tuple [a, b]) (.int 1) = some (.val b) := rfl
theorem get2_0 {a b : PyData} : getO (.tuple [a, b]) (.int 0) = some (.val a) := rfl
theorem get3_0 {a b c : PyData} : getO (.tuple [a, b, c]) (.int 0) = some (.val a) := rfl
theorem get3_1 {a b c : PyData} : getO (.tuple [a, b, c]) (.int 1) = some (.val b) := rfl
theorem get3_2 {a b c : PyData} : getO (.tuple [a, b, c]) (.int 2) = some (.val c) := rfl
theorem run1 {f : Fn} {n : Nat} {body : SM} (e : f = runFn n body) {ds : List PyData} {r : Rv} (h : retOf (body (initR n (ds.map Ag.v))) = some r) : f (ds.map Ag.v) = .ok r [] := by
  rw [e]; exact run_e h
/-! ### rest_of -/
def rst (p : Int) (a b : List Int) : List Int := if b = [] then a else rem p a b
theorem rest_eq {p : Int} (h : Fld p) {a b : List Int} (ha : Rd p a) (hb : Can p b) (hla : a.length < 900) (hlb : b.length < 900) : f_rest_of [.v (.int p), .v (T a), .v (T b)] = .ok (.val (T (rst p a b))) [] := by
  refine run_e (n := 3) (body := b_rest_of) (ds := [.int p, T a, T b]) ?_
  show retOf (b_rest_of [some (.val (.int p)), some (.val (T a)), some (.val (T b))]) = _
  unfold b_rest_of rst
  by_cases hne : b = []
  · rw [if_pos hne]
    simp -implicitDefEqProofs only [bnd_ok, bnd_exc, bnd_bad, pure_ap, bind_ap, bindD_ap, lift_some, lift_none, ofB_ap, truth_ap, asB_ap, cnd_t, cnd_f, ite_ap, and_ap, or_ap, not_ap, ofBool_ap, andV_ap, orV_ap, cons_ap, consV_ap, consS_ap, E2_ap, IxN_ap, SlN_ap, SlE_ap, partR_int, part_ap, chain_ap, var_ap, sv_val, sv_own, peek_ap, pv'_val, pv'_own, pv'_brw, chk_ap, cv_some, bnS_ok, bnS_bad, bindS_ap, sq_nx, sq_ret, sq_brk, sq_cnt, sq_bad, seqS_ap, nextS_ap, brkS_ap, cntS_ap, neverS_ap, asgS_ap, retS_ap, dropS_ap, cndS_t, cndS_f, ifS_ap, par2_ap, asgT_ap, forS_ap, whS_ap, setIx_ap, List.getElem?_cons_succ, List.getElem?_cons_zero, List.set_cons_succ, List.set_cons_zero, Rv.d_val, Rv.d_new, Rv.sl, addO_int, subO_int, gtO_int, ltO_int, geO_int, leO_int, negO_int, intO1_int, lenO_tup, lenO_lst, listO_tup, listO_lst, tupleO_tup, tupleO_lst, max2O_int, min2O_int, tupO0, tupO1, tupO2, tupO3, tupO4, lstO0, lstO1, lstO2, lstO3, lstO4, lstO5, eqO_int, neO_int, eqO_tup, neO_tup, eqO_nil, neO_nil, call1, call2, call3, call4, call5, cres_ok, truth_bool, set_tp2, set_tp3, set_nm, set_ls2, I_len, decide_true, decide_false, Bool.not_true, Bool.not_false, inst_int, eq_self, hne, retOf_ret]
  · have d := dv_eq h ha hb hne hla hlb
    rw [if_neg hne]
    simp -implicitDefEqProofs only [bnd_ok, bnd_exc, bnd_bad, pure_ap, bind_ap, bindD_ap, lift_some, lift_none, ofB_ap, truth_ap, asB_ap, cnd_t, cnd_f, ite_ap, and_ap, or_ap, not_ap, ofBool_ap, andV_ap, orV_ap, cons_ap, consV_ap, consS_ap, E2_ap, IxN_ap, SlN_ap, SlE_ap, partR_int, part_ap, chain_ap, var_ap, sv_val, sv_own, peek_ap, pv'_val, pv'_own, pv'_brw, chk_ap, cv_some, bnS_ok, bnS_bad, bindS_ap, sq_nx, sq_ret, sq_brk, sq_cnt, sq_bad, seqS_ap, nextS_ap, brkS_ap, cntS_ap, neverS_ap, asgS_ap, retS_ap, dropS_ap, cndS_t, cndS_f, ifS_ap, par2_ap, asgT_ap, forS_ap, whS_ap, setIx_ap, List.getElem?_cons_succ, List.getElem?_cons_zero, List.set_cons_succ, List.set_cons_zero, Rv.d_val, Rv.d_new, Rv.sl, addO_int, subO_int, gtO_int, ltO_int, geO_int, leO_int, negO_int, intO1_int, lenO_tup, lenO_lst, listO_tup, listO_lst, tupleO_tup, tupleO_lst, max2O_int, min2O_int, tupO0, tupO1, tupO2, tupO3, tupO4, lstO0, lstO1, lstO2, lstO3, lstO4, lstO5, eqO_int, neO_int, eqO_tup, neO_tup, eqO_nil, neO_nil, call1, call2, call3, call4, call5, cres_ok, truth_bool, set_tp2, set_tp3, set_nm, set_ls2, I_len, decide_true, decide_false, Bool.not_true, Bool.not_false, inst_int, eq_self, hne, d, get2_1, retOf_ret]
/-! ### monic -/
def mon (p : Int) (a : List Int) : List Int := if a = [] then [] else pscale p (inv p (lead a)) a
theorem monic_eq {p : Int} (h : Fld p) {a : List Int} (ha : Can p a) (hla : a.length < 900) : f_monic [.v (.int p), .v (T a)] = .ok (.val (T (mon p a))) [] := by
  refine run_e (n := 2) (body := b_monic) (ds := [.int p, T a]) ?_
  show retOf (b_monic [some (.val (.int p)), some (.val (T a))]) = _
  unfold b_monic mon
  by_cases hne : a = []
  · rw [if_pos hne]
    simp -implicitDefEqProofs only [bnd_ok, bnd_exc, bnd_bad, pure_ap, bind_ap, bindD_ap, lift_some, lift_none, ofB_ap, truth_ap, asB_ap, cnd_t, cnd_f, ite_ap, and_ap, or_ap, not_ap, ofBool_ap, andV_ap, orV_ap, cons_ap, consV_ap, consS_ap, E2_ap, IxN_ap, SlN_ap, SlE_ap, partR_int, part_ap, chain_ap, var_ap, sv_val, sv_own, peek_ap, pv'_val, pv'_own, pv'_brw, chk_ap, cv_some, bnS_ok, bnS_bad, bindS_ap, sq_nx, sq_ret, sq_brk, sq_cnt, sq_bad, seqS_ap, nextS_ap, brkS_ap, cntS_ap, neverS_ap, asgS_ap, retS_ap, dropS_ap, cndS_t, cndS_f, ifS_ap, par2_ap, asgT_ap, forS_ap, whS_ap, setIx_ap, List.getElem?_cons_succ, List.getElem?_cons_zero, List.set_cons_succ, List.set_cons_zero, Rv.d_val, Rv.d_new, Rv.sl, addO_int, subO_int, gtO_int, ltO_int, geO_int, leO_int, negO_int, intO1_int, lenO_tup, lenO_lst, listO_tup, listO_lst, tupleO_tup, tupleO_lst, max2O_int, min2O_int, tupO0, tupO1, tupO2, tupO3, tupO4, lstO0, lstO1, lstO2, lstO3, lstO4, lstO5, eqO_int, neO_int, eqO_tup, neO_tup, eqO_nil, neO_nil, call1, call2, call3, call4, call5, cres_ok, truth_bool, set_tp2, set_tp3, set_nm, set_ls2, I_len, decide_true, decide_false, Bool.not_true, Bool.not_false, inst_int, eq_self, hne, retOf_ret]
    rfl
  · have hl := lead_b h ha hne
    have hp := h.b
    have hi := inv_ok h hl
    have g := getI_last hne
    have iv := inverse_eq h hl
    have s := scaled_eq (c := inv p (lead a)) hp (by omega) ha.rd hla
    unfold lead at iv s ⊢
    rw [if_neg hne]
    simp -implicitDefEqProofs only [bnd_ok, bnd_exc, bnd_bad, pure_ap, bind_ap, bindD_ap, lift_some, lift_none, ofB_ap, truth_ap, asB_ap, cnd_t, cnd_f, ite_ap, and_ap, or_ap, not_ap, ofBool_ap, andV_ap, orV_ap, cons_ap, consV_ap, consS_ap, E2_ap, IxN_ap, SlN_ap, SlE_ap, partR_int, part_ap, chain_ap, var_ap, sv_val, sv_own, peek_ap, pv'_val, pv'_own, pv'_brw, chk_ap, cv_some, bnS_ok, bnS_bad, bindS_ap, sq_nx, sq_ret, sq_brk, sq_cnt, sq_bad, seqS_ap, nextS_ap, brkS_ap, cntS_ap, neverS_ap, asgS_ap, retS_ap, dropS_ap, cndS_t, cndS_f, ifS_ap, par2_ap, asgT_ap, forS_ap, whS_ap, setIx_ap, List.getElem?_cons_succ, List.getElem?_cons_zero, List.set_cons_succ, List.set_cons_zero, Rv.d_val, Rv.d_new, Rv.sl, addO_int, subO_int, gtO_int, ltO_int, geO_int, leO_int, negO_int, intO1_int, lenO_tup, lenO_lst, listO_tup, listO_lst, tupleO_tup, tupleO_lst, max2O_int, min2O_int, tupO0, tupO1, tupO2, tupO3, tupO4, lstO0, lstO1, lstO2, lstO3, lstO4, lstO5, eqO_int, neO_int, eqO_tup, neO_tup, eqO_nil, neO_nil, call1, call2, call3, call4, call5, cres_ok, truth_bool, set_tp2, set_tp3, set_nm, set_ls2, I_len, decide_true, decide_false, Bool.not_true, Bool.not_false, inst_int, eq_self, hne, g, iv, s, retOf_ret]
theorem scale_mul {p c : Int} (hp : 0 < p) {a : List Int} : pmul p a [c] = pscale p c a := by
  have h1 := pmul_ok hp a [c]
  have h2 := pscale_ok hp c a
  exact can_eq hp h1.2.1 h2.2.1 (by rw [h1.1, h2.1]; grind)
theorem lmonic_eq {p : Int} (h : Fld p) {a : List Int} (ha : Can p a) (hla : a.length < 400) : f__law_monic [.v (.int p), .v (T a)] = .ok (.val (T (mon p a))) [] := by
  refine run_e (n := 2) (body := b__law_monic) (ds := [.int p, T a]) ?_
  show retOf (b__law_monic [some (.val (.int p)), some (.val (T a))]) = _
  unfold b__law_monic mon
  by_cases hne : a = []
  · rw [if_pos hne]
    simp -implicitDefEqProofs only [bnd_ok, bnd_exc, bnd_bad, pure_ap, bind_ap, bindD_ap, lift_some, lift_none, ofB_ap, truth_ap, asB_ap, cnd_t, cnd_f, ite_ap, and_ap, or_ap, not_ap, ofBool_ap, andV_ap, orV_ap, cons_ap, consV_ap, consS_ap, E2_ap, IxN_ap, SlN_ap, SlE_ap, partR_int, part_ap, chain_ap, var_ap, sv_val, sv_own, peek_ap, pv'_val, pv'_own, pv'_brw, chk_ap, cv_some, bnS_ok, bnS_bad, bindS_ap, sq_nx, sq_ret, sq_brk, sq_cnt, sq_bad, seqS_ap, nextS_ap, brkS_ap, cntS_ap, neverS_ap, asgS_ap, retS_ap, dropS_ap, cndS_t, cndS_f, ifS_ap, par2_ap, asgT_ap, forS_ap, whS_ap, setIx_ap, List.getElem?_cons_succ, List.getElem?_cons_zero, List.set_cons_succ, List.set_cons_zero, Rv.d_val, Rv.d_new, Rv.sl, addO_int, subO_int, gtO_int, ltO_int, geO_int, leO_int, negO_int, intO1_int, lenO_tup, lenO_lst, listO_tup, listO_lst, tupleO_tup, tupleO_lst, max2O_int, min2O_int, tupO0, tupO1, tupO2, tupO3, tupO4, lstO0, lstO1, lstO2, lstO3, lstO4, lstO5, eqO_int, neO_int, eqO_tup, neO_tup, eqO_nil, neO_nil, call1, call2, call3, call4, call5, cres_ok, truth_bool, set_tp2, set_tp3, set_nm, set_ls2, I_len, decide_true, decide_false, Bool.not_true, Bool.not_false, inst_int, eq_self, hne, retOf_ret]
    rfl
  · have hl := lead_b h ha hne
    have hp := h.b
    have hi := inv_ok h hl
    have g := getI_last hne
    have iv := linverse_eq h hl
    have s := lmul_eq hp ha.rd (b := [inv p (lead a)]) (fun z hz => by
      have : z = inv p (lead a) := by simpa using hz
      omega) hla (by simp)
    rw [scale_mul hp.1] at s
    have s : f__law_mul [.v (.int p), .v (T a), .v (.tuple [.int (inv p (lead a))])] = .ok (.val (T (pscale p (inv p (lead a)) a))) [] := s
    unfold lead at iv s ⊢
    rw [if_neg hne]
    simp -implicitDefEqProofs only [bnd_ok, bnd_exc, bnd_bad, pure_ap, bind_ap, bindD_ap, lift_some, lift_none, ofB_ap, truth_ap, asB_ap, cnd_t, cnd_f, ite_ap, and_ap, or_ap, not_ap, ofBool_ap, andV_ap, orV_ap, cons_ap, consV_ap, consS_ap, E2_ap, IxN_ap, SlN_ap, SlE_ap, partR_int, part_ap, chain_ap, var_ap, sv_val, sv_own, peek_ap, pv'_val, pv'_own, pv'_brw, chk_ap, cv_some, bnS_ok, bnS_bad, bindS_ap, sq_nx, sq_ret, sq_brk, sq_cnt, sq_bad, seqS_ap, nextS_ap, brkS_ap, cntS_ap, neverS_ap, asgS_ap, retS_ap, dropS_ap, cndS_t, cndS_f, ifS_ap, par2_ap, asgT_ap, forS_ap, whS_ap, setIx_ap, List.getElem?_cons_succ, List.getElem?_cons_zero, List.set_cons_succ, List.set_cons_zero, Rv.d_val, Rv.d_new, Rv.sl, addO_int, subO_int, gtO_int, ltO_int, geO_int, leO_int, negO_int, intO1_int, lenO_tup, lenO_lst, listO_tup, listO_lst, tupleO_tup, tupleO_lst, max2O_int, min2O_int, tupO0, tupO1, tupO2, tupO3, tupO4, lstO0, lstO1, lstO2, lstO3, lstO4, lstO5, eqO_int, neO_int, eqO_tup, neO_tup, eqO_nil, neO_nil, call1, call2, call3, call4, call5, cres_ok, truth_bool, set_tp2, set_tp3, set_nm, set_ls2, I_len, decide_true, decide_false, Bool.not_true, Bool.not_false, inst_int, eq_self, hne, g, iv, s, retOf_ret]
theorem mon_can {p : Int} (h : Fld p) {a : List Int} : Can p (mon p a) ∧ (mon p a).length ≤ a.length := by
  unfold mon
  split
  · exact ⟨can_nil, by simp⟩
  · have := pscale_ok h.b.1 (inv p (lead a)) a
    exact ⟨this.2.1, this.2.2⟩
/-! ### the greatest common divisor -/
def gcdA (p : Int) : Nat → List Int → List Int → List Int
  | 0, a, _ => a
  | n + 1, a, b => if b = [] then a else gcdA p n b (rem p a b)
theorem gcdA_fuel {p : Int} (h : Fld p) : ∀ (n m : Nat) (a b : List Int), Rd p a → Can p b → b.length < n → b.length < m → gcdA p n a b = gcdA p m a b
  | 0, _, _, _, _, _, h1, _ => by omega
  | n + 1, 0, _, _, _, _, _, h2 => by omega
  | n + 1, m + 1, a, b, ha, hb, h1, h2 => by
    unfold gcdA
    by_cases hne : b = []
    · rw [if_pos hne, if_pos hne]
    · rw [if_neg hne, if_neg hne]
      have q := quo_ok h ha hb hne
      exact gcdA_fuel h n m b (rem p a b) hb.rd q.2.2.1 (by omega) (by omega)
def gcd (p : Int) (a b : List Int) : List Int := gcdA p (b.length + 1) a b
theorem gcdA_can {p : Int} (h : Fld p) : ∀ (n : Nat) (a b : List Int), Can p a → Can p b → Can p (gcdA p n a b) ∧ (gcdA p n a b).length ≤ max a.length b.length
  | 0, a, b, ha, _ => ⟨ha, by unfold gcdA; omega⟩
  | n + 1, a, b, ha, hb => by
    unfold gcdA
    by_cases hne : b = []
    · rw [if_pos hne]; exact ⟨ha, by omega⟩
    · rw [if_neg hne]
      have q := quo_ok h ha.rd hb hne
      have ih := gcdA_can h n b (rem p a b) hb q.2.2.1
      exact ⟨ih.1, by omega⟩
theorem dvo_loop {p : Int} (h : Fld p) (A B : Option Sl) : ∀ (n : Nat) (a b : List Int), Can p a → Can p b → a.length < 900 → b.length < 900 → b.length < n →
    whL (M.bind (E2 neO (var 4) (M.ofB (M.bind (M.pure []) fun ds => M.lift (tupO ds)))) asB) (par2 3 4 (var 4) (E2 getO (M.bind (M.consV (var 0) (M.consV (var 3) (M.consV (var 4) (M.pure [])))) (callB 3 f_div_polys)) (M.ofB (M.pure (.val (.int 1)))))) n
      [some (.val (.int p)), A, B, some (.val (T a)), some (.val (T b))] = .nx [some (.val (.int p)), A, B, some (.val (T (gcdA p n a b))), some (.val (T []))]
  | 0, a, b, _, _, _, _, hn => by omega
  | n + 1, a, b, ha, hb, hla, hlb, hn => by
    unfold whL gcdA
    by_cases hne : b = []
    · rw [if_pos hne]
      subst hne
      simp -implicitDefEqProofs only [bnd_ok, bnd_exc, bnd_bad, pure_ap, bind_ap, bindD_ap, lift_some, lift_none, ofB_ap, truth_ap, asB_ap, cnd_t, cnd_f, ite_ap, and_ap, or_ap, not_ap, ofBool_ap, andV_ap, orV_ap, cons_ap, consV_ap, consS_ap, E2_ap, IxN_ap, SlN_ap, SlE_ap, partR_int, part_ap, chain_ap, var_ap, sv_val, sv_own, peek_ap, pv'_val, pv'_own, pv'_brw, chk_ap, cv_some, bnS_ok, bnS_bad, bindS_ap, sq_nx, sq_ret, sq_brk, sq_cnt, sq_bad, seqS_ap, nextS_ap, brkS_ap, cntS_ap, neverS_ap, asgS_ap, retS_ap, dropS_ap, cndS_t, cndS_f, ifS_ap, par2_ap, asgT_ap, forS_ap, whS_ap, setIx_ap, List.getElem?_cons_succ, List.getElem?_cons_zero, List.set_cons_succ, List.set_cons_zero, Rv.d_val, Rv.d_new, Rv.sl, addO_int, subO_int, gtO_int, ltO_int, geO_int, leO_int, negO_int, intO1_int, lenO_tup, lenO_lst, listO_tup, listO_lst, tupleO_tup, tupleO_lst, max2O_int, min2O_int, tupO0, tupO1, tupO2, tupO3, tupO4, lstO0, lstO1, lstO2, lstO3, lstO4, lstO5, eqO_int, neO_int, eqO_tup, neO_tup, eqO_nil, neO_nil, call1, call2, call3, call4, call5, cres_ok, truth_bool, set_tp2, set_tp3, set_nm, set_ls2, I_len, decide_true, decide_false, Bool.not_true, Bool.not_false, inst_int, eq_self]
    · rw [if_neg hne]
      have q := quo_ok h ha.rd hb hne
      have d := dv_eq h ha.rd hb hne hla hlb
      have ih := dvo_loop h A B n b (rem p a b) hb q.2.2.1 hlb (by omega) (by omega)
      simp -implicitDefEqProofs only [bnd_ok, bnd_exc, bnd_bad, pure_ap, bind_ap, bindD_ap, lift_some, lift_none, ofB_ap, truth_ap, asB_ap, cnd_t, cnd_f, ite_ap, and_ap, or_ap, not_ap, ofBool_ap, andV_ap, orV_ap, cons_ap, consV_ap, consS_ap, E2_ap, IxN_ap, SlN_ap, SlE_ap, partR_int, part_ap, chain_ap, var_ap, sv_val, sv_own, peek_ap, pv'_val, pv'_own, pv'_brw, chk_ap, cv_some, bnS_ok, bnS_bad, bindS_ap, sq_nx, sq_ret, sq_brk, sq_cnt, sq_bad, seqS_ap, nextS_ap, brkS_ap, cntS_ap, neverS_ap, asgS_ap, retS_ap, dropS_ap, cndS_t, cndS_f, ifS_ap, par2_ap, asgT_ap, forS_ap, whS_ap, setIx_ap, List.getElem?_cons_succ, List.getElem?_cons_zero, List.set_cons_succ, List.set_cons_zero, Rv.d_val, Rv.d_new, Rv.sl, addO_int, subO_int, gtO_int, ltO_int, geO_int, leO_int, negO_int, intO1_int, lenO_tup, lenO_lst, listO_tup, listO_lst, tupleO_tup, tupleO_lst, max2O_int, min2O_int, tupO0, tupO1, tupO2, tupO3, tupO4, lstO0, lstO1, lstO2, lstO3, lstO4, lstO5, eqO_int, neO_int, eqO_tup, neO_tup, eqO_nil, neO_nil, call1, call2, call3, call4, call5, cres_ok, truth_bool, set_tp2, set_tp3, set_nm, set_ls2, I_len, decide_true, decide_false, Bool.not_true, Bool.not_false, inst_int, eq_self, hne, d, get2_1]
      exact ih
theorem dvo_eq {p : Int} (h : Fld p) {a b : List Int} (ha : Can p a) (hb : Can p b) (hla : a.length < 400) (hlb : b.length < 400) : f_divisor_of [.v (.int p), .v (T a), .v (T b)] = .ok (.val (T (mon p (gcd p a b)))) [] := by
  refine run_e (n := 5) (body := b_divisor_of) (ds := [.int p, T a, T b]) ?_
  show retOf (b_divisor_of [some (.val (.int p)), some (.val (T a)), some (.val (T b)), none, none]) = _
  have l := dvo_loop h (some (.val (T a))) (some (.val (T b))) FUEL a b ha hb (by omega) (by omega) (by unfold FUEL; omega)
  rw [gcdA_fuel h FUEL (b.length + 1) a b ha.rd hb (by unfold FUEL; omega) (by omega)] at l
  have gc := gcdA_can h (b.length + 1) a b ha hb
  have m := monic_eq h gc.1 (by omega)
  unfold b_divisor_of gcd
  simp -implicitDefEqProofs only [bnd_ok, bnd_exc, bnd_bad, pure_ap, bind_ap, bindD_ap, lift_some, lift_none, ofB_ap, truth_ap, asB_ap, cnd_t, cnd_f, ite_ap, and_ap, or_ap, not_ap, ofBool_ap, andV_ap, orV_ap, cons_ap, consV_ap, consS_ap, E2_ap, IxN_ap, SlN_ap, SlE_ap, partR_int, part_ap, chain_ap, var_ap, sv_val, sv_own, peek_ap, pv'_val, pv'_own, pv'_brw, chk_ap, cv_some, bnS_ok, bnS_bad, bindS_ap, sq_nx, sq_ret, sq_brk, sq_cnt, sq_bad, seqS_ap, nextS_ap, brkS_ap, cntS_ap, neverS_ap, asgS_ap, retS_ap, dropS_ap, cndS_t, cndS_f, ifS_ap, par2_ap, asgT_ap, forS_ap, whS_ap, setIx_ap, List.getElem?_cons_succ, List.getElem?_cons_zero, List.set_cons_succ, List.set_cons_zero, Rv.d_val, Rv.d_new, Rv.sl, addO_int, subO_int, gtO_int, ltO_int, geO_int, leO_int, negO_int, intO1_int, lenO_tup, lenO_lst, listO_tup, listO_lst, tupleO_tup, tupleO_lst, max2O_int, min2O_int, tupO0, tupO1, tupO2, tupO3, tupO4, lstO0, lstO1, lstO2, lstO3, lstO4, lstO5, eqO_int, neO_int, eqO_tup, neO_tup, eqO_nil, neO_nil, call1, call2, call3, call4, call5, cres_ok, truth_bool, set_tp2, set_tp3, set_nm, set_ls2, I_len, decide_true, decide_false, Bool.not_true, Bool.not_false, inst_int, eq_self, l, m, retOf_ret]
theorem lgcd_loop {p : Int} (h : Fld p) : ∀ (ds : List PyData) (a b : List Int) (u : Option Sl), Can p a → Can p b → a.length < 400 → b.length < 400 → ∃ b' u',
    forL (.nm 3) (seqS (ifS (M.bind (E2 eqO (var 2) (M.ofB (M.bind (M.pure []) fun ds => M.lift (tupO ds)))) asB) (brkS) (nextS)) (par2 1 2 (var 2) (E2 getO (M.bind (M.consV (var 0) (M.consV (var 1) (M.consV (var 2) (M.pure [])))) (callB 3 f__law_divide)) (M.ofB (M.pure (.val (.int 1))))))) ds
      [some (.val (.int p)), some (.val (T a)), some (.val (T b)), u] = .nx [some (.val (.int p)), some (.val (T (gcdA p ds.length a b))), some (.val (T b')), u']
  | [], a, b, u, _, _, _, _ => ⟨b, u, rfl⟩
  | x :: ds, a, b, u, ha, hb, hla, hlb => by
    unfold forL
    have e : gcdA p (x :: ds).length a b = if b = [] then a else gcdA p ds.length b (rem p a b) := rfl
    rw [e]
    by_cases hne : b = []
    · rw [if_pos hne]
      subst hne
      refine ⟨[], some (.val x), ?_⟩
      simp -implicitDefEqProofs only [bnd_ok, bnd_exc, bnd_bad, pure_ap, bind_ap, bindD_ap, lift_some, lift_none, ofB_ap, truth_ap, asB_ap, cnd_t, cnd_f, ite_ap, and_ap, or_ap, not_ap, ofBool_ap, andV_ap, orV_ap, cons_ap, consV_ap, consS_ap, E2_ap, IxN_ap, SlN_ap, SlE_ap, partR_int, part_ap, chain_ap, var_ap, sv_val, sv_own, peek_ap, pv'_val, pv'_own, pv'_brw, chk_ap, cv_some, bnS_ok, bnS_bad, bindS_ap, sq_nx, sq_ret, sq_brk, sq_cnt, sq_bad, seqS_ap, nextS_ap, brkS_ap, cntS_ap, neverS_ap, asgS_ap, retS_ap, dropS_ap, cndS_t, cndS_f, ifS_ap, par2_ap, asgT_ap, forS_ap, whS_ap, setIx_ap, List.getElem?_cons_succ, List.getElem?_cons_zero, List.set_cons_succ, List.set_cons_zero, Rv.d_val, Rv.d_new, Rv.sl, addO_int, subO_int, gtO_int, ltO_int, geO_int, leO_int, negO_int, intO1_int, lenO_tup, lenO_lst, listO_tup, listO_lst, tupleO_tup, tupleO_lst, max2O_int, min2O_int, tupO0, tupO1, tupO2, tupO3, tupO4, lstO0, lstO1, lstO2, lstO3, lstO4, lstO5, eqO_int, neO_int, eqO_tup, neO_tup, eqO_nil, neO_nil, call1, call2, call3, call4, call5, cres_ok, truth_bool, set_tp2, set_tp3, set_nm, set_ls2, I_len, decide_true, decide_false, Bool.not_true, Bool.not_false, inst_int, eq_self]
    · rw [if_neg hne]
      have q := quo_ok h ha.rd hb hne
      have d := ldv_eq h ha.rd hb hne (by omega) (by omega)
      obtain ⟨b', u', ih⟩ := lgcd_loop h ds b (rem p a b) (some (.val x)) hb q.2.2.1 hlb (by omega)
      refine ⟨b', u', ?_⟩
      simp -implicitDefEqProofs only [bnd_ok, bnd_exc, bnd_bad, pure_ap, bind_ap, bindD_ap, lift_some, lift_none, ofB_ap, truth_ap, asB_ap, cnd_t, cnd_f, ite_ap, and_ap, or_ap, not_ap, ofBool_ap, andV_ap, orV_ap, cons_ap, consV_ap, consS_ap, E2_ap, IxN_ap, SlN_ap, SlE_ap, partR_int, part_ap, chain_ap, var_ap, sv_val, sv_own, peek_ap, pv'_val, pv'_own, pv'_brw, chk_ap, cv_some, bnS_ok, bnS_bad, bindS_ap, sq_nx, sq_ret, sq_brk, sq_cnt, sq_bad, seqS_ap, nextS_ap, brkS_ap, cntS_ap, neverS_ap, asgS_ap, retS_ap, dropS_ap, cndS_t, cndS_f, ifS_ap, par2_ap, asgT_ap, forS_ap, whS_ap, setIx_ap, List.getElem?_cons_succ, List.getElem?_cons_zero, List.set_cons_succ, List.set_cons_zero, Rv.d_val, Rv.d_new, Rv.sl, addO_int, subO_int, gtO_int, ltO_int, geO_int, leO_int, negO_int, intO1_int, lenO_tup, lenO_lst, listO_tup, listO_lst, tupleO_tup, tupleO_lst, max2O_int, min2O_int, tupO0, tupO1, tupO2, tupO3, tupO4, lstO0, lstO1, lstO2, lstO3, lstO4, lstO5, eqO_int, neO_int, eqO_tup, neO_tup, eqO_nil, neO_nil, call1, call2, call3, call4, call5, cres_ok, truth_bool, set_tp2, set_tp3, set_nm, set_ls2, I_len, decide_true, decide_false, Bool.not_true, Bool.not_false, inst_int, eq_self, hne, d, get2_1]
      exact ih
theorem lgcd_eq {p : Int} (h : Fld p) {a b : List Int} (ha : Can p a) (hb : Can p b) (hla : a.length < 400) (hlb : b.length < 199) : f__law_gcd [.v (.int p), .v (T a), .v (T b)] = .ok (.val (T (mon p (gcd p a b)))) [] := by
  refine run_e (n := 4) (body := b__law_gcd) (ds := [.int p, T a, T b]) ?_
  show retOf (b__law_gcd [some (.val (.int p)), some (.val (T a)), some (.val (T b)), none]) = _
  obtain ⟨b', u', l⟩ := lgcd_loop h (rangeD1 0 200) a b none ha hb hla (by omega)
  rw [range_len, gcdA_fuel h 200 (b.length + 1) a b ha.rd hb (by omega) (by omega)] at l
  have gc := gcdA_can h (b.length + 1) a b ha hb
  have m := lmonic_eq h gc.1 (by omega)
  have hr : rng1 [.int 200] = M.pure (rangeD1 0 200) := rng1_int (j := 200) (by decide)
  unfold b__law_gcd gcd
  simp -implicitDefEqProofs only [bnd_ok, bnd_exc, bnd_bad, pure_ap, bind_ap, bindD_ap, lift_some, lift_none, ofB_ap, truth_ap, asB_ap, cnd_t, cnd_f, ite_ap, and_ap, or_ap, not_ap, ofBool_ap, andV_ap, orV_ap, cons_ap, consV_ap, consS_ap, E2_ap, IxN_ap, SlN_ap, SlE_ap, partR_int, part_ap, chain_ap, var_ap, sv_val, sv_own, peek_ap, pv'_val, pv'_own, pv'_brw, chk_ap, cv_some, bnS_ok, bnS_bad, bindS_ap, sq_nx, sq_ret, sq_brk, sq_cnt, sq_bad, seqS_ap, nextS_ap, brkS_ap, cntS_ap, neverS_ap, asgS_ap, retS_ap, dropS_ap, cndS_t, cndS_f, ifS_ap, par2_ap, asgT_ap, forS_ap, whS_ap, setIx_ap, List.getElem?_cons_succ, List.getElem?_cons_zero, List.set_cons_succ, List.set_cons_zero, Rv.d_val, Rv.d_new, Rv.sl, addO_int, subO_int, gtO_int, ltO_int, geO_int, leO_int, negO_int, intO1_int, lenO_tup, lenO_lst, listO_tup, listO_lst, tupleO_tup, tupleO_lst, max2O_int, min2O_int, tupO0, tupO1, tupO2, tupO3, tupO4, lstO0, lstO1, lstO2, lstO3, lstO4, lstO5, eqO_int, neO_int, eqO_tup, neO_tup, eqO_nil, neO_nil, call1, call2, call3, call4, call5, cres_ok, truth_bool, set_tp2, set_tp3, set_nm, set_ls2, I_len, decide_true, decide_false, Bool.not_true, Bool.not_false, inst_int, eq_self, hr, l, m, retOf_ret]
end K01

set_option Elab.async false
set_option linter.all false
set_option maxRecDepth 100000
set_option maxHeartbeats 2000000
namespace K01
open PySem PySem.Spec PyProof.Rows L2 RZ Fx PM
theorem neg1 {p : Int} : mk p [p - 1] = -1 := by
  show mk p [p - 1] = mk p (smul (-1) [1])
  refine mk_eq.mpr fun n => ?_
  show p ∣ cf [p - 1] n - cf [-1] n
  rw [cf_one, cf_one]
  split
  · exact ⟨1, by omega⟩
  · exact ⟨0, by simp⟩
theorem psub_ok {p : Int} (hp : 0 < p) (a b : List Int) : mk p (psub p a b) = mk p a - mk p b ∧ Can p (psub p a b) ∧ (psub p a b).length ≤ max a.length b.length := by
  have h1 := pscale_ok hp (p - 1) b
  have h2 := padd_ok hp 1 a (pscale p (p - 1) b)
  refine ⟨?_, h2.2.1, Nat.le_trans h2.2.2 (by have := h1.2.2; omega)⟩
  unfold psub
  rw [h2.1, h1.1, neg1, mk_one]
  grind
structure CS where
  h : List Int
  t : List Int
  f : List Int
  l : List Int
  a : List Int
  b : List Int
def CS.nxt (p : Int) (s : CS) : CS := ⟨s.t, rem p s.h s.t, s.l, psub p s.f (pmul p (quo p s.h s.t) s.l), s.b, psub p s.a (pmul p (quo p s.h s.t) s.b)⟩
structure CI (p : Int) (O W : R p) (A : Nat) (s : CS) : Prop where
  h : Can p s.h
  t : Can p s.t
  f : Can p s.f
  l : Can p s.l
  a : Can p s.a
  b : Can p s.b
  e1 : mk p s.f * O + mk p s.a * W = mk p s.h
  e2 : mk p s.l * O + mk p s.b * W = mk p s.t
  lf : s.f.length + max s.h.length s.t.length ≤ A + 1
  ll : s.l.length + max s.h.length s.t.length ≤ A + 1
  la : s.a.length + max s.h.length s.t.length ≤ A + 1
  lb : s.b.length + max s.h.length s.t.length ≤ A + 1
theorem ci_nxt {p : Int} (hF : Fld p) {O W : R p} {A : Nat} {s : CS} (c : CI p O W A s) (hne : s.t ≠ []) : CI p O W A (s.nxt p) := by
  have q := quo_ok hF c.h.rd c.t hne
  have m1 := pmul_ok hF.b.1 (quo p s.h s.t) s.l
  have m2 := pmul_ok hF.b.1 (quo p s.h s.t) s.b
  have s1 := psub_ok hF.b.1 s.f (pmul p (quo p s.h s.t) s.l)
  have s2 := psub_ok hF.b.1 s.a (pmul p (quo p s.h s.t) s.b)
  have x1 := c.lf
  have x2 := c.ll
  have x3 := c.la
  have x4 := c.lb
  have y1 := s1.2.2
  have y2 := s2.2.2
  have z1 := m1.2.2
  have z2 := m2.2.2
  have w1 := q.2.2.2.1
  have w2 := q.2.2.2.2
  refine ⟨c.t, q.2.2.1, c.l, s1.2.1, c.b, s2.2.1, c.e2, ?_, ?_, ?_, ?_, ?_⟩
  · show mk p (psub p s.f (pmul p (quo p s.h s.t) s.l)) * O + mk p (psub p s.a (pmul p (quo p s.h s.t) s.b)) * W = mk p (rem p s.h s.t)
    rw [s1.1, s2.1, m1.1, m2.1]
    have e0 := q.1
    have e1 := c.e1
    have e2 := c.e2
    grind
  · show s.l.length + max s.t.length (rem p s.h s.t).length ≤ A + 1
    omega
  · show (psub p s.f (pmul p (quo p s.h s.t) s.l)).length + max s.t.length (rem p s.h s.t).length ≤ A + 1
    omega
  · show s.b.length + max s.t.length (rem p s.h s.t).length ≤ A + 1
    omega
  · show (psub p s.a (pmul p (quo p s.h s.t) s.b)).length + max s.t.length (rem p s.h s.t).length ≤ A + 1
    omega
def comA (p : Int) : Nat → CS → CS
  | 0, s => s
  | n + 1, s => if s.t = [] then s else comA p n (s.nxt p)
theorem comA_ok {p : Int} (hF : Fld p) {O W : R p} {A : Nat} : ∀ (n : Nat) (s : CS), CI p O W A s → s.t.length < n → CI p O W A (comA p n s) ∧ (comA p n s).h = gcdA p n s.h s.t
  | 0, _, _, h => by omega
  | n + 1, s, c, hn => by
    unfold comA gcdA
    by_cases hne : s.t = []
    · rw [if_pos hne, if_pos hne]; exact ⟨c, rfl⟩
    · rw [if_neg hne, if_neg hne]
      have q := quo_ok hF c.h.rd c.t hne
      exact comA_ok hF n (s.nxt p) (ci_nxt hF c hne) (by show (rem p s.h s.t).length < n; omega)
theorem com_loop {p : Int} (hF : Fld p) {O W : R p} {A : Nat} (hA : A < 100) (X Y : Option Sl) : ∀ (n : Nat) (s : CS) (u v w : Option Sl), CI p O W A s → s.t.length < n → ∃ u' v' t' l' b',
    whL (M.bind (E2 neO (var 4) (M.ofB (M.bind (M.pure []) fun ds => M.lift (tupO ds)))) asB) (seqS (asgT (.tp [9, 10]) (M.bind (M.consV (var 0) (M.consV (var 3) (M.consV (var 4) (M.pure [])))) (callB 3 f_div_polys))) (seqS (par2 3 4 (var 4) (var 10)) (seqS (par2 5 6 (var 6) (M.bind (M.consV (var 0) (M.consV (var 5) (M.consV (M.bind (M.consV (var 0) (M.consV (var 9) (M.consV (var 6) (M.pure [])))) (callB 3 f_mul_polys)) (M.pure [])))) (callB 3 f_take_polys))) (par2 7 8 (var 8) (M.bind (M.consV (var 0) (M.consV (var 7) (M.consV (M.bind (M.consV (var 0) (M.consV (var 9) (M.consV (var 8) (M.pure [])))) (callB 3 f_mul_polys)) (M.pure [])))) (callB 3 f_take_polys)))))) n
      [some (.val (.int p)), X, Y, some (.val (T s.h)), some (.val (T s.t)), some (.val (T s.f)), some (.val (T s.l)), some (.val (T s.a)), some (.val (T s.b)), u, v, w] =
    .nx [some (.val (.int p)), X, Y, some (.val (T (comA p n s).h)), t', some (.val (T (comA p n s).f)), l', some (.val (T (comA p n s).a)), b', u', v', w]
  | 0, _, _, _, _, _, h => by omega
  | n + 1, s, u, v, w, c, hn => by
    unfold whL comA
    have x1 := c.lf
    have x2 := c.ll
    have x3 := c.la
    have x4 := c.lb
    by_cases hne : s.t = []
    · rw [if_pos hne]
      refine ⟨u, v, some (.val (T s.t)), some (.val (T s.l)), some (.val (T s.b)), ?_⟩
      simp -implicitDefEqProofs only [bnd_ok, bnd_exc, bnd_bad, pure_ap, bind_ap, bindD_ap, lift_some, lift_none, ofB_ap, truth_ap, asB_ap, cnd_t, cnd_f, ite_ap, and_ap, or_ap, not_ap, ofBool_ap, andV_ap, orV_ap, cons_ap, consV_ap, consS_ap, E2_ap, IxN_ap, SlN_ap, SlE_ap, partR_int, part_ap, chain_ap, var_ap, sv_val, sv_own, peek_ap, pv'_val, pv'_own, pv'_brw, chk_ap, cv_some, bnS_ok, bnS_bad, bindS_ap, sq_nx, sq_ret, sq_brk, sq_cnt, sq_bad, seqS_ap, nextS_ap, brkS_ap, cntS_ap, neverS_ap, asgS_ap, retS_ap, dropS_ap, cndS_t, cndS_f, ifS_ap, par2_ap, asgT_ap, forS_ap, whS_ap, setIx_ap, List.getElem?_cons_succ, List.getElem?_cons_zero, List.set_cons_succ, List.set_cons_zero, Rv.d_val, Rv.d_new, Rv.sl, addO_int, subO_int, gtO_int, ltO_int, geO_int, leO_int, negO_int, intO1_int, lenO_tup, lenO_lst, listO_tup, listO_lst, tupleO_tup, tupleO_lst, max2O_int, min2O_int, tupO0, tupO1, tupO2, tupO3, tupO4, lstO0, lstO1, lstO2, lstO3, lstO4, lstO5, eqO_int, neO_int, eqO_tup, neO_tup, eqO_nil, neO_nil, call1, call2, call3, call4, call5, cres_ok, truth_bool, set_tp2, set_tp3, set_nm, set_ls2, I_len, decide_true, decide_false, Bool.not_true, Bool.not_false, inst_int, eq_self, hne]
    · rw [if_neg hne]
      have hp := hF.b
      have q := quo_ok hF c.h.rd c.t hne
      have w2 := q.2.2.2.2
      have d := dv_eq hF c.h.rd c.t hne (by omega) (by omega)
      have m1 := mul_eq hp q.2.1.rd c.l.rd (by omega) (by omega)
      have m2 := mul_eq hp q.2.1.rd c.b.rd (by omega) (by omega)
      have k1 := pmul_ok hp.1 (quo p s.h s.t) s.l
      have k2 := pmul_ok hp.1 (quo p s.h s.t) s.b
      have t1 := take_eq hp c.f.rd k1.2.1.rd (by omega) (by have := k1.2.2; omega)
      have t2 := take_eq hp c.a.rd k2.2.1.rd (by omega) (by have := k2.2.2; omega)
      obtain ⟨u', v', t', l', b', ih⟩ := com_loop hF hA X Y n (s.nxt p) (some (.val (T (quo p s.h s.t)))) (some (.val (T (rem p s.h s.t)))) w (ci_nxt hF c hne) (by show (rem p s.h s.t).length < n; omega)
      refine ⟨u', v', t', l', b', ?_⟩
      unfold CS.nxt at ih ⊢
      simp -implicitDefEqProofs only [bnd_ok, bnd_exc, bnd_bad, pure_ap, bind_ap, bindD_ap, lift_some, lift_none, ofB_ap, truth_ap, asB_ap, cnd_t, cnd_f, ite_ap, and_ap, or_ap, not_ap, ofBool_ap, andV_ap, orV_ap, cons_ap, consV_ap, consS_ap, E2_ap, IxN_ap, SlN_ap, SlE_ap, partR_int, part_ap, chain_ap, var_ap, sv_val, sv_own, peek_ap, pv'_val, pv'_own, pv'_brw, chk_ap, cv_some, bnS_ok, bnS_bad, bindS_ap, sq_nx, sq_ret, sq_brk, sq_cnt, sq_bad, seqS_ap, nextS_ap, brkS_ap, cntS_ap, neverS_ap, asgS_ap, retS_ap, dropS_ap, cndS_t, cndS_f, ifS_ap, par2_ap, asgT_ap, forS_ap, whS_ap, setIx_ap, List.getElem?_cons_succ, List.getElem?_cons_zero, List.set_cons_succ, List.set_cons_zero, Rv.d_val, Rv.d_new, Rv.sl, addO_int, subO_int, gtO_int, ltO_int, geO_int, leO_int, negO_int, intO1_int, lenO_tup, lenO_lst, listO_tup, listO_lst, tupleO_tup, tupleO_lst, max2O_int, min2O_int, tupO0, tupO1, tupO2, tupO3, tupO4, lstO0, lstO1, lstO2, lstO3, lstO4, lstO5, eqO_int, neO_int, eqO_tup, neO_tup, eqO_nil, neO_nil, call1, call2, call3, call4, call5, cres_ok, truth_bool, set_tp2, set_tp3, set_nm, set_ls2, I_len, decide_true, decide_false, Bool.not_true, Bool.not_false, inst_int, eq_self, hne, d, m1, m2, t1, t2]
      exact ih
def com0 (a b : List Int) : CS := ⟨a, b, [1], [], [], [1]⟩
theorem can_one {p : Int} (hF : Fld p) : Can p [1] := ⟨fun x hx => by
  have : x = 1 := by simpa using hx
  subst this
  rcases hF with h | h | h <;> subst h <;> decide, by simp [trim]⟩
theorem com0_ok {p : Int} (hF : Fld p) {a b : List Int} (ha : Can p a) (hb : Can p b) : CI p (mk p a) (mk p b) (max a.length b.length) (com0 a b) :=
  ⟨ha, hb, can_one hF, can_nil, can_nil, can_one hF, by show mk p [1] * _ + mk p [] * _ = mk p a; rw [mk_one, mk_nil]; grind, by show mk p [] * _ + mk p [1] * _ = mk p b; rw [mk_one, mk_nil]; grind,
    by show 1 + max a.length b.length ≤ _; omega, by show 0 + max a.length b.length ≤ _; omega, by show 0 + max a.length b.length ≤ _; omega, by show 1 + max a.length b.length ≤ _; omega⟩
def comE (p : Int) (a b : List Int) : CS := comA p (b.length + 1) (com0 a b)
theorem comA_fuel {p : Int} (hF : Fld p) {O W : R p} {A : Nat} : ∀ (n m : Nat) (s : CS), CI p O W A s → s.t.length < n → s.t.length < m → comA p n s = comA p m s
  | 0, _, _, _, h, _ => by omega
  | n + 1, 0, _, _, _, h => by omega
  | n + 1, m + 1, s, c, h1, h2 => by
    unfold comA
    by_cases hne : s.t = []
    · rw [if_pos hne, if_pos hne]
    · rw [if_neg hne, if_neg hne]
      have q := quo_ok hF c.h.rd c.t hne
      have w1 : (s.nxt p).t.length < s.t.length := q.2.2.2.1
      exact comA_fuel hF n m (s.nxt p) (ci_nxt hF c hne) (by omega) (by omega)
/-- what common_of tells: the divisor, the two polys that make it -/
def comS (p : Int) (a b : List Int) : List Int := if gcd p a b = [] then (comE p a b).f else pscale p (inv p (lead (gcd p a b))) (comE p a b).f
def comT (p : Int) (a b : List Int) : List Int := if gcd p a b = [] then (comE p a b).a else pscale p (inv p (lead (gcd p a b))) (comE p a b).a
theorem comE_ok {p : Int} (hF : Fld p) {a b : List Int} (ha : Can p a) (hb : Can p b) : CI p (mk p a) (mk p b) (max a.length b.length) (comE p a b) ∧ (comE p a b).h = gcd p a b :=
  comA_ok hF (b.length + 1) (com0 a b) (com0_ok hF ha hb) (by show b.length < _; omega)
theorem com_ok {p : Int} (hF : Fld p) {a b : List Int} (ha : Can p a) (hb : Can p b) :
    mk p (comS p a b) * mk p a + mk p (comT p a b) * mk p b = mk p (mon p (gcd p a b)) ∧ Can p (comS p a b) ∧ Can p (comT p a b) ∧ (comS p a b).length ≤ max a.length b.length + 1 ∧ (comT p a b).length ≤ max a.length b.length + 1 := by
  obtain ⟨c, hh⟩ := comE_ok hF ha hb
  have e1 := c.e1
  rw [hh] at e1
  have x1 := c.lf
  have x3 := c.la
  unfold comS comT mon
  by_cases hz : gcd p a b = []
  · rw [if_pos hz, if_pos hz, if_pos hz]
    rw [hz] at e1
    exact ⟨e1, c.f, c.a, by omega, by omega⟩
  · rw [if_neg hz, if_neg hz, if_neg hz]
    have s1 := pscale_ok hF.b.1 (inv p (lead (gcd p a b))) (comE p a b).f
    have s2 := pscale_ok hF.b.1 (inv p (lead (gcd p a b))) (comE p a b).a
    have s3 := pscale_ok hF.b.1 (inv p (lead (gcd p a b))) (gcd p a b)
    refine ⟨?_, s1.2.1, s2.2.1, by have := s1.2.2; omega, by have := s2.2.2; omega⟩
    rw [s1.1, s2.1, s3.1]
    grind
theorem com_eq {p : Int} (hF : Fld p) {a b : List Int} (ha : Can p a) (hb : Can p b) (hla : a.length < 90) (hlb : b.length < 90) :
    f_common_of [.v (.int p), .v (T a), .v (T b)] = .ok (.val (.tuple [T (mon p (gcd p a b)), T (comS p a b), T (comT p a b)])) [] := by
  refine run_e (n := 12) (body := b_common_of) (ds := [.int p, T a, T b]) ?_
  show retOf (b_common_of [some (.val (.int p)), some (.val (T a)), some (.val (T b)), none, none, none, none, none, none, none, none, none]) = _
  obtain ⟨u, v, t, l, b', lp⟩ := com_loop hF (A := max a.length b.length) (by omega) (some (.val (T a))) (some (.val (T b))) FUEL (com0 a b) none none none (com0_ok hF ha hb) (by show b.length < _; unfold FUEL; omega)
  rw [comA_fuel hF FUEL (b.length + 1) (com0 a b) (com0_ok hF ha hb) (by show b.length < _; unfold FUEL; omega) (by show b.length < _; omega)] at lp
  obtain ⟨c, hh⟩ := comE_ok hF ha hb
  have x1 := c.lf
  have x3 := c.la
  have lp : whL _ _ FUEL [some (.val (.int p)), some (.val (T a)), some (.val (T b)), some (.val (T a)), some (.val (T b)), some (.val (.tuple [.int 1])), some (.val (.tuple [])), some (.val (.tuple [])), some (.val (.tuple [.int 1])), none, none, none] =
    .nx [some (.val (.int p)), some (.val (T a)), some (.val (T b)), some (.val (T (comE p a b).h)), t, some (.val (T (comE p a b).f)), l, some (.val (T (comE p a b).a)), b', u, v, none] := lp
  rw [hh] at lp
  have set4 : ∀ (x y z w : PyData) (a0 a1 a2 a3 a4 a5 a6 a7 a8 a9 a10 a11 : Option Sl), Tg.set (.tp [3, 4, 5, 6]) (.tuple [x, y, z, w]) [a0, a1, a2, a3, a4, a5, a6, a7, a8, a9, a10, a11] = some [a0, a1, a2, some (.val x), some (.val y), some (.val z), some (.val w), a7, a8, a9, a10, a11] := fun _ _ _ _ _ _ _ _ _ _ _ _ _ _ _ _ => rfl
  unfold b_common_of comS comT mon
  by_cases hz : gcd p a b = []
  · rw [if_pos hz, if_pos hz, if_pos hz]
    rw [hz] at lp
    simp -implicitDefEqProofs only [bnd_ok, bnd_exc, bnd_bad, pure_ap, bind_ap, bindD_ap, lift_some, lift_none, ofB_ap, truth_ap, asB_ap, cnd_t, cnd_f, ite_ap, and_ap, or_ap, not_ap, ofBool_ap, andV_ap, orV_ap, cons_ap, consV_ap, consS_ap, E2_ap, IxN_ap, SlN_ap, SlE_ap, partR_int, part_ap, chain_ap, var_ap, sv_val, sv_own, peek_ap, pv'_val, pv'_own, pv'_brw, chk_ap, cv_some, bnS_ok, bnS_bad, bindS_ap, sq_nx, sq_ret, sq_brk, sq_cnt, sq_bad, seqS_ap, nextS_ap, brkS_ap, cntS_ap, neverS_ap, asgS_ap, retS_ap, dropS_ap, cndS_t, cndS_f, ifS_ap, par2_ap, asgT_ap, forS_ap, whS_ap, setIx_ap, List.getElem?_cons_succ, List.getElem?_cons_zero, List.set_cons_succ, List.set_cons_zero, Rv.d_val, Rv.d_new, Rv.sl, addO_int, subO_int, gtO_int, ltO_int, geO_int, leO_int, negO_int, intO1_int, lenO_tup, lenO_lst, listO_tup, listO_lst, tupleO_tup, tupleO_lst, max2O_int, min2O_int, tupO0, tupO1, tupO2, tupO3, tupO4, lstO0, lstO1, lstO2, lstO3, lstO4, lstO5, eqO_int, neO_int, eqO_tup, neO_tup, eqO_nil, neO_nil, call1, call2, call3, call4, call5, cres_ok, truth_bool, set_tp2, set_tp3, set_nm, set_ls2, I_len, decide_true, decide_false, Bool.not_true, Bool.not_false, inst_int, eq_self, set4, lp, retOf_ret]
    rfl
  · rw [if_neg hz, if_neg hz, if_neg hz]
    have gc := gcdA_can hF (b.length + 1) a b ha hb
    have hl := lead_b hF gc.1 hz
    have g := getI_last hz
    have iv := inverse_eq hF hl
    have hi := inv_ok hF hl
    have hp := hF.b
    have hgl : (gcd p a b).length < 900 := by have := gc.2; unfold gcd; omega
    have hgl2 := hgl
    have s1 := scaled_eq (c := inv p (lead (gcd p a b))) hp (by unfold gcd at *; omega) c.f.rd (by omega)
    have s2 := scaled_eq (c := inv p (lead (gcd p a b))) hp (by unfold gcd at *; omega) c.a.rd (by omega)
    have s3 := scaled_eq (c := inv p (lead (gcd p a b))) hp (by unfold gcd at *; omega) (show PM.Rd p (gcd p a b) from gc.1.rd) hgl
    have iv : f_inverse_number [.v (.int p), .v (.int (cf (gcd p a b) ((gcd p a b).length - 1)))] = .ok (.val (.int (inv p (lead (gcd p a b))))) [] := iv
    simp -implicitDefEqProofs only [bnd_ok, bnd_exc, bnd_bad, pure_ap, bind_ap, bindD_ap, lift_some, lift_none, ofB_ap, truth_ap, asB_ap, cnd_t, cnd_f, ite_ap, and_ap, or_ap, not_ap, ofBool_ap, andV_ap, orV_ap, cons_ap, consV_ap, consS_ap, E2_ap, IxN_ap, SlN_ap, SlE_ap, partR_int, part_ap, chain_ap, var_ap, sv_val, sv_own, peek_ap, pv'_val, pv'_own, pv'_brw, chk_ap, cv_some, bnS_ok, bnS_bad, bindS_ap, sq_nx, sq_ret, sq_brk, sq_cnt, sq_bad, seqS_ap, nextS_ap, brkS_ap, cntS_ap, neverS_ap, asgS_ap, retS_ap, dropS_ap, cndS_t, cndS_f, ifS_ap, par2_ap, asgT_ap, forS_ap, whS_ap, setIx_ap, List.getElem?_cons_succ, List.getElem?_cons_zero, List.set_cons_succ, List.set_cons_zero, Rv.d_val, Rv.d_new, Rv.sl, addO_int, subO_int, gtO_int, ltO_int, geO_int, leO_int, negO_int, intO1_int, lenO_tup, lenO_lst, listO_tup, listO_lst, tupleO_tup, tupleO_lst, max2O_int, min2O_int, tupO0, tupO1, tupO2, tupO3, tupO4, lstO0, lstO1, lstO2, lstO3, lstO4, lstO5, eqO_int, neO_int, eqO_tup, neO_tup, eqO_nil, neO_nil, call1, call2, call3, call4, call5, cres_ok, truth_bool, set_tp2, set_tp3, set_nm, set_ls2, I_len, decide_true, decide_false, Bool.not_true, Bool.not_false, inst_int, eq_self, set4, lp, hz, g, iv, s1, s2, s3, retOf_ret]
end K01

set_option Elab.async false
set_option linter.all false
set_option maxRecDepth 100000
set_option maxHeartbeats 2000000
namespace K01
open PySem PySem.Spec PyProof.Rows L2 RZ Fx PM
/-! ### powers -/
def pwr {p : Int} (x : R p) : Nat → R p
  | 0 => 1
  | n + 1 => pwr x n * x
theorem pwr_add {p : Int} (x : R p) (m : Nat) : ∀ n, pwr x (m + n) = pwr x m * pwr x n
  | 0 => by show pwr x m = pwr x m * 1; grind
  | n + 1 => by
    show pwr x (m + n) * x = pwr x m * (pwr x n * x)
    rw [pwr_add x m n]; grind
theorem pwr_sq {p : Int} (x : R p) : ∀ n, pwr (x * x) n = pwr x (n + n)
  | 0 => rfl
  | n + 1 => by
    have e : n + 1 + (n + 1) = (n + n) + 1 + 1 := by omega
    rw [e]
    show pwr (x * x) n * (x * x) = pwr x (n + n) * x * x
    rw [pwr_sq x n]; grind
def Cm {p : Int} (M x y : R p) : Prop := ∃ q, x = q * M + y
theorem Cm.rfl' {p : Int} {M : R p} (x : R p) : Cm M x x := ⟨0, by grind⟩
theorem Cm.sym {p : Int} {M x y : R p} (h : Cm M x y) : Cm M y x := by obtain ⟨q, h⟩ := h; exact ⟨-q, by grind⟩
theorem Cm.tr {p : Int} {M x y z : R p} (h : Cm M x y) (k : Cm M y z) : Cm M x z := by obtain ⟨q, h⟩ := h; obtain ⟨r, k⟩ := k; exact ⟨q + r, by grind⟩
theorem Cm.mul {p : Int} {M x y z w : R p} (h : Cm M x y) (k : Cm M z w) : Cm M (x * z) (y * w) := by obtain ⟨q, h⟩ := h; obtain ⟨r, k⟩ := k; exact ⟨q * z + y * r, by grind⟩
theorem Cm.pw {p : Int} {M x y : R p} (h : Cm M x y) : ∀ n, Cm M (pwr x n) (pwr y n)
  | 0 => Cm.rfl' _
  | n + 1 => (Cm.pw h n).mul h
theorem rst_ok {p : Int} (h : Fld p) {a m : List Int} (ha : Rd p a) (hm : Can p m) (hne : m ≠ []) : Cm (mk p m) (mk p a) (mk p (rst p a m)) ∧ Can p (rst p a m) ∧ (rst p a m).length < m.length := by
  have q := quo_ok h ha hm hne
  unfold rst
  rw [if_neg hne]
  exact ⟨⟨_, q.1.symm⟩, q.2.2.1, q.2.2.2.1⟩
def pwA (p : Int) (m : List Int) : Nat → Nat → List Int → List Int → List Int
  | 0, _, f, _ => f
  | n + 1, k, f, s => if k = 0 then f else pwA p m n (k / 2) (if k % 2 = 1 then rst p (pmul p f s) m else f) (rst p (pmul p s s) m)
theorem pwA_fuel {p : Int} {m : List Int} : ∀ (n n' k : Nat) (f s : List Int), k < 2 ^ n → k < 2 ^ n' → pwA p m n k f s = pwA p m n' k f s
  | 0, 0, _, _, _, _, _ => rfl
  | 0, n' + 1, k, f, s, h1, _ => by
    have : k = 0 := by simpa using h1
    subst this
    unfold pwA; rfl
  | n + 1, 0, k, f, s, _, h1 => by
    have : k = 0 := by simpa using h1
    subst this
    unfold pwA; rfl
  | n + 1, n' + 1, k, f, s, h1, h2 => by
    unfold pwA
    split
    · rfl
    · exact pwA_fuel n n' (k / 2) _ _ (by rw [Nat.pow_succ] at h1; omega) (by rw [Nat.pow_succ] at h2; omega)
theorem pwA_ok {p : Int} (h : Fld p) {m : List Int} (hm : Can p m) (hne : m ≠ []) : ∀ (n k : Nat) (f s : List Int), k < 2 ^ n → Can p f → f.length < m.length → Can p s → s.length < m.length →
    Cm (mk p m) (mk p f * pwr (mk p s) k) (mk p (pwA p m n k f s)) ∧ Can p (pwA p m n k f s) ∧ (pwA p m n k f s).length < m.length
  | 0, k, f, s, hk, hf, hfl, _, _ => by
    have : k = 0 := by simpa using hk
    subst this
    refine ⟨?_, hf, hfl⟩
    show Cm (mk p m) (mk p f * 1) (mk p f)
    exact ⟨0, by grind⟩
  | n + 1, k, f, s, hk, hf, hfl, hs, hsl => by
    unfold pwA
    by_cases h0 : k = 0
    · rw [if_pos h0]
      subst h0
      refine ⟨?_, hf, hfl⟩
      show Cm (mk p m) (mk p f * 1) (mk p f)
      exact ⟨0, by grind⟩
    · rw [if_neg h0]
      have hp := h.b.1
      have m1 := pmul_ok hp f s
      have m2 := pmul_ok hp s s
      have r1 := rst_ok h m1.2.1.rd hm hne
      have r2 := rst_ok h m2.2.1.rd hm hne
      rw [m1.1] at r1
      rw [m2.1] at r2
      have hk2 : k / 2 < 2 ^ n := by rw [Nat.pow_succ] at hk; omega
      have sq := (r2.1.pw (k / 2))
      rw [pwr_sq] at sq
      by_cases hodd : k % 2 = 1
      · rw [if_pos hodd]
        have ih := pwA_ok h hm hne n (k / 2) (rst p (pmul p f s) m) (rst p (pmul p s s) m) hk2 r1.2.1 r1.2.2 r2.2.1 r2.2.2
        refine ⟨?_, ih.2.1, ih.2.2⟩
        have e : k = (k / 2 + k / 2) + 1 := by omega
        have e2 : pwr (mk p s) k = pwr (mk p s) (k / 2 + k / 2) * mk p s := by rw [e]; show pwr _ _ * _ = _; congr 2; omega
        rw [e2]
        have c := (r1.1.mul sq).tr ih.1
        have e3 : mk p f * (pwr (mk p s) (k / 2 + k / 2) * mk p s) = mk p f * mk p s * pwr (mk p s) (k / 2 + k / 2) := by grind
        rw [e3]
        exact c
      · rw [if_neg hodd]
        have ih := pwA_ok h hm hne n (k / 2) f (rst p (pmul p s s) m) hk2 hf hfl r2.2.1 r2.2.2
        refine ⟨?_, ih.2.1, ih.2.2⟩
        have e : k / 2 + k / 2 = k := by omega
        rw [e] at sq
        exact ((Cm.rfl' _).mul sq).tr ih.1
def pm (p : Int) (a : List Int) (k : Nat) (m : List Int) : List Int := pwA p m 40 k (rst p [1] m) (rst p a m)
theorem pm_ok {p : Int} (h : Fld p) {a m : List Int} {k : Nat} (ha : Rd p a) (hm : Can p m) (hne : m ≠ []) (hk : k < 2 ^ 40) : Cm (mk p m) (pwr (mk p a) k) (mk p (pm p a k m)) ∧ Can p (pm p a k m) ∧ (pm p a k m).length < m.length := by
  have r1 := rst_ok h (can_one h).rd hm hne
  have r2 := rst_ok h ha hm hne
  have w := pwA_ok h hm hne 40 k (rst p [1] m) (rst p a m) hk r1.2.1 r1.2.2 r2.2.1 r2.2.2
  refine ⟨?_, w.2.1, w.2.2⟩
  have c := (r1.1.mul (r2.1.pw k)).tr w.1
  rw [mk_one] at c
  have e : (1 : R p) * pwr (mk p a) k = pwr (mk p a) k := by grind
  rwa [e] at c
theorem cm_eq {p : Int} (h : Fld p) {m r s : List Int} (hm : Can p m) (hne : m ≠ []) (hr : Can p r) (hs : Can p s) (hrl : r.length < m.length) (hsl : s.length < m.length) (c : Cm (mk p m) (mk p r) (mk p s)) : r = s := by
  obtain ⟨q, e⟩ := c.sym
  exact can_eq h.b.1 hr hs (rest_one h.b.1 hne ⟨_, (inv_ok h (lead_b h hm hne)).1⟩ hrl hsl e.symm)
theorem pm_add {p : Int} (h : Fld p) {a m : List Int} {k j : Nat} (ha : Rd p a) (hm : Can p m) (hne : m ≠ []) (hk : k + j < 2 ^ 40) : pm p a (k + j) m = rem p (pmul p (pm p a k m) (pm p a j m)) m := by
  have c1 := pm_ok h (k := k) ha hm hne (by omega)
  have c2 := pm_ok h (k := j) ha hm hne (by omega)
  have c3 := pm_ok h (k := k + j) ha hm hne hk
  have m1 := pmul_ok h.b.1 (pm p a k m) (pm p a j m)
  have q := quo_ok h m1.2.1.rd hm hne
  refine cm_eq h hm hne c3.2.1 q.2.2.1 c3.2.2 q.2.2.2.1 ?_
  have d := c1.1.mul c2.1
  rw [← pwr_add] at d
  refine c3.1.sym.tr (d.tr ?_)
  rw [← m1.1]
  exact ⟨_, q.1.symm⟩
theorem half {k : Nat} : ((k : Int)) / 2 = ((k / 2 : Nat) : Int) := by omega
theorem divO2 {k : Nat} : divO (.int (k : Int)) (.int 2) = some (.val (.int ((k / 2 : Nat) : Int))) := by
  rw [divO_int (by decide) (Nat.lt_trans (by decide : (2 : Int).natAbs < 1000000) pw), half]
theorem pw_loop {p : Int} (h : Fld p) {m : List Int} (hm : Can p m) (hne : m ≠ []) (hml : m.length < 100) (A : Option Sl) : ∀ (n k : Nat) (f s : List Int), k < 2 ^ n → Can p f → f.length < m.length → Can p s → s.length < m.length → ∃ s' k',
    whL (M.bind (E2 gtO (var 2) (M.ofB (M.pure (.val (.int 0))))) asB) (seqS (ifS (M.bind (E2 eqO (E2 modO (var 2) (M.ofB (M.pure (.val (.int 2))))) (M.ofB (M.pure (.val (.int 1))))) asB) (asgS 4 (M.bind (M.consV (var 0) (M.consV (M.bind (M.consV (var 0) (M.consV (var 4) (M.consV (var 5) (M.pure [])))) (callB 3 f_mul_polys)) (M.consV (var 3) (M.pure [])))) (callB 3 f_rest_of))) (nextS)) (par2 5 2 (M.bind (M.consV (var 0) (M.consV (M.bind (M.consV (var 0) (M.consV (var 5) (M.consV (var 5) (M.pure [])))) (callB 3 f_mul_polys)) (M.consV (var 3) (M.pure [])))) (callB 3 f_rest_of)) (E2 divO (var 2) (M.ofB (M.pure (.val (.int 2))))))) (n + 1)
      [some (.val (.int p)), A, some (.val (.int (k : Int))), some (.val (T m)), some (.val (T f)), some (.val (T s))] = .nx [some (.val (.int p)), A, k', some (.val (T m)), some (.val (T (pwA p m n k f s))), s']
  | 0, k, f, s, hk, _, _, _, _ => by
    have : k = 0 := by simpa using hk
    subst this
    unfold whL
    refine ⟨some (.val (T s)), some (.val (.int ((0 : Nat) : Int))), ?_⟩
    have e2 : ¬ ((0 : Int) < ((0 : Nat) : Int)) := by decide
    simp -implicitDefEqProofs only [bnd_ok, bnd_exc, bnd_bad, pure_ap, bind_ap, bindD_ap, lift_some, lift_none, ofB_ap, truth_ap, asB_ap, cnd_t, cnd_f, ite_ap, and_ap, or_ap, not_ap, ofBool_ap, andV_ap, orV_ap, cons_ap, consV_ap, consS_ap, E2_ap, IxN_ap, SlN_ap, SlE_ap, partR_int, part_ap, chain_ap, var_ap, sv_val, sv_own, peek_ap, pv'_val, pv'_own, pv'_brw, chk_ap, cv_some, bnS_ok, bnS_bad, bindS_ap, sq_nx, sq_ret, sq_brk, sq_cnt, sq_bad, seqS_ap, nextS_ap, brkS_ap, cntS_ap, neverS_ap, asgS_ap, retS_ap, dropS_ap, cndS_t, cndS_f, ifS_ap, par2_ap, asgT_ap, forS_ap, whS_ap, setIx_ap, List.getElem?_cons_succ, List.getElem?_cons_zero, List.set_cons_succ, List.set_cons_zero, Rv.d_val, Rv.d_new, Rv.sl, addO_int, subO_int, gtO_int, ltO_int, geO_int, leO_int, negO_int, intO1_int, lenO_tup, lenO_lst, listO_tup, listO_lst, tupleO_tup, tupleO_lst, max2O_int, min2O_int, tupO0, tupO1, tupO2, tupO3, tupO4, lstO0, lstO1, lstO2, lstO3, lstO4, lstO5, eqO_int, neO_int, eqO_tup, neO_tup, eqO_nil, neO_nil, call1, call2, call3, call4, call5, cres_ok, truth_bool, set_tp2, set_tp3, set_nm, set_ls2, I_len, decide_true, decide_false, Bool.not_true, Bool.not_false, inst_int, eq_self, e2]
    rfl
  | n + 1, k, f, s, hk, hf, hfl, hs, hsl => by
    unfold whL
    unfold pwA
    by_cases h0 : k = 0
    · rw [if_pos h0]
      subst h0
      refine ⟨some (.val (T s)), some (.val (.int ((0 : Nat) : Int))), ?_⟩
      have e2 : ¬ ((0 : Int) < ((0 : Nat) : Int)) := by decide
      simp -implicitDefEqProofs only [bnd_ok, bnd_exc, bnd_bad, pure_ap, bind_ap, bindD_ap, lift_some, lift_none, ofB_ap, truth_ap, asB_ap, cnd_t, cnd_f, ite_ap, and_ap, or_ap, not_ap, ofBool_ap, andV_ap, orV_ap, cons_ap, consV_ap, consS_ap, E2_ap, IxN_ap, SlN_ap, SlE_ap, partR_int, part_ap, chain_ap, var_ap, sv_val, sv_own, peek_ap, pv'_val, pv'_own, pv'_brw, chk_ap, cv_some, bnS_ok, bnS_bad, bindS_ap, sq_nx, sq_ret, sq_brk, sq_cnt, sq_bad, seqS_ap, nextS_ap, brkS_ap, cntS_ap, neverS_ap, asgS_ap, retS_ap, dropS_ap, cndS_t, cndS_f, ifS_ap, par2_ap, asgT_ap, forS_ap, whS_ap, setIx_ap, List.getElem?_cons_succ, List.getElem?_cons_zero, List.set_cons_succ, List.set_cons_zero, Rv.d_val, Rv.d_new, Rv.sl, addO_int, subO_int, gtO_int, ltO_int, geO_int, leO_int, negO_int, intO1_int, lenO_tup, lenO_lst, listO_tup, listO_lst, tupleO_tup, tupleO_lst, max2O_int, min2O_int, tupO0, tupO1, tupO2, tupO3, tupO4, lstO0, lstO1, lstO2, lstO3, lstO4, lstO5, eqO_int, neO_int, eqO_tup, neO_tup, eqO_nil, neO_nil, call1, call2, call3, call4, call5, cres_ok, truth_bool, set_tp2, set_tp3, set_nm, set_ls2, I_len, decide_true, decide_false, Bool.not_true, Bool.not_false, inst_int, eq_self, e2]
    · rw [if_neg h0]
      have hp := h.b
      have e2 : (0 : Int) < (k : Int) := by omega
      have m1 := pmul_ok hp.1 f s
      have m2 := pmul_ok hp.1 s s
      have r1 := rst_ok h m1.2.1.rd hm hne
      have r2 := rst_ok h m2.2.1.rd hm hne
      have f1 := mul_eq hp hf.rd hs.rd (by omega) (by omega)
      have f2 := mul_eq hp hs.rd hs.rd (by omega) (by omega)
      have g1 := rest_eq h m1.2.1.rd hm (by have := m1.2.2; omega) (by omega)
      have g2 := rest_eq h m2.2.1.rd hm (by have := m2.2.2; omega) (by omega)
      have md : modO (.int (k : Int)) (.int 2) = some (.val (.int ((k : Int) % 2))) := modO_int (by decide)
      have hk2 : k / 2 < 2 ^ n := by rw [Nat.pow_succ] at hk; omega
      by_cases hodd : k % 2 = 1
      · have e3 : (k : Int) % 2 = 1 := by omega
        obtain ⟨s', k', ih⟩ := pw_loop h hm hne hml A n (k / 2) (rst p (pmul p f s) m) (rst p (pmul p s s) m) hk2 r1.2.1 r1.2.2 r2.2.1 r2.2.2
        refine ⟨s', k', ?_⟩
        rw [if_pos hodd]
        simp -implicitDefEqProofs only [bnd_ok, bnd_exc, bnd_bad, pure_ap, bind_ap, bindD_ap, lift_some, lift_none, ofB_ap, truth_ap, asB_ap, cnd_t, cnd_f, ite_ap, and_ap, or_ap, not_ap, ofBool_ap, andV_ap, orV_ap, cons_ap, consV_ap, consS_ap, E2_ap, IxN_ap, SlN_ap, SlE_ap, partR_int, part_ap, chain_ap, var_ap, sv_val, sv_own, peek_ap, pv'_val, pv'_own, pv'_brw, chk_ap, cv_some, bnS_ok, bnS_bad, bindS_ap, sq_nx, sq_ret, sq_brk, sq_cnt, sq_bad, seqS_ap, nextS_ap, brkS_ap, cntS_ap, neverS_ap, asgS_ap, retS_ap, dropS_ap, cndS_t, cndS_f, ifS_ap, par2_ap, asgT_ap, forS_ap, whS_ap, setIx_ap, List.getElem?_cons_succ, List.getElem?_cons_zero, List.set_cons_succ, List.set_cons_zero, Rv.d_val, Rv.d_new, Rv.sl, addO_int, subO_int, gtO_int, ltO_int, geO_int, leO_int, negO_int, intO1_int, lenO_tup, lenO_lst, listO_tup, listO_lst, tupleO_tup, tupleO_lst, max2O_int, min2O_int, tupO0, tupO1, tupO2, tupO3, tupO4, lstO0, lstO1, lstO2, lstO3, lstO4, lstO5, eqO_int, neO_int, eqO_tup, neO_tup, eqO_nil, neO_nil, call1, call2, call3, call4, call5, cres_ok, truth_bool, set_tp2, set_tp3, set_nm, set_ls2, I_len, decide_true, decide_false, Bool.not_true, Bool.not_false, inst_int, eq_self, e2, md, e3, f1, g1, f2, g2, divO2]
        exact ih
      · have e3 : ¬ ((k : Int) % 2 = 1) := by omega
        obtain ⟨s', k', ih⟩ := pw_loop h hm hne hml A n (k / 2) f (rst p (pmul p s s) m) hk2 hf hfl r2.2.1 r2.2.2
        refine ⟨s', k', ?_⟩
        rw [if_neg hodd]
        simp -implicitDefEqProofs only [bnd_ok, bnd_exc, bnd_bad, pure_ap, bind_ap, bindD_ap, lift_some, lift_none, ofB_ap, truth_ap, asB_ap, cnd_t, cnd_f, ite_ap, and_ap, or_ap, not_ap, ofBool_ap, andV_ap, orV_ap, cons_ap, consV_ap, consS_ap, E2_ap, IxN_ap, SlN_ap, SlE_ap, partR_int, part_ap, chain_ap, var_ap, sv_val, sv_own, peek_ap, pv'_val, pv'_own, pv'_brw, chk_ap, cv_some, bnS_ok, bnS_bad, bindS_ap, sq_nx, sq_ret, sq_brk, sq_cnt, sq_bad, seqS_ap, nextS_ap, brkS_ap, cntS_ap, neverS_ap, asgS_ap, retS_ap, dropS_ap, cndS_t, cndS_f, ifS_ap, par2_ap, asgT_ap, forS_ap, whS_ap, setIx_ap, List.getElem?_cons_succ, List.getElem?_cons_zero, List.set_cons_succ, List.set_cons_zero, Rv.d_val, Rv.d_new, Rv.sl, addO_int, subO_int, gtO_int, ltO_int, geO_int, leO_int, negO_int, intO1_int, lenO_tup, lenO_lst, listO_tup, listO_lst, tupleO_tup, tupleO_lst, max2O_int, min2O_int, tupO0, tupO1, tupO2, tupO3, tupO4, lstO0, lstO1, lstO2, lstO3, lstO4, lstO5, eqO_int, neO_int, eqO_tup, neO_tup, eqO_nil, neO_nil, call1, call2, call3, call4, call5, cres_ok, truth_bool, set_tp2, set_tp3, set_nm, set_ls2, I_len, decide_true, decide_false, Bool.not_true, Bool.not_false, inst_int, eq_self, e2, md, e3, f2, g2, divO2]
        exact ih
theorem pow_eq {p : Int} (h : Fld p) {a m : List Int} {k : Nat} (ha : Can p a) (hla : a.length < 100) (hm : Can p m) (hne : m ≠ []) (hml : m.length < 100) (hk : k < 2 ^ 40) :
    f_power_modulo [.v (.int p), .v (T a), .v (.int (k : Int)), .v (T m)] = .ok (.val (T (pm p a k m))) [] := by
  refine run_e (n := 6) (body := b_power_modulo) (ds := [.int p, T a, .int (k : Int), T m]) ?_
  show retOf (b_power_modulo [some (.val (.int p)), some (.val (T a)), some (.val (.int (k : Int))), some (.val (T m)), none, none]) = _
  have r1 := rst_ok h (can_one h).rd hm hne
  have r2 := rst_ok h ha.rd hm hne
  have g1 := rest_eq h (can_one h).rd hm (by simp) (by omega)
  have g2 := rest_eq h ha.rd hm (by omega) (by omega)
  have g1 : f_rest_of [.v (.int p), .v (.tuple [.int 1]), .v (T m)] = .ok (.val (T (rst p [1] m))) [] := g1
  obtain ⟨N, hN, hFU⟩ : ∃ N : Nat, 40 ≤ N ∧ FUEL = N + 1 := ⟨999999999999, by decide, rfl⟩
  have hkN : k < 2 ^ N := Nat.lt_of_lt_of_le hk (Nat.pow_le_pow_right (by decide) hN)
  obtain ⟨s', k', l⟩ := pw_loop h hm hne hml (some (.val (T a))) N k (rst p [1] m) (rst p a m) hkN r1.2.1 r1.2.2 r2.2.1 r2.2.2
  rw [← hFU, pwA_fuel N 40 k _ _ hkN hk] at l
  have rv : ∀ (d : PyData) (a0 a1 a2 a3 a5 : Option Sl), retV 4 [a0, a1, a2, a3, some (.val d), a5] = .ret (.val d) [a0, a1, a2, a3, some (.val d), a5] := fun _ _ _ _ _ _ => rfl
  unfold b_power_modulo pm
  simp -implicitDefEqProofs only [bnd_ok, bnd_exc, bnd_bad, pure_ap, bind_ap, bindD_ap, lift_some, lift_none, ofB_ap, truth_ap, asB_ap, cnd_t, cnd_f, ite_ap, and_ap, or_ap, not_ap, ofBool_ap, andV_ap, orV_ap, cons_ap, consV_ap, consS_ap, E2_ap, IxN_ap, SlN_ap, SlE_ap, partR_int, part_ap, chain_ap, var_ap, sv_val, sv_own, peek_ap, pv'_val, pv'_own, pv'_brw, chk_ap, cv_some, bnS_ok, bnS_bad, bindS_ap, sq_nx, sq_ret, sq_brk, sq_cnt, sq_bad, seqS_ap, nextS_ap, brkS_ap, cntS_ap, neverS_ap, asgS_ap, retS_ap, dropS_ap, cndS_t, cndS_f, ifS_ap, par2_ap, asgT_ap, forS_ap, whS_ap, setIx_ap, List.getElem?_cons_succ, List.getElem?_cons_zero, List.set_cons_succ, List.set_cons_zero, Rv.d_val, Rv.d_new, Rv.sl, addO_int, subO_int, gtO_int, ltO_int, geO_int, leO_int, negO_int, intO1_int, lenO_tup, lenO_lst, listO_tup, listO_lst, tupleO_tup, tupleO_lst, max2O_int, min2O_int, tupO0, tupO1, tupO2, tupO3, tupO4, lstO0, lstO1, lstO2, lstO3, lstO4, lstO5, eqO_int, neO_int, eqO_tup, neO_tup, eqO_nil, neO_nil, call1, call2, call3, call4, call5, cres_ok, truth_bool, set_tp2, set_tp3, set_nm, set_ls2, I_len, decide_true, decide_false, Bool.not_true, Bool.not_false, inst_int, eq_self, g1, g2, l, rv, retOf_ret]
theorem mul2k {k : Nat} (hk : k < 1000000000000) : mulO (.int ((k : Nat) : Int)) (.int 2) = some (.val (.int ((k : Int) * 2))) :=
  mulO_int (Nat.lt_of_lt_of_le (by omega : ((k : Nat) : Int).natAbs < 2 ^ 40) (Nat.pow_le_pow_right (by decide) (by decide))) (Nat.lt_trans (by decide : (2 : Int).natAbs < 1000000) pw)
theorem lpw_loop {p : Int} (h : Fld p) {m : List Int} (hm : Can p m) (hne : m ≠ []) (hml : m.length < 100) (A : Option Sl) : ∀ (ds : List PyData) (k : Nat) (f s : List Int) (u : Option Sl), k < 2 ^ 39 → k < 2 ^ ds.length → Can p f → f.length < m.length → Can p s → s.length < m.length → ∃ s' k' u',
    forL (.nm 6) (seqS (ifS (M.bind (E2 eqO (var 2) (M.ofB (M.pure (.val (.int 0))))) asB) (brkS) (nextS)) (seqS (ifS (M.bind (E2 neO (E2 mulO (E2 divO (var 2) (M.ofB (M.pure (.val (.int 2))))) (M.ofB (M.pure (.val (.int 2))))) (peek 2)) asB) (asgS 4 (E2 getO (M.bind (M.consV (var 0) (M.consV (M.bind (M.consV (var 0) (M.consV (var 4) (M.consV (var 5) (M.pure [])))) (callB 3 f__law_mul)) (M.consV (var 3) (M.pure [])))) (callB 3 f__law_divide)) (M.ofB (M.pure (.val (.int 1)))))) (nextS)) (seqS (asgS 5 (E2 getO (M.bind (M.consV (var 0) (M.consV (M.bind (M.consV (var 0) (M.consV (var 5) (M.consV (var 5) (M.pure [])))) (callB 3 f__law_mul)) (M.consV (var 3) (M.pure [])))) (callB 3 f__law_divide)) (M.ofB (M.pure (.val (.int 1)))))) (asgS 2 (E2 divO (var 2) (M.ofB (M.pure (.val (.int 2))))))))) ds
      [some (.val (.int p)), A, some (.val (.int (k : Int))), some (.val (T m)), some (.val (T f)), some (.val (T s)), u] = .nx [some (.val (.int p)), A, k', some (.val (T m)), some (.val (T (pwA p m ds.length k f s))), s', u']
  | [], k, f, s, u, _, hk, _, _, _, _ => ⟨some (.val (T s)), some (.val (.int (k : Int))), u, rfl⟩
  | x :: ds, k, f, s, u, hk39, hk, hf, hfl, hs, hsl => by
    unfold forL
    have e : pwA p m (x :: ds).length k f s = if k = 0 then f else pwA p m ds.length (k / 2) (if k % 2 = 1 then rst p (pmul p f s) m else f) (rst p (pmul p s s) m) := rfl
    rw [e]
    by_cases h0 : k = 0
    · rw [if_pos h0]
      subst h0
      refine ⟨some (.val (T s)), some (.val (.int ((0 : Nat) : Int))), some (.val x), ?_⟩
      have e2 : ((0 : Nat) : Int) = 0 := rfl
      simp -implicitDefEqProofs only [bnd_ok, bnd_exc, bnd_bad, pure_ap, bind_ap, bindD_ap, lift_some, lift_none, ofB_ap, truth_ap, asB_ap, cnd_t, cnd_f, ite_ap, and_ap, or_ap, not_ap, ofBool_ap, andV_ap, orV_ap, cons_ap, consV_ap, consS_ap, E2_ap, IxN_ap, SlN_ap, SlE_ap, partR_int, part_ap, chain_ap, var_ap, sv_val, sv_own, peek_ap, pv'_val, pv'_own, pv'_brw, chk_ap, cv_some, bnS_ok, bnS_bad, bindS_ap, sq_nx, sq_ret, sq_brk, sq_cnt, sq_bad, seqS_ap, nextS_ap, brkS_ap, cntS_ap, neverS_ap, asgS_ap, retS_ap, dropS_ap, cndS_t, cndS_f, ifS_ap, par2_ap, asgT_ap, forS_ap, whS_ap, setIx_ap, List.getElem?_cons_succ, List.getElem?_cons_zero, List.set_cons_succ, List.set_cons_zero, Rv.d_val, Rv.d_new, Rv.sl, addO_int, subO_int, gtO_int, ltO_int, geO_int, leO_int, negO_int, intO1_int, lenO_tup, lenO_lst, listO_tup, listO_lst, tupleO_tup, tupleO_lst, max2O_int, min2O_int, tupO0, tupO1, tupO2, tupO3, tupO4, lstO0, lstO1, lstO2, lstO3, lstO4, lstO5, eqO_int, neO_int, eqO_tup, neO_tup, eqO_nil, neO_nil, call1, call2, call3, call4, call5, cres_ok, truth_bool, set_tp2, set_tp3, set_nm, set_ls2, I_len, decide_true, decide_false, Bool.not_true, Bool.not_false, inst_int, eq_self, e2]
    · rw [if_neg h0]
      have hp := h.b
      have e2 : ¬ ((k : Int) = 0) := by omega
      have m1 := pmul_ok hp.1 f s
      have m2 := pmul_ok hp.1 s s
      have r1 := rst_ok h m1.2.1.rd hm hne
      have r2 := rst_ok h m2.2.1.rd hm hne
      have f1 := lmul_eq hp hf.rd hs.rd (by omega) (by omega)
      have f2 := lmul_eq hp hs.rd hs.rd (by omega) (by omega)
      have g1 := ldv_eq h m1.2.1.rd hm hne (by have := m1.2.2; omega) (by omega)
      have g2 := ldv_eq h m2.2.1.rd hm hne (by have := m2.2.2; omega) (by omega)
      have q1 : rst p (pmul p f s) m = rem p (pmul p f s) m := if_neg hne
      have q2 : rst p (pmul p s s) m = rem p (pmul p s s) m := if_neg hne
      have dm := mul2k (k := k / 2) (by have : (2 : Nat) ^ 39 < 1000000000000 := by decide
                                        omega)
      have hk2 : k / 2 < 2 ^ ds.length := by rw [List.length_cons, Nat.pow_succ] at hk; omega
      by_cases hodd : k % 2 = 1
      · have e3 : ¬ (((k / 2 : Nat) : Int) * 2 = (k : Int)) := by omega
        obtain ⟨s', k', u', ih⟩ := lpw_loop h hm hne hml A ds (k / 2) (rst p (pmul p f s) m) (rst p (pmul p s s) m) (some (.val x)) (by omega) hk2 r1.2.1 r1.2.2 r2.2.1 r2.2.2
        refine ⟨s', k', u', ?_⟩
        rw [if_pos hodd]
        rw [q1, q2] at ih ⊢
        simp -implicitDefEqProofs only [bnd_ok, bnd_exc, bnd_bad, pure_ap, bind_ap, bindD_ap, lift_some, lift_none, ofB_ap, truth_ap, asB_ap, cnd_t, cnd_f, ite_ap, and_ap, or_ap, not_ap, ofBool_ap, andV_ap, orV_ap, cons_ap, consV_ap, consS_ap, E2_ap, IxN_ap, SlN_ap, SlE_ap, partR_int, part_ap, chain_ap, var_ap, sv_val, sv_own, peek_ap, pv'_val, pv'_own, pv'_brw, chk_ap, cv_some, bnS_ok, bnS_bad, bindS_ap, sq_nx, sq_ret, sq_brk, sq_cnt, sq_bad, seqS_ap, nextS_ap, brkS_ap, cntS_ap, neverS_ap, asgS_ap, retS_ap, dropS_ap, cndS_t, cndS_f, ifS_ap, par2_ap, asgT_ap, forS_ap, whS_ap, setIx_ap, List.getElem?_cons_succ, List.getElem?_cons_zero, List.set_cons_succ, List.set_cons_zero, Rv.d_val, Rv.d_new, Rv.sl, addO_int, subO_int, gtO_int, ltO_int, geO_int, leO_int, negO_int, intO1_int, lenO_tup, lenO_lst, listO_tup, listO_lst, tupleO_tup, tupleO_lst, max2O_int, min2O_int, tupO0, tupO1, tupO2, tupO3, tupO4, lstO0, lstO1, lstO2, lstO3, lstO4, lstO5, eqO_int, neO_int, eqO_tup, neO_tup, eqO_nil, neO_nil, call1, call2, call3, call4, call5, cres_ok, truth_bool, set_tp2, set_tp3, set_nm, set_ls2, I_len, decide_true, decide_false, Bool.not_true, Bool.not_false, inst_int, eq_self, e2, divO2, dm, e3, f1, g1, f2, g2, get2_1]
        exact ih
      · have e3 : ((k / 2 : Nat) : Int) * 2 = (k : Int) := by omega
        obtain ⟨s', k', u', ih⟩ := lpw_loop h hm hne hml A ds (k / 2) f (rst p (pmul p s s) m) (some (.val x)) (by omega) hk2 hf hfl r2.2.1 r2.2.2
        refine ⟨s', k', u', ?_⟩
        rw [if_neg hodd]
        rw [q2] at ih ⊢
        simp -implicitDefEqProofs only [bnd_ok, bnd_exc, bnd_bad, pure_ap, bind_ap, bindD_ap, lift_some, lift_none, ofB_ap, truth_ap, asB_ap, cnd_t, cnd_f, ite_ap, and_ap, or_ap, not_ap, ofBool_ap, andV_ap, orV_ap, cons_ap, consV_ap, consS_ap, E2_ap, IxN_ap, SlN_ap, SlE_ap, partR_int, part_ap, chain_ap, var_ap, sv_val, sv_own, peek_ap, pv'_val, pv'_own, pv'_brw, chk_ap, cv_some, bnS_ok, bnS_bad, bindS_ap, sq_nx, sq_ret, sq_brk, sq_cnt, sq_bad, seqS_ap, nextS_ap, brkS_ap, cntS_ap, neverS_ap, asgS_ap, retS_ap, dropS_ap, cndS_t, cndS_f, ifS_ap, par2_ap, asgT_ap, forS_ap, whS_ap, setIx_ap, List.getElem?_cons_succ, List.getElem?_cons_zero, List.set_cons_succ, List.set_cons_zero, Rv.d_val, Rv.d_new, Rv.sl, addO_int, subO_int, gtO_int, ltO_int, geO_int, leO_int, negO_int, intO1_int, lenO_tup, lenO_lst, listO_tup, listO_lst, tupleO_tup, tupleO_lst, max2O_int, min2O_int, tupO0, tupO1, tupO2, tupO3, tupO4, lstO0, lstO1, lstO2, lstO3, lstO4, lstO5, eqO_int, neO_int, eqO_tup, neO_tup, eqO_nil, neO_nil, call1, call2, call3, call4, call5, cres_ok, truth_bool, set_tp2, set_tp3, set_nm, set_ls2, I_len, decide_true, decide_false, Bool.not_true, Bool.not_false, inst_int, eq_self, e2, divO2, dm, e3, f2, g2, get2_1]
        exact ih
theorem lpow_eq {p : Int} (h : Fld p) {a m : List Int} {k : Nat} (ha : Can p a) (hla : a.length < 100) (hm : Can p m) (hne : m ≠ []) (hml : m.length < 100) (hk : k < 2 ^ 39) :
    f__law_power_rest [.v (.int p), .v (T a), .v (.int (k : Int)), .v (T m)] = .ok (.val (T (pm p a k m))) [] := by
  refine run_e (n := 7) (body := b__law_power_rest) (ds := [.int p, T a, .int (k : Int), T m]) ?_
  show retOf (b__law_power_rest [some (.val (.int p)), some (.val (T a)), some (.val (.int (k : Int))), some (.val (T m)), none, none, none]) = _
  have r1 := rst_ok h (can_one h).rd hm hne
  have r2 := rst_ok h ha.rd hm hne
  have g1 := ldv_eq h (a := [1]) (can_one h).rd hm hne (by simp) (by omega)
  have g1 : f__law_divide [.v (.int p), .v (.tuple [.int 1]), .v (T m)] = .ok (.val (.tuple [T (quo p [1] m), T (rem p [1] m)])) [] := g1
  have g2 := ldv_eq h ha.rd hm hne (by omega) (by omega)
  obtain ⟨s', k', u', l⟩ := lpw_loop h hm hne hml (some (.val (T a))) (rangeD1 0 40) k (rst p [1] m) (rst p a m) none hk (by rw [range_len]; exact Nat.lt_trans hk (by decide)) r1.2.1 r1.2.2 r2.2.1 r2.2.2
  rw [range_len] at l
  have q1 : rst p [1] m = rem p [1] m := if_neg hne
  have q2 : rst p a m = rem p a m := if_neg hne
  have hr : rng1 [.int 40] = M.pure (rangeD1 0 40) := rng1_int (j := 40) (by decide)
  have rv : ∀ (d : PyData) (a0 a1 a2 a3 a5 a6 : Option Sl), retV 4 [a0, a1, a2, a3, some (.val d), a5, a6] = .ret (.val d) [a0, a1, a2, a3, some (.val d), a5, a6] := fun _ _ _ _ _ _ _ => rfl
  unfold pm
  rw [q1, q2] at l ⊢
  unfold b__law_power_rest
  simp -implicitDefEqProofs only [bnd_ok, bnd_exc, bnd_bad, pure_ap, bind_ap, bindD_ap, lift_some, lift_none, ofB_ap, truth_ap, asB_ap, cnd_t, cnd_f, ite_ap, and_ap, or_ap, not_ap, ofBool_ap, andV_ap, orV_ap, cons_ap, consV_ap, consS_ap, E2_ap, IxN_ap, SlN_ap, SlE_ap, partR_int, part_ap, chain_ap, var_ap, sv_val, sv_own, peek_ap, pv'_val, pv'_own, pv'_brw, chk_ap, cv_some, bnS_ok, bnS_bad, bindS_ap, sq_nx, sq_ret, sq_brk, sq_cnt, sq_bad, seqS_ap, nextS_ap, brkS_ap, cntS_ap, neverS_ap, asgS_ap, retS_ap, dropS_ap, cndS_t, cndS_f, ifS_ap, par2_ap, asgT_ap, forS_ap, whS_ap, setIx_ap, List.getElem?_cons_succ, List.getElem?_cons_zero, List.set_cons_succ, List.set_cons_zero, Rv.d_val, Rv.d_new, Rv.sl, addO_int, subO_int, gtO_int, ltO_int, geO_int, leO_int, negO_int, intO1_int, lenO_tup, lenO_lst, listO_tup, listO_lst, tupleO_tup, tupleO_lst, max2O_int, min2O_int, tupO0, tupO1, tupO2, tupO3, tupO4, lstO0, lstO1, lstO2, lstO3, lstO4, lstO5, eqO_int, neO_int, eqO_tup, neO_tup, eqO_nil, neO_nil, call1, call2, call3, call4, call5, cres_ok, truth_bool, set_tp2, set_tp3, set_nm, set_ls2, I_len, decide_true, decide_false, Bool.not_true, Bool.not_false, inst_int, eq_self, g1, g2, get2_1, hr, l, rv, retOf_ret]
end K01

set_option Elab.async false
set_option linter.all false
set_option maxRecDepth 100000
set_option maxHeartbeats 2000000
namespace K01
open PySem PySem.Spec PyProof.Rows L2 RZ Fx PM
theorem inst_ib {i : Int} : isInstO "bool" (.int i) = some (.val (.bool false)) := by rfl
theorem inst_tt {ds : List PyData} : isInstO "tuple" (.tuple ds) = some (.val (.bool true)) := by rfl
theorem inst_tl {ds : List PyData} : isInstO "tuple" (.list ds) = some (.val (.bool false)) := by rfl
theorem isint_eq {i : Int} : f_is_integer [.v (.int i)] = .ok (.val (.bool true)) [] := by
  refine run_e (n := 1) (body := b_is_integer) (ds := [.int i]) ?_
  show retOf (b_is_integer [some (.val (.int i))]) = _
  unfold b_is_integer
  simp -implicitDefEqProofs only [bnd_ok, bnd_exc, bnd_bad, pure_ap, bind_ap, bindD_ap, lift_some, lift_none, ofB_ap, truth_ap, asB_ap, cnd_t, cnd_f, ite_ap, and_ap, or_ap, not_ap, ofBool_ap, andV_ap, orV_ap, cons_ap, consV_ap, consS_ap, E2_ap, IxN_ap, SlN_ap, SlE_ap, partR_int, part_ap, chain_ap, var_ap, sv_val, sv_own, peek_ap, pv'_val, pv'_own, pv'_brw, chk_ap, cv_some, bnS_ok, bnS_bad, bindS_ap, sq_nx, sq_ret, sq_brk, sq_cnt, sq_bad, seqS_ap, nextS_ap, brkS_ap, cntS_ap, neverS_ap, asgS_ap, retS_ap, dropS_ap, cndS_t, cndS_f, ifS_ap, par2_ap, asgT_ap, forS_ap, whS_ap, setIx_ap, List.getElem?_cons_succ, List.getElem?_cons_zero, List.set_cons_succ, List.set_cons_zero, Rv.d_val, Rv.d_new, Rv.sl, addO_int, subO_int, gtO_int, ltO_int, geO_int, leO_int, negO_int, intO1_int, lenO_tup, lenO_lst, listO_tup, listO_lst, tupleO_tup, tupleO_lst, max2O_int, min2O_int, tupO0, tupO1, tupO2, tupO3, tupO4, lstO0, lstO1, lstO2, lstO3, lstO4, lstO5, eqO_int, neO_int, eqO_tup, neO_tup, eqO_nil, neO_nil, call1, call2, call3, call4, call5, cres_ok, truth_bool, set_tp2, set_tp3, set_nm, set_ls2, I_len, decide_true, decide_false, Bool.not_true, Bool.not_false, inst_int, eq_self, inst_ib, retOf_ret]
theorem btw_eq {i a b : Int} (h : a ≤ i ∧ i ≤ b) : f_is_between [.v (.int i), .v (.int a), .v (.int b)] = .ok (.val (.bool true)) [] := by
  refine run_e (n := 3) (body := b_is_between) (ds := [.int i, .int a, .int b]) ?_
  show retOf (b_is_between [some (.val (.int i)), some (.val (.int a)), some (.val (.int b))]) = _
  unfold b_is_between
  simp -implicitDefEqProofs only [bnd_ok, bnd_exc, bnd_bad, pure_ap, bind_ap, bindD_ap, lift_some, lift_none, ofB_ap, truth_ap, asB_ap, cnd_t, cnd_f, ite_ap, and_ap, or_ap, not_ap, ofBool_ap, andV_ap, orV_ap, cons_ap, consV_ap, consS_ap, E2_ap, IxN_ap, SlN_ap, SlE_ap, partR_int, part_ap, chain_ap, var_ap, sv_val, sv_own, peek_ap, pv'_val, pv'_own, pv'_brw, chk_ap, cv_some, bnS_ok, bnS_bad, bindS_ap, sq_nx, sq_ret, sq_brk, sq_cnt, sq_bad, seqS_ap, nextS_ap, brkS_ap, cntS_ap, neverS_ap, asgS_ap, retS_ap, dropS_ap, cndS_t, cndS_f, ifS_ap, par2_ap, asgT_ap, forS_ap, whS_ap, setIx_ap, List.getElem?_cons_succ, List.getElem?_cons_zero, List.set_cons_succ, List.set_cons_zero, Rv.d_val, Rv.d_new, Rv.sl, addO_int, subO_int, gtO_int, ltO_int, geO_int, leO_int, negO_int, intO1_int, lenO_tup, lenO_lst, listO_tup, listO_lst, tupleO_tup, tupleO_lst, max2O_int, min2O_int, tupO0, tupO1, tupO2, tupO3, tupO4, lstO0, lstO1, lstO2, lstO3, lstO4, lstO5, eqO_int, neO_int, eqO_tup, neO_tup, eqO_nil, neO_nil, call1, call2, call3, call4, call5, cres_ok, truth_bool, set_tp2, set_tp3, set_nm, set_ls2, I_len, decide_true, decide_false, Bool.not_true, Bool.not_false, inst_int, eq_self, isint_eq, h.1, h.2, retOf_ret]
theorem chkf_eq {p : Int} (h : Fld p) : f_check_field [.v (.int p)] = .ok (.val .none) [] := by
  rcases h with h | h | h <;> subst h <;> kernel_rfl
theorem asBools_t : ∀ n : Nat, asBools (List.replicate n (.bool true)) = some (List.replicate n true)
  | 0 => rfl
  | n + 1 => by
    rw [List.replicate_succ]
    show (asBools (List.replicate n (.bool true))).map (true :: ·) = _
    rw [asBools_t n]; rfl
theorem all_true {L : List Int} : allO (.list (L.map fun _ => PyData.bool true)) = some (.val (.bool true)) := by
  have e : (L.map fun _ => PyData.bool true) = List.replicate L.length (.bool true) := by
    induction L with
    | nil => rfl
    | cons x L ih => rw [List.map_cons, ih]; rfl
  rw [e]
  show (asBools _).map _ = _
  rw [asBools_t]
  show some (Rv.val (.bool _)) = _
  congr 3
  induction L.length with
  | zero => rfl
  | succ n ih => rw [List.replicate_succ, List.all_cons, ih]; rfl
theorem nums_eq {p : Int} (hp : 0 < p ∧ p < 1000) {L : List Int} (hL : PM.Rd p L) (hl : L.length < 1000) : f_are_numbers [.v (.int p), .v (T L)] = .ok (.val (.bool true)) [] := by
  refine run_e (n := 3) (body := b_are_numbers) (ds := [.int p, T L]) ?_
  show retOf (b_are_numbers [some (.val (.int p)), some (.val (T L)), none]) = _
  have cm := compB_map (t := .nm 2) (me := M.bind (M.consV (var 2) (M.consV (M.pure (.val (.int 0))) (M.consV (E2 subO (var 0) (M.ofB (M.pure (.val (.int 1))))) (M.pure [])))) (callB 3 f_is_between)) (vs := [2]) (ρ := [some (.val (.int p)), some (.val (T L)), none])
    PyData.int (fun _ => .bool true) L (by omega) rfl (fun z hz => by
      have hz := hL z hz
      have b := btw_eq (i := z) (a := 0) (b := p - 1) (by omega)
      have hm : ∀ u1, M.bind (M.consV (var 2) (M.consV (M.pure (.val (.int 0))) (M.consV (E2 subO (var 0) (M.ofB (M.pure (.val (.int 1))))) (M.pure [])))) (callB 3 f_is_between) [some (.val (.int p)), u1, some (.val (.int z))] = .ok (.val (.bool true)) [some (.val (.int p)), u1, some (.val (.int z))] := fun _ => by
        simp -implicitDefEqProofs only [bnd_ok, bnd_exc, bnd_bad, pure_ap, bind_ap, bindD_ap, lift_some, lift_none, ofB_ap, truth_ap, asB_ap, cnd_t, cnd_f, ite_ap, and_ap, or_ap, not_ap, ofBool_ap, andV_ap, orV_ap, cons_ap, consV_ap, consS_ap, E2_ap, IxN_ap, SlN_ap, SlE_ap, partR_int, part_ap, chain_ap, var_ap, sv_val, sv_own, peek_ap, pv'_val, pv'_own, pv'_brw, chk_ap, cv_some, bnS_ok, bnS_bad, bindS_ap, sq_nx, sq_ret, sq_brk, sq_cnt, sq_bad, seqS_ap, nextS_ap, brkS_ap, cntS_ap, neverS_ap, asgS_ap, retS_ap, dropS_ap, cndS_t, cndS_f, ifS_ap, par2_ap, asgT_ap, forS_ap, whS_ap, setIx_ap, List.getElem?_cons_succ, List.getElem?_cons_zero, List.set_cons_succ, List.set_cons_zero, Rv.d_val, Rv.d_new, Rv.sl, addO_int, subO_int, gtO_int, ltO_int, geO_int, leO_int, negO_int, intO1_int, lenO_tup, lenO_lst, listO_tup, listO_lst, tupleO_tup, tupleO_lst, max2O_int, min2O_int, tupO0, tupO1, tupO2, tupO3, tupO4, lstO0, lstO1, lstO2, lstO3, lstO4, lstO5, eqO_int, neO_int, eqO_tup, neO_tup, eqO_nil, neO_nil, call1, call2, call3, call4, call5, cres_ok, truth_bool, set_tp2, set_tp3, set_nm, set_ls2, I_len, decide_true, decide_false, Bool.not_true, Bool.not_false, inst_int, eq_self, b]
      exact ⟨_, rfl, _, _, hm _, rfl, rfl⟩)
  unfold b_are_numbers
  simp -implicitDefEqProofs only [bnd_ok, bnd_exc, bnd_bad, pure_ap, bind_ap, bindD_ap, lift_some, lift_none, ofB_ap, truth_ap, asB_ap, cnd_t, cnd_f, ite_ap, and_ap, or_ap, not_ap, ofBool_ap, andV_ap, orV_ap, cons_ap, consV_ap, consS_ap, E2_ap, IxN_ap, SlN_ap, SlE_ap, partR_int, part_ap, chain_ap, var_ap, sv_val, sv_own, peek_ap, pv'_val, pv'_own, pv'_brw, chk_ap, cv_some, bnS_ok, bnS_bad, bindS_ap, sq_nx, sq_ret, sq_brk, sq_cnt, sq_bad, seqS_ap, nextS_ap, brkS_ap, cntS_ap, neverS_ap, asgS_ap, retS_ap, dropS_ap, cndS_t, cndS_f, ifS_ap, par2_ap, asgT_ap, forS_ap, whS_ap, setIx_ap, List.getElem?_cons_succ, List.getElem?_cons_zero, List.set_cons_succ, List.set_cons_zero, Rv.d_val, Rv.d_new, Rv.sl, addO_int, subO_int, gtO_int, ltO_int, geO_int, leO_int, negO_int, intO1_int, lenO_tup, lenO_lst, listO_tup, listO_lst, tupleO_tup, tupleO_lst, max2O_int, min2O_int, tupO0, tupO1, tupO2, tupO3, tupO4, lstO0, lstO1, lstO2, lstO3, lstO4, lstO5, eqO_int, neO_int, eqO_tup, neO_tup, eqO_nil, neO_nil, call1, call2, call3, call4, call5, cres_ok, truth_bool, set_tp2, set_tp3, set_nm, set_ls2, I_len, decide_true, decide_false, Bool.not_true, Bool.not_false, inst_int, eq_self, inst_tt, items_tup, cm, all_true, retOf_ret]
theorem ispoly_eq {p : Int} (hp : 0 < p ∧ p < 1000) {L : List Int} (hL : Can p L) {m : Int} (hm : (L.length : Int) ≤ m + 1) (hl : L.length < 1000) : f_is_poly_of [.v (.int p), .v (T L), .v (.int m)] = .ok (.val (.bool true)) [] := by
  refine run_e (n := 3) (body := b_is_poly_of) (ds := [.int p, T L, .int m]) ?_
  show retOf (b_is_poly_of [some (.val (.int p)), some (.val (T L)), some (.val (.int m))]) = _
  have nm := nums_eq hp hL.rd hl
  unfold b_is_poly_of
  by_cases hne : L = []
  · subst hne
    simp -implicitDefEqProofs only [bnd_ok, bnd_exc, bnd_bad, pure_ap, bind_ap, bindD_ap, lift_some, lift_none, ofB_ap, truth_ap, asB_ap, cnd_t, cnd_f, ite_ap, and_ap, or_ap, not_ap, ofBool_ap, andV_ap, orV_ap, cons_ap, consV_ap, consS_ap, E2_ap, IxN_ap, SlN_ap, SlE_ap, partR_int, part_ap, chain_ap, var_ap, sv_val, sv_own, peek_ap, pv'_val, pv'_own, pv'_brw, chk_ap, cv_some, bnS_ok, bnS_bad, bindS_ap, sq_nx, sq_ret, sq_brk, sq_cnt, sq_bad, seqS_ap, nextS_ap, brkS_ap, cntS_ap, neverS_ap, asgS_ap, retS_ap, dropS_ap, cndS_t, cndS_f, ifS_ap, par2_ap, asgT_ap, forS_ap, whS_ap, setIx_ap, List.getElem?_cons_succ, List.getElem?_cons_zero, List.set_cons_succ, List.set_cons_zero, Rv.d_val, Rv.d_new, Rv.sl, addO_int, subO_int, gtO_int, ltO_int, geO_int, leO_int, negO_int, intO1_int, lenO_tup, lenO_lst, listO_tup, listO_lst, tupleO_tup, tupleO_lst, max2O_int, min2O_int, tupO0, tupO1, tupO2, tupO3, tupO4, lstO0, lstO1, lstO2, lstO3, lstO4, lstO5, eqO_int, neO_int, eqO_tup, neO_tup, eqO_nil, neO_nil, call1, call2, call3, call4, call5, cres_ok, truth_bool, set_tp2, set_tp3, set_nm, set_ls2, I_len, decide_true, decide_false, Bool.not_true, Bool.not_false, inst_int, eq_self, nm, hm, retOf_ret]
  · have g := getI_last hne
    have l := last_ne L hL.tr hne
    simp -implicitDefEqProofs only [bnd_ok, bnd_exc, bnd_bad, pure_ap, bind_ap, bindD_ap, lift_some, lift_none, ofB_ap, truth_ap, asB_ap, cnd_t, cnd_f, ite_ap, and_ap, or_ap, not_ap, ofBool_ap, andV_ap, orV_ap, cons_ap, consV_ap, consS_ap, E2_ap, IxN_ap, SlN_ap, SlE_ap, partR_int, part_ap, chain_ap, var_ap, sv_val, sv_own, peek_ap, pv'_val, pv'_own, pv'_brw, chk_ap, cv_some, bnS_ok, bnS_bad, bindS_ap, sq_nx, sq_ret, sq_brk, sq_cnt, sq_bad, seqS_ap, nextS_ap, brkS_ap, cntS_ap, neverS_ap, asgS_ap, retS_ap, dropS_ap, cndS_t, cndS_f, ifS_ap, par2_ap, asgT_ap, forS_ap, whS_ap, setIx_ap, List.getElem?_cons_succ, List.getElem?_cons_zero, List.set_cons_succ, List.set_cons_zero, Rv.d_val, Rv.d_new, Rv.sl, addO_int, subO_int, gtO_int, ltO_int, geO_int, leO_int, negO_int, intO1_int, lenO_tup, lenO_lst, listO_tup, listO_lst, tupleO_tup, tupleO_lst, max2O_int, min2O_int, tupO0, tupO1, tupO2, tupO3, tupO4, lstO0, lstO1, lstO2, lstO3, lstO4, lstO5, eqO_int, neO_int, eqO_tup, neO_tup, eqO_nil, neO_nil, call1, call2, call3, call4, call5, cres_ok, truth_bool, set_tp2, set_tp3, set_nm, set_ls2, I_len, decide_true, decide_false, Bool.not_true, Bool.not_false, inst_int, eq_self, nm, hm, hne, g, l, retOf_ret]
theorem chkp_eq {p : Int} (hp : 0 < p ∧ p < 1000) {L : List Int} (hL : Can p L) (hl : L.length ≤ 61) : f_check_poly [.v (.int p), .v (T L)] = .ok (.val .none) [] := by
  refine run_n (n := 2) (body := b_check_poly) (ds := [.int p, T L]) ?_
  show nxOf (b_check_poly [some (.val (.int p)), some (.val (T L))]) = _
  have e : k_MOST_DEGREE = .int 60 := rfl
  have h := ispoly_eq hp hL (m := 60) (by omega) (by omega)
  unfold b_check_poly
  simp -implicitDefEqProofs only [bnd_ok, bnd_exc, bnd_bad, pure_ap, bind_ap, bindD_ap, lift_some, lift_none, ofB_ap, truth_ap, asB_ap, cnd_t, cnd_f, ite_ap, and_ap, or_ap, not_ap, ofBool_ap, andV_ap, orV_ap, cons_ap, consV_ap, consS_ap, E2_ap, IxN_ap, SlN_ap, SlE_ap, partR_int, part_ap, chain_ap, var_ap, sv_val, sv_own, peek_ap, pv'_val, pv'_own, pv'_brw, chk_ap, cv_some, bnS_ok, bnS_bad, bindS_ap, sq_nx, sq_ret, sq_brk, sq_cnt, sq_bad, seqS_ap, nextS_ap, brkS_ap, cntS_ap, neverS_ap, asgS_ap, retS_ap, dropS_ap, cndS_t, cndS_f, ifS_ap, par2_ap, asgT_ap, forS_ap, whS_ap, setIx_ap, List.getElem?_cons_succ, List.getElem?_cons_zero, List.set_cons_succ, List.set_cons_zero, Rv.d_val, Rv.d_new, Rv.sl, addO_int, subO_int, gtO_int, ltO_int, geO_int, leO_int, negO_int, intO1_int, lenO_tup, lenO_lst, listO_tup, listO_lst, tupleO_tup, tupleO_lst, max2O_int, min2O_int, tupO0, tupO1, tupO2, tupO3, tupO4, lstO0, lstO1, lstO2, lstO3, lstO4, lstO5, eqO_int, neO_int, eqO_tup, neO_tup, eqO_nil, neO_nil, call1, call2, call3, call4, call5, cres_ok, truth_bool, set_tp2, set_tp3, set_nm, set_ls2, I_len, decide_true, decide_false, Bool.not_true, Bool.not_false, inst_int, eq_self, e, h, nxOf_nx]
theorem chk2_eq {p : Int} (h : Fld p) {a b : List Int} (ha : Can p a) (hb : Can p b) (hla : a.length ≤ 61) (hlb : b.length ≤ 61) : f_check_two [.v (.int p), .v (T a), .v (T b)] = .ok (.val .none) [] := by
  refine run_n (n := 3) (body := b_check_two) (ds := [.int p, T a, T b]) ?_
  show nxOf (b_check_two [some (.val (.int p)), some (.val (T a)), some (.val (T b))]) = _
  have c := chkf_eq h
  have c1 := chkp_eq h.b ha hla
  have c2 := chkp_eq h.b hb hlb
  unfold b_check_two
  simp -implicitDefEqProofs only [bnd_ok, bnd_exc, bnd_bad, pure_ap, bind_ap, bindD_ap, lift_some, lift_none, ofB_ap, truth_ap, asB_ap, cnd_t, cnd_f, ite_ap, and_ap, or_ap, not_ap, ofBool_ap, andV_ap, orV_ap, cons_ap, consV_ap, consS_ap, E2_ap, IxN_ap, SlN_ap, SlE_ap, partR_int, part_ap, chain_ap, var_ap, sv_val, sv_own, peek_ap, pv'_val, pv'_own, pv'_brw, chk_ap, cv_some, bnS_ok, bnS_bad, bindS_ap, sq_nx, sq_ret, sq_brk, sq_cnt, sq_bad, seqS_ap, nextS_ap, brkS_ap, cntS_ap, neverS_ap, asgS_ap, retS_ap, dropS_ap, cndS_t, cndS_f, ifS_ap, par2_ap, asgT_ap, forS_ap, whS_ap, setIx_ap, List.getElem?_cons_succ, List.getElem?_cons_zero, List.set_cons_succ, List.set_cons_zero, Rv.d_val, Rv.d_new, Rv.sl, addO_int, subO_int, gtO_int, ltO_int, geO_int, leO_int, negO_int, intO1_int, lenO_tup, lenO_lst, listO_tup, listO_lst, tupleO_tup, tupleO_lst, max2O_int, min2O_int, tupO0, tupO1, tupO2, tupO3, tupO4, lstO0, lstO1, lstO2, lstO3, lstO4, lstO5, eqO_int, neO_int, eqO_tup, neO_tup, eqO_nil, neO_nil, call1, call2, call3, call4, call5, cres_ok, truth_bool, set_tp2, set_tp3, set_nm, set_ls2, I_len, decide_true, decide_false, Bool.not_true, Bool.not_false, inst_int, eq_self, c, c1, c2, nxOf_nx]
theorem times_eq {p : Int} (h : Fld p) {a b : List Int} (ha : Can p a) (hb : Can p b) (hl : a.length + b.length ≤ 61) : f_times [.v (.int p), .v (T a), .v (T b)] = .ok (.val (T (pmul p a b))) [] := by
  refine run_e (n := 4) (body := b_times) (ds := [.int p, T a, T b]) ?_
  show retOf (b_times [some (.val (.int p)), some (.val (T a)), some (.val (T b)), none]) = _
  have c := chk2_eq h ha hb (by omega) (by omega)
  have m := mul_eq h.b ha.rd hb.rd (by omega) (by omega)
  have k := (pmul_ok h.b.1 a b).2.2
  have e : k_MOST_DEGREE = .int 60 := rfl
  have e2 : ¬ ((60 : Int) + 1 < ((pmul p a b).length : Int)) := by omega
  have rv : ∀ (d : PyData) (a0 a1 a2 : Option Sl), retV 3 [a0, a1, a2, some (.val d)] = .ret (.val d) [a0, a1, a2, some (.val d)] := fun _ _ _ _ => rfl
  unfold b_times
  simp -implicitDefEqProofs only [bnd_ok, bnd_exc, bnd_bad, pure_ap, bind_ap, bindD_ap, lift_some, lift_none, ofB_ap, truth_ap, asB_ap, cnd_t, cnd_f, ite_ap, and_ap, or_ap, not_ap, ofBool_ap, andV_ap, orV_ap, cons_ap, consV_ap, consS_ap, E2_ap, IxN_ap, SlN_ap, SlE_ap, partR_int, part_ap, chain_ap, var_ap, sv_val, sv_own, peek_ap, pv'_val, pv'_own, pv'_brw, chk_ap, cv_some, bnS_ok, bnS_bad, bindS_ap, sq_nx, sq_ret, sq_brk, sq_cnt, sq_bad, seqS_ap, nextS_ap, brkS_ap, cntS_ap, neverS_ap, asgS_ap, retS_ap, dropS_ap, cndS_t, cndS_f, ifS_ap, par2_ap, asgT_ap, forS_ap, whS_ap, setIx_ap, List.getElem?_cons_succ, List.getElem?_cons_zero, List.set_cons_succ, List.set_cons_zero, Rv.d_val, Rv.d_new, Rv.sl, addO_int, subO_int, gtO_int, ltO_int, geO_int, leO_int, negO_int, intO1_int, lenO_tup, lenO_lst, listO_tup, listO_lst, tupleO_tup, tupleO_lst, max2O_int, min2O_int, tupO0, tupO1, tupO2, tupO3, tupO4, lstO0, lstO1, lstO2, lstO3, lstO4, lstO5, eqO_int, neO_int, eqO_tup, neO_tup, eqO_nil, neO_nil, call1, call2, call3, call4, call5, cres_ok, truth_bool, set_tp2, set_tp3, set_nm, set_ls2, I_len, decide_true, decide_false, Bool.not_true, Bool.not_false, inst_int, eq_self, c, m, e, e2, rv, retOf_ret]
theorem divided_eq {p : Int} (h : Fld p) {a b : List Int} (ha : Can p a) (hb : Can p b) (hne : b ≠ []) (hla : a.length ≤ 61) (hlb : b.length ≤ 61) : f_divided [.v (.int p), .v (T a), .v (T b)] = .ok (.val (.tuple [T (quo p a b), T (rem p a b)])) [] := by
  refine run_e (n := 3) (body := b_divided) (ds := [.int p, T a, T b]) ?_
  show retOf (b_divided [some (.val (.int p)), some (.val (T a)), some (.val (T b))]) = _
  have c := chk2_eq h ha hb (by omega) (by omega)
  have m := dv_eq h ha.rd hb hne (by omega) (by omega)
  unfold b_divided
  simp -implicitDefEqProofs only [bnd_ok, bnd_exc, bnd_bad, pure_ap, bind_ap, bindD_ap, lift_some, lift_none, ofB_ap, truth_ap, asB_ap, cnd_t, cnd_f, ite_ap, and_ap, or_ap, not_ap, ofBool_ap, andV_ap, orV_ap, cons_ap, consV_ap, consS_ap, E2_ap, IxN_ap, SlN_ap, SlE_ap, partR_int, part_ap, chain_ap, var_ap, sv_val, sv_own, peek_ap, pv'_val, pv'_own, pv'_brw, chk_ap, cv_some, bnS_ok, bnS_bad, bindS_ap, sq_nx, sq_ret, sq_brk, sq_cnt, sq_bad, seqS_ap, nextS_ap, brkS_ap, cntS_ap, neverS_ap, asgS_ap, retS_ap, dropS_ap, cndS_t, cndS_f, ifS_ap, par2_ap, asgT_ap, forS_ap, whS_ap, setIx_ap, List.getElem?_cons_succ, List.getElem?_cons_zero, List.set_cons_succ, List.set_cons_zero, Rv.d_val, Rv.d_new, Rv.sl, addO_int, subO_int, gtO_int, ltO_int, geO_int, leO_int, negO_int, intO1_int, lenO_tup, lenO_lst, listO_tup, listO_lst, tupleO_tup, tupleO_lst, max2O_int, min2O_int, tupO0, tupO1, tupO2, tupO3, tupO4, lstO0, lstO1, lstO2, lstO3, lstO4, lstO5, eqO_int, neO_int, eqO_tup, neO_tup, eqO_nil, neO_nil, call1, call2, call3, call4, call5, cres_ok, truth_bool, set_tp2, set_tp3, set_nm, set_ls2, I_len, decide_true, decide_false, Bool.not_true, Bool.not_false, inst_int, eq_self, c, hne, m, retOf_ret]
theorem common_eq {p : Int} (h : Fld p) {a b : List Int} (ha : Can p a) (hb : Can p b) (hla : a.length ≤ 61) (hlb : b.length ≤ 61) : f_common [.v (.int p), .v (T a), .v (T b)] = .ok (.val (.tuple [T (mon p (gcd p a b)), T (comS p a b), T (comT p a b)])) [] := by
  refine run_e (n := 3) (body := b_common) (ds := [.int p, T a, T b]) ?_
  show retOf (b_common [some (.val (.int p)), some (.val (T a)), some (.val (T b))]) = _
  have c := chk2_eq h ha hb (by omega) (by omega)
  have m := com_eq h ha hb (by omega) (by omega)
  unfold b_common
  simp -implicitDefEqProofs only [bnd_ok, bnd_exc, bnd_bad, pure_ap, bind_ap, bindD_ap, lift_some, lift_none, ofB_ap, truth_ap, asB_ap, cnd_t, cnd_f, ite_ap, and_ap, or_ap, not_ap, ofBool_ap, andV_ap, orV_ap, cons_ap, consV_ap, consS_ap, E2_ap, IxN_ap, SlN_ap, SlE_ap, partR_int, part_ap, chain_ap, var_ap, sv_val, sv_own, peek_ap, pv'_val, pv'_own, pv'_brw, chk_ap, cv_some, bnS_ok, bnS_bad, bindS_ap, sq_nx, sq_ret, sq_brk, sq_cnt, sq_bad, seqS_ap, nextS_ap, brkS_ap, cntS_ap, neverS_ap, asgS_ap, retS_ap, dropS_ap, cndS_t, cndS_f, ifS_ap, par2_ap, asgT_ap, forS_ap, whS_ap, setIx_ap, List.getElem?_cons_succ, List.getElem?_cons_zero, List.set_cons_succ, List.set_cons_zero, Rv.d_val, Rv.d_new, Rv.sl, addO_int, subO_int, gtO_int, ltO_int, geO_int, leO_int, negO_int, intO1_int, lenO_tup, lenO_lst, listO_tup, listO_lst, tupleO_tup, tupleO_lst, max2O_int, min2O_int, tupO0, tupO1, tupO2, tupO3, tupO4, lstO0, lstO1, lstO2, lstO3, lstO4, lstO5, eqO_int, neO_int, eqO_tup, neO_tup, eqO_nil, neO_nil, call1, call2, call3, call4, call5, cres_ok, truth_bool, set_tp2, set_tp3, set_nm, set_ls2, I_len, decide_true, decide_false, Bool.not_true, Bool.not_false, inst_int, eq_self, c, m, retOf_ret]
theorem prest_eq {p : Int} (h : Fld p) {a m : List Int} {k : Nat} (ha : Can p a) (hla : a.length ≤ 61) (hm : Can p m) (hne : m ≠ []) (hml : m.length ≤ 61) (hk : k ≤ 999999999) :
    f_power_rest [.v (.int p), .v (T a), .v (.int (k : Int)), .v (T m)] = .ok (.val (T (pm p a k m))) [] := by
  refine run_e (n := 4) (body := b_power_rest) (ds := [.int p, T a, .int (k : Int), T m]) ?_
  show retOf (b_power_rest [some (.val (.int p)), some (.val (T a)), some (.val (.int (k : Int))), some (.val (T m))]) = _
  have c := chkf_eq h
  have c1 := chkp_eq h.b ha hla
  have c2 := chkp_eq h.b hm hml
  have e : k_GREATEST_MANY = .int 999999999 := rfl
  have b := btw_eq (i := (k : Int)) (a := 0) (b := 999999999) (by omega)
  have w := pow_eq h ha (by omega) hm hne (by omega) (k := k) (Nat.lt_of_le_of_lt hk (by decide))
  unfold b_power_rest
  simp -implicitDefEqProofs only [bnd_ok, bnd_exc, bnd_bad, pure_ap, bind_ap, bindD_ap, lift_some, lift_none, ofB_ap, truth_ap, asB_ap, cnd_t, cnd_f, ite_ap, and_ap, or_ap, not_ap, ofBool_ap, andV_ap, orV_ap, cons_ap, consV_ap, consS_ap, E2_ap, IxN_ap, SlN_ap, SlE_ap, partR_int, part_ap, chain_ap, var_ap, sv_val, sv_own, peek_ap, pv'_val, pv'_own, pv'_brw, chk_ap, cv_some, bnS_ok, bnS_bad, bindS_ap, sq_nx, sq_ret, sq_brk, sq_cnt, sq_bad, seqS_ap, nextS_ap, brkS_ap, cntS_ap, neverS_ap, asgS_ap, retS_ap, dropS_ap, cndS_t, cndS_f, ifS_ap, par2_ap, asgT_ap, forS_ap, whS_ap, setIx_ap, List.getElem?_cons_succ, List.getElem?_cons_zero, List.set_cons_succ, List.set_cons_zero, Rv.d_val, Rv.d_new, Rv.sl, addO_int, subO_int, gtO_int, ltO_int, geO_int, leO_int, negO_int, intO1_int, lenO_tup, lenO_lst, listO_tup, listO_lst, tupleO_tup, tupleO_lst, max2O_int, min2O_int, tupO0, tupO1, tupO2, tupO3, tupO4, lstO0, lstO1, lstO2, lstO3, lstO4, lstO5, eqO_int, neO_int, eqO_tup, neO_tup, eqO_nil, neO_nil, call1, call2, call3, call4, call5, cres_ok, truth_bool, set_tp2, set_tp3, set_nm, set_ls2, I_len, decide_true, decide_false, Bool.not_true, Bool.not_false, inst_int, eq_self, c, c1, c2, e, b, hne, w, retOf_ret]
/-! ### papers -/
def goodB (p : Int) (a b x y z : List Int) : Bool := decide (x = mon p (gcd p a b)) && decide (padd p 1 (pmul p y a) (pmul p z b) = x)
theorem three (p : Int) (hp : 0 < p ∧ p < 1000) {x y z : List Int} (hx : Can p x) (hy : Can p y) (hz : Can p z) (hlx : x.length ≤ 61) (hly : y.length ≤ 61) (hlz : z.length ≤ 61) (A B V : Option Sl) (u : Option Sl) :
    compB (.nm 4) (M.pure true) (M.bind (M.consV (var 0) (M.consV (var 4) (M.consV (M.pure (.val k_MOST_DEGREE)) (M.pure [])))) (callB 3 f_is_poly_of)) [4] [T x, T y, T z] [some (.val (.int p)), A, B, V, none, u] = .ok (.new [.bool true, .bool true, .bool true]) [some (.val (.int p)), A, B, V, none, u] := by
  refine compB_map (g := T) (fun _ => .bool true) [x, y, z] (by simp) rfl (fun w hw => ?_)
  have hw : Can p w ∧ w.length ≤ 61 := by
    simp only [List.mem_cons, List.not_mem_nil, or_false] at hw
    rcases hw with h | h | h <;> subst h
    · exact ⟨hx, hlx⟩
    · exact ⟨hy, hly⟩
    · exact ⟨hz, hlz⟩
  have e : k_MOST_DEGREE = .int 60 := rfl
  have b := ispoly_eq hp hw.1 (m := 60) (by have := hw.2; omega) (by have := hw.2; omega)
  have hm : ∀ u1 u2 u3 u4, M.bind (M.consV (var 0) (M.consV (var 4) (M.consV (M.pure (.val k_MOST_DEGREE)) (M.pure [])))) (callB 3 f_is_poly_of) [some (.val (.int p)), u1, u2, u3, some (.val (T w)), u4] = .ok (.val (.bool true)) [some (.val (.int p)), u1, u2, u3, some (.val (T w)), u4] := fun _ _ _ _ => by
    simp -implicitDefEqProofs only [bnd_ok, bnd_exc, bnd_bad, pure_ap, bind_ap, bindD_ap, lift_some, lift_none, ofB_ap, truth_ap, asB_ap, cnd_t, cnd_f, ite_ap, and_ap, or_ap, not_ap, ofBool_ap, andV_ap, orV_ap, cons_ap, consV_ap, consS_ap, E2_ap, IxN_ap, SlN_ap, SlE_ap, partR_int, part_ap, chain_ap, var_ap, sv_val, sv_own, peek_ap, pv'_val, pv'_own, pv'_brw, chk_ap, cv_some, bnS_ok, bnS_bad, bindS_ap, sq_nx, sq_ret, sq_brk, sq_cnt, sq_bad, seqS_ap, nextS_ap, brkS_ap, cntS_ap, neverS_ap, asgS_ap, retS_ap, dropS_ap, cndS_t, cndS_f, ifS_ap, par2_ap, asgT_ap, forS_ap, whS_ap, setIx_ap, List.getElem?_cons_succ, List.getElem?_cons_zero, List.set_cons_succ, List.set_cons_zero, Rv.d_val, Rv.d_new, Rv.sl, addO_int, subO_int, gtO_int, ltO_int, geO_int, leO_int, negO_int, intO1_int, lenO_tup, lenO_lst, listO_tup, listO_lst, tupleO_tup, tupleO_lst, max2O_int, min2O_int, tupO0, tupO1, tupO2, tupO3, tupO4, lstO0, lstO1, lstO2, lstO3, lstO4, lstO5, eqO_int, neO_int, eqO_tup, neO_tup, eqO_nil, neO_nil, call1, call2, call3, call4, call5, cres_ok, truth_bool, set_tp2, set_tp3, set_nm, set_ls2, I_len, decide_true, decide_false, Bool.not_true, Bool.not_false, inst_int, eq_self, e, b]
  exact ⟨_, rfl, _, _, hm _ _ _ _, rfl, rfl⟩
theorem shows_eq {p : Int} (h : Fld p) {a b x y z : List Int} (ha : Can p a) (hb : Can p b) (hla : a.length ≤ 61) (hlb : b.length ≤ 61) (hx : Can p x) (hy : Can p y) (hz : Can p z) (hlx : x.length ≤ 61) (hly : y.length ≤ 61) (hlz : z.length ≤ 61) :
    f_shows_common [.v (.int p), .v (T a), .v (T b), .v (.tuple [T x, T y, T z])] = .ok (.val (.bool (goodB p a b x y z))) [] := by
  refine run_e (n := 6) (body := b_shows_common) (ds := [.int p, T a, T b, .tuple [T x, T y, T z]]) ?_
  show retOf (b_shows_common [some (.val (.int p)), some (.val (T a)), some (.val (T b)), some (.val (.tuple [T x, T y, T z])), none, none]) = _
  have hp := h.b
  have c := chk2_eq h ha hb hla hlb
  have t := three p hp hx hy hz hlx hly hlz (some (.val (T a))) (some (.val (T b))) (some (.val (.tuple [T x, T y, T z]))) none
  have m1 := mul_eq hp hy.rd ha.rd (by omega) (by omega)
  have m2 := mul_eq hp hz.rd hb.rd (by omega) (by omega)
  have k1 := pmul_ok hp.1 y a
  have k2 := pmul_ok hp.1 z b
  have s := add_eq hp k1.2.1.rd k2.2.1.rd (by have := k1.2.2; omega) (by have := k2.2.2; omega)
  have d := dvo_eq h ha hb (by omega) (by omega)
  have al : allO (.list [.bool true, .bool true, .bool true]) = some (.val (.bool true)) := rfl
  have l3 : (([T x, T y, T z] : List PyData).length : Int) = 3 := rfl
  unfold b_shows_common goodB
  by_cases hxe : x = mon p (gcd p a b)
  · subst hxe
    simp -implicitDefEqProofs only [bnd_ok, bnd_exc, bnd_bad, pure_ap, bind_ap, bindD_ap, lift_some, lift_none, ofB_ap, truth_ap, asB_ap, cnd_t, cnd_f, ite_ap, and_ap, or_ap, not_ap, ofBool_ap, andV_ap, orV_ap, cons_ap, consV_ap, consS_ap, E2_ap, IxN_ap, SlN_ap, SlE_ap, partR_int, part_ap, chain_ap, var_ap, sv_val, sv_own, peek_ap, pv'_val, pv'_own, pv'_brw, chk_ap, cv_some, bnS_ok, bnS_bad, bindS_ap, sq_nx, sq_ret, sq_brk, sq_cnt, sq_bad, seqS_ap, nextS_ap, brkS_ap, cntS_ap, neverS_ap, asgS_ap, retS_ap, dropS_ap, cndS_t, cndS_f, ifS_ap, par2_ap, asgT_ap, forS_ap, whS_ap, setIx_ap, List.getElem?_cons_succ, List.getElem?_cons_zero, List.set_cons_succ, List.set_cons_zero, Rv.d_val, Rv.d_new, Rv.sl, addO_int, subO_int, gtO_int, ltO_int, geO_int, leO_int, negO_int, intO1_int, lenO_tup, lenO_lst, listO_tup, listO_lst, tupleO_tup, tupleO_lst, max2O_int, min2O_int, tupO0, tupO1, tupO2, tupO3, tupO4, lstO0, lstO1, lstO2, lstO3, lstO4, lstO5, eqO_int, neO_int, eqO_tup, neO_tup, eqO_nil, neO_nil, call1, call2, call3, call4, call5, cres_ok, truth_bool, set_tp2, set_tp3, set_nm, set_ls2, I_len, decide_true, decide_false, Bool.not_true, Bool.not_false, inst_int, eq_self, c, inst_tt, l3, items_tup, t, al, get3_0, get3_1, get3_2, m1, m2, s, d, retOf_ret, Bool.true_and]
  · simp -implicitDefEqProofs only [bnd_ok, bnd_exc, bnd_bad, pure_ap, bind_ap, bindD_ap, lift_some, lift_none, ofB_ap, truth_ap, asB_ap, cnd_t, cnd_f, ite_ap, and_ap, or_ap, not_ap, ofBool_ap, andV_ap, orV_ap, cons_ap, consV_ap, consS_ap, E2_ap, IxN_ap, SlN_ap, SlE_ap, partR_int, part_ap, chain_ap, var_ap, sv_val, sv_own, peek_ap, pv'_val, pv'_own, pv'_brw, chk_ap, cv_some, bnS_ok, bnS_bad, bindS_ap, sq_nx, sq_ret, sq_brk, sq_cnt, sq_bad, seqS_ap, nextS_ap, brkS_ap, cntS_ap, neverS_ap, asgS_ap, retS_ap, dropS_ap, cndS_t, cndS_f, ifS_ap, par2_ap, asgT_ap, forS_ap, whS_ap, setIx_ap, List.getElem?_cons_succ, List.getElem?_cons_zero, List.set_cons_succ, List.set_cons_zero, Rv.d_val, Rv.d_new, Rv.sl, addO_int, subO_int, gtO_int, ltO_int, geO_int, leO_int, negO_int, intO1_int, lenO_tup, lenO_lst, listO_tup, listO_lst, tupleO_tup, tupleO_lst, max2O_int, min2O_int, tupO0, tupO1, tupO2, tupO3, tupO4, lstO0, lstO1, lstO2, lstO3, lstO4, lstO5, eqO_int, neO_int, eqO_tup, neO_tup, eqO_nil, neO_nil, call1, call2, call3, call4, call5, cres_ok, truth_bool, set_tp2, set_tp3, set_nm, set_ls2, I_len, decide_true, decide_false, Bool.not_true, Bool.not_false, inst_int, eq_self, c, inst_tt, l3, items_tup, t, al, get3_0, get3_1, get3_2, m1, m2, s, d, hxe, retOf_ret, Bool.false_and]
theorem makes_eq {p : Int} (h : Fld p) {a b x y z : List Int} (ha : Can p a) (hb : Can p b) (hla : a.length ≤ 61) (hlb : b.length ≤ 61) (hx : Can p x) (hy : Can p y) (hz : Can p z) (hlx : x.length ≤ 61) (hly : y.length ≤ 61) (hlz : z.length ≤ 61) :
    f__law_makes [.v (.int p), .v (T a), .v (T b), .v (.tuple [T x, T y, T z])] = .ok (.val (.bool (goodB p a b x y z))) [] := by
  refine run_e (n := 5) (body := b__law_makes) (ds := [.int p, T a, T b, .tuple [T x, T y, T z]]) ?_
  show retOf (b__law_makes [some (.val (.int p)), some (.val (T a)), some (.val (T b)), some (.val (.tuple [T x, T y, T z])), none]) = _
  have hp := h.b
  have m1 := lmul_eq hp hy.rd ha.rd (by omega) (by omega)
  have m2 := lmul_eq hp hz.rd hb.rd (by omega) (by omega)
  have k1 := pmul_ok hp.1 y a
  have k2 := pmul_ok hp.1 z b
  have s := lsum_eq (t := 1) hp (by decide) k1.2.1.rd k2.2.1.rd (by have := k1.2.2; omega) (by have := k2.2.2; omega)
  have d := lgcd_eq h ha hb (by omega) (by omega)
  have l3 : (([T x, T y, T z] : List PyData).length : Int) = 3 := rfl
  unfold b__law_makes goodB
  by_cases hxe : x = mon p (gcd p a b)
  · subst hxe
    simp -implicitDefEqProofs only [bnd_ok, bnd_exc, bnd_bad, pure_ap, bind_ap, bindD_ap, lift_some, lift_none, ofB_ap, truth_ap, asB_ap, cnd_t, cnd_f, ite_ap, and_ap, or_ap, not_ap, ofBool_ap, andV_ap, orV_ap, cons_ap, consV_ap, consS_ap, E2_ap, IxN_ap, SlN_ap, SlE_ap, partR_int, part_ap, chain_ap, var_ap, sv_val, sv_own, peek_ap, pv'_val, pv'_own, pv'_brw, chk_ap, cv_some, bnS_ok, bnS_bad, bindS_ap, sq_nx, sq_ret, sq_brk, sq_cnt, sq_bad, seqS_ap, nextS_ap, brkS_ap, cntS_ap, neverS_ap, asgS_ap, retS_ap, dropS_ap, cndS_t, cndS_f, ifS_ap, par2_ap, asgT_ap, forS_ap, whS_ap, setIx_ap, List.getElem?_cons_succ, List.getElem?_cons_zero, List.set_cons_succ, List.set_cons_zero, Rv.d_val, Rv.d_new, Rv.sl, addO_int, subO_int, gtO_int, ltO_int, geO_int, leO_int, negO_int, intO1_int, lenO_tup, lenO_lst, listO_tup, listO_lst, tupleO_tup, tupleO_lst, max2O_int, min2O_int, tupO0, tupO1, tupO2, tupO3, tupO4, lstO0, lstO1, lstO2, lstO3, lstO4, lstO5, eqO_int, neO_int, eqO_tup, neO_tup, eqO_nil, neO_nil, call1, call2, call3, call4, call5, cres_ok, truth_bool, set_tp2, set_tp3, set_nm, set_ls2, I_len, decide_true, decide_false, Bool.not_true, Bool.not_false, inst_int, eq_self, inst_tt, l3, get3_0, get3_1, get3_2, m1, m2, s, d, retOf_ret, Bool.true_and]
  · simp -implicitDefEqProofs only [bnd_ok, bnd_exc, bnd_bad, pure_ap, bind_ap, bindD_ap, lift_some, lift_none, ofB_ap, truth_ap, asB_ap, cnd_t, cnd_f, ite_ap, and_ap, or_ap, not_ap, ofBool_ap, andV_ap, orV_ap, cons_ap, consV_ap, consS_ap, E2_ap, IxN_ap, SlN_ap, SlE_ap, partR_int, part_ap, chain_ap, var_ap, sv_val, sv_own, peek_ap, pv'_val, pv'_own, pv'_brw, chk_ap, cv_some, bnS_ok, bnS_bad, bindS_ap, sq_nx, sq_ret, sq_brk, sq_cnt, sq_bad, seqS_ap, nextS_ap, brkS_ap, cntS_ap, neverS_ap, asgS_ap, retS_ap, dropS_ap, cndS_t, cndS_f, ifS_ap, par2_ap, asgT_ap, forS_ap, whS_ap, setIx_ap, List.getElem?_cons_succ, List.getElem?_cons_zero, List.set_cons_succ, List.set_cons_zero, Rv.d_val, Rv.d_new, Rv.sl, addO_int, subO_int, gtO_int, ltO_int, geO_int, leO_int, negO_int, intO1_int, lenO_tup, lenO_lst, listO_tup, listO_lst, tupleO_tup, tupleO_lst, max2O_int, min2O_int, tupO0, tupO1, tupO2, tupO3, tupO4, lstO0, lstO1, lstO2, lstO3, lstO4, lstO5, eqO_int, neO_int, eqO_tup, neO_tup, eqO_nil, neO_nil, call1, call2, call3, call4, call5, cres_ok, truth_bool, set_tp2, set_tp3, set_nm, set_ls2, I_len, decide_true, decide_false, Bool.not_true, Bool.not_false, inst_int, eq_self, inst_tt, l3, get3_0, get3_1, get3_2, m1, m2, s, d, hxe, retOf_ret, Bool.false_and]
theorem shows_list {p : Int} (h : Fld p) {a b : List Int} {ds : List PyData} (ha : Can p a) (hb : Can p b) (hla : a.length ≤ 61) (hlb : b.length ≤ 61) :
    f_shows_common [.v (.int p), .v (T a), .v (T b), .v (.list ds)] = .ok (.val (.bool false)) [] := by
  refine run_e (n := 6) (body := b_shows_common) (ds := [.int p, T a, T b, .list ds]) ?_
  show retOf (b_shows_common [some (.val (.int p)), some (.val (T a)), some (.val (T b)), some (.val (.list ds)), none, none]) = _
  have c := chk2_eq h ha hb hla hlb
  unfold b_shows_common
  simp -implicitDefEqProofs only [bnd_ok, bnd_exc, bnd_bad, pure_ap, bind_ap, bindD_ap, lift_some, lift_none, ofB_ap, truth_ap, asB_ap, cnd_t, cnd_f, ite_ap, and_ap, or_ap, not_ap, ofBool_ap, andV_ap, orV_ap, cons_ap, consV_ap, consS_ap, E2_ap, IxN_ap, SlN_ap, SlE_ap, partR_int, part_ap, chain_ap, var_ap, sv_val, sv_own, peek_ap, pv'_val, pv'_own, pv'_brw, chk_ap, cv_some, bnS_ok, bnS_bad, bindS_ap, sq_nx, sq_ret, sq_brk, sq_cnt, sq_bad, seqS_ap, nextS_ap, brkS_ap, cntS_ap, neverS_ap, asgS_ap, retS_ap, dropS_ap, cndS_t, cndS_f, ifS_ap, par2_ap, asgT_ap, forS_ap, whS_ap, setIx_ap, List.getElem?_cons_succ, List.getElem?_cons_zero, List.set_cons_succ, List.set_cons_zero, Rv.d_val, Rv.d_new, Rv.sl, addO_int, subO_int, gtO_int, ltO_int, geO_int, leO_int, negO_int, intO1_int, lenO_tup, lenO_lst, listO_tup, listO_lst, tupleO_tup, tupleO_lst, max2O_int, min2O_int, tupO0, tupO1, tupO2, tupO3, tupO4, lstO0, lstO1, lstO2, lstO3, lstO4, lstO5, eqO_int, neO_int, eqO_tup, neO_tup, eqO_nil, neO_nil, call1, call2, call3, call4, call5, cres_ok, truth_bool, set_tp2, set_tp3, set_nm, set_ls2, I_len, decide_true, decide_false, Bool.not_true, Bool.not_false, inst_int, eq_self, c, inst_tl, retOf_ret]
theorem shows_two {p : Int} (h : Fld p) {a b : List Int} {x y : PyData} (ha : Can p a) (hb : Can p b) (hla : a.length ≤ 61) (hlb : b.length ≤ 61) :
    f_shows_common [.v (.int p), .v (T a), .v (T b), .v (.tuple [x, y])] = .ok (.val (.bool false)) [] := by
  refine run_e (n := 6) (body := b_shows_common) (ds := [.int p, T a, T b, .tuple [x, y]]) ?_
  show retOf (b_shows_common [some (.val (.int p)), some (.val (T a)), some (.val (T b)), some (.val (.tuple [x, y])), none, none]) = _
  have c := chk2_eq h ha hb hla hlb
  have l2 : (([x, y] : List PyData).length : Int) = 2 := rfl
  have e : ¬ ((2 : Int) = 3) := by decide
  unfold b_shows_common
  simp -implicitDefEqProofs only [bnd_ok, bnd_exc, bnd_bad, pure_ap, bind_ap, bindD_ap, lift_some, lift_none, ofB_ap, truth_ap, asB_ap, cnd_t, cnd_f, ite_ap, and_ap, or_ap, not_ap, ofBool_ap, andV_ap, orV_ap, cons_ap, consV_ap, consS_ap, E2_ap, IxN_ap, SlN_ap, SlE_ap, partR_int, part_ap, chain_ap, var_ap, sv_val, sv_own, peek_ap, pv'_val, pv'_own, pv'_brw, chk_ap, cv_some, bnS_ok, bnS_bad, bindS_ap, sq_nx, sq_ret, sq_brk, sq_cnt, sq_bad, seqS_ap, nextS_ap, brkS_ap, cntS_ap, neverS_ap, asgS_ap, retS_ap, dropS_ap, cndS_t, cndS_f, ifS_ap, par2_ap, asgT_ap, forS_ap, whS_ap, setIx_ap, List.getElem?_cons_succ, List.getElem?_cons_zero, List.set_cons_succ, List.set_cons_zero, Rv.d_val, Rv.d_new, Rv.sl, addO_int, subO_int, gtO_int, ltO_int, geO_int, leO_int, negO_int, intO1_int, lenO_tup, lenO_lst, listO_tup, listO_lst, tupleO_tup, tupleO_lst, max2O_int, min2O_int, tupO0, tupO1, tupO2, tupO3, tupO4, lstO0, lstO1, lstO2, lstO3, lstO4, lstO5, eqO_int, neO_int, eqO_tup, neO_tup, eqO_nil, neO_nil, call1, call2, call3, call4, call5, cres_ok, truth_bool, set_tp2, set_tp3, set_nm, set_ls2, I_len, decide_true, decide_false, Bool.not_true, Bool.not_false, inst_int, eq_self, c, inst_tt, l2, e, retOf_ret]
end K01

set_option Elab.async false
set_option linter.all false
set_option maxRecDepth 100000
set_option maxHeartbeats 2000000
namespace K01
open PySem PySem.Spec PyProof.Rows L2 RZ Fx PM
/-! ### the pot -/
abbrev PD (o b c : Int) : List PyData := [.int o, .int b, .int c]
def Pot (n : Nat) (ds : List PyData) : Prop := ∃ o b c : Int, ds = PD o b c ∧ 0 ≤ o ∧ o.natAbs < 2 ^ 1000 ∧ 0 ≤ b ∧ b < 2 ^ 61 ∧ 0 ≤ c ∧ c ≤ n
theorem Pot.mono {n m : Nat} {ds : List PyData} (h : Pot n ds) (k : n ≤ m) : Pot m ds := by
  obtain ⟨o, b, c, e, h1, h2, h3, h4, h5, h6⟩ := h
  exact ⟨o, b, c, e, h1, h2, h3, h4, h5, by omega⟩
theorem small {a : Int} {k : Nat} (h : a.natAbs < 2 ^ k) (hk : k ≤ 4000) : a.natAbs < 2 ^ 4000 := Nat.lt_of_lt_of_le h (Nat.pow_le_pow_right (by decide) hk)
theorem n64 {a : Int} (h1 : 0 ≤ a) (h2 : a < 2 ^ 64) : a.natAbs < 2 ^ 64 := by omega
theorem mulN {a b : Int} {j k : Nat} (ha : a.natAbs < 2 ^ j) (hb : b.natAbs < 2 ^ k) : (a * b).natAbs < 2 ^ (j + k) := by
  rw [Int.natAbs_mul, Nat.pow_add]
  exact Nat.mul_lt_mul'' ha hb
theorem addN {a b : Int} {k : Nat} (ha : a.natAbs < 2 ^ k) (hb : b.natAbs < 2 ^ k) : (a + b).natAbs < 2 ^ (k + 1) := by
  have := Int.natAbs_add_le a b
  rw [Nat.pow_succ]
  omega
theorem upN {a : Int} {j k : Nat} (ha : a.natAbs < 2 ^ j) (h : j ≤ k) : a.natAbs < 2 ^ k := Nat.lt_of_lt_of_le ha (Nat.pow_le_pow_right (by decide) h)
theorem mulK {a b : Int} {j k : Nat} (ha : a.natAbs < 2 ^ j) (hb : b.natAbs < 2 ^ k) (hj : j ≤ 4000) (hk : k ≤ 4000) : mulO (.int a) (.int b) = some (.val (.int (a * b))) := mulO_int (small ha hj) (small hb hk)
theorem powK {a : Int} {k : Nat} (ha : a.natAbs < 2 ^ k) (hk : k ≤ 4000) : powO (.int a) (.int 3) = some (.val (.int (a ^ 3))) := by
  have h1 := log_lt (small ha hk)
  have : powC a 3 = true := by
    refine decide_eq_true ⟨by decide, ?_⟩
    unfold Builtin.Int.intBits
    split
    · decide
    · have : ((a.natAbs.log2 + 1 : Nat) : Int) ≤ 4001 := by omega
      have : (2 : Int) ^ 27 = 134217728 := by decide
      omega
  simp only [powO, intO, this, if_true]
  rfl
theorem primes4 {c : Int} (h : 0 ≤ c) : ∃ pr : Int, 0 < pr ∧ pr < 2 ^ 31 ∧ getO (.list [.int 2147483647, .int 2147483629, .int 2147483587, .int 2147483579]) (.int (c % 4)) = some (.val (.int pr)) := by
  have h4 : c % 4 = 0 ∨ c % 4 = 1 ∨ c % 4 = 2 ∨ c % 4 = 3 := by omega
  rcases h4 with e | e | e | e <;> rw [e]
  · exact ⟨2147483647, by decide, by decide, rfl⟩
  · exact ⟨2147483629, by decide, by decide, rfl⟩
  · exact ⟨2147483587, by decide, by decide, rfl⟩
  · exact ⟨2147483579, by decide, by decide, rfl⟩
theorem get30 {a b c : PyData} : getO (.list [a, b, c]) (.int 0) = some (.val a) := rfl
theorem get31 {a b c : PyData} : getO (.list [a, b, c]) (.int 1) = some (.val b) := rfl
theorem get32 {a b c : PyData} : getO (.list [a, b, c]) (.int 2) = some (.val c) := rfl
theorem set30 {x a b c : PyData} : setAt (.int 0) x [a, b, c] = some [x, b, c] := rfl
theorem set32 {x a b c : PyData} : setAt (.int 2) x [a, b, c] = some [a, b, x] := rfl
theorem retV2 {d : PyData} {a0 a1 a3 a4 : Option Sl} : retV 2 [a0, a1, some (.val d), a3, a4] = .ret (.val d) [a0, a1, some (.val d), a3, a4] := rfl
theorem take_eq' {n : Nat} (hn : n < 2 ^ 60) {pot : List PyData} (hp : Pot n pot) {u : Int} (hu : 0 < u) (hu2 : u < 2 ^ 64) : ∃ (d : Int) (pot' : List PyData), f__law_take [.r pot, .v (.int u)] = .ok (.val (.int d)) [pot'] ∧ 0 ≤ d ∧ d < u ∧ Pot (n + 1) pot' := by
  obtain ⟨o, b, c, rfl, h1, h2, h3, h4, h5, h6⟩ := hp
  by_cases ho : 0 < o
  · have md := modO_int (a := o) (b := u) hu
    have dv := divO_int (a := o) (b := u) hu (small (n64 (by omega) hu2) (by decide))
    refine ⟨o % u, PD (o / u) b c, ?_, Int.emod_nonneg _ (by omega), Int.emod_lt_of_pos _ hu, ⟨o / u, b, c, rfl, Int.ediv_nonneg h1 (by omega), ?_, h3, h4, h5, by omega⟩⟩
    · refine run_r (n := 5) (body := b__law_take) (ds := [.int u]) ?_
      show retR (b__law_take [some (.brw 0 (PD o b c)), some (.val (.int u)), none, none, none]) = _
      unfold b__law_take
      simp -implicitDefEqProofs only [bnd_ok, bnd_exc, bnd_bad, pure_ap, bind_ap, bindD_ap, lift_some, lift_none, ofB_ap, truth_ap, asB_ap, cnd_t, cnd_f, ite_ap, and_ap, or_ap, not_ap, ofBool_ap, andV_ap, orV_ap, cons_ap, consV_ap, consS_ap, E2_ap, IxN_ap, SlN_ap, SlE_ap, partR_int, part_ap, chain_ap, var_ap, sv_val, sv_own, peek_ap, pv'_val, pv'_own, pv'_brw, chk_ap, cv_some, bnS_ok, bnS_bad, bindS_ap, sq_nx, sq_ret, sq_brk, sq_cnt, sq_bad, seqS_ap, nextS_ap, brkS_ap, cntS_ap, neverS_ap, asgS_ap, retS_ap, dropS_ap, cndS_t, cndS_f, ifS_ap, par2_ap, asgT_ap, forS_ap, whS_ap, setIx_ap, List.getElem?_cons_succ, List.getElem?_cons_zero, List.set_cons_succ, List.set_cons_zero, Rv.d_val, Rv.d_new, Rv.sl, addO_int, subO_int, gtO_int, ltO_int, geO_int, leO_int, negO_int, intO1_int, lenO_tup, lenO_lst, listO_tup, listO_lst, tupleO_tup, tupleO_lst, max2O_int, min2O_int, tupO0, tupO1, tupO2, tupO3, tupO4, lstO0, lstO1, lstO2, lstO3, lstO4, lstO5, eqO_int, neO_int, eqO_tup, neO_tup, eqO_nil, neO_nil, call1, call2, call3, call4, call5, cres_ok, truth_bool, set_tp2, set_tp3, set_nm, set_ls2, I_len, decide_true, decide_false, Bool.not_true, Bool.not_false, inst_int, eq_self, get30, ho, md, dv, updL_ap, uv_brw (set30 (x := .int (o / u)) (a := .int o) (b := .int b) (c := .int c)), retV2, retR_ret]
    · have : o / u ≤ o := Int.ediv_le_self _ h1
      have := Int.ediv_nonneg h1 (by omega : 0 ≤ u)
      omega
  · have e60 : (2 : Nat) ^ 60 = 1152921504606846976 := by decide
    obtain ⟨pr, p1, p2, p3⟩ := primes4 (c := c + 1) (by omega)
    have hc : (c + 1).natAbs < 2 ^ 64 := n64 (by omega) (by omega)
    have k1 : (147487 : Int).natAbs < 2 ^ 20 := by decide
    have m1 := mulK (a := 147487) (b := c + 1) k1 hc (by decide) (by decide)
    have n1 := mulN k1 hc
    have m2 := mulK (a := 147487 * (c + 1)) (b := c + 1) n1 hc (by decide) (by decide)
    have n2 := mulN n1 hc
    have n3 := addN (upN (n64 h3 (by omega)) (by decide : 64 ≤ 20 + 64 + 64)) n2
    have n4 := addN n3 (upN (by decide : (4231 : Int).natAbs < 2 ^ 20) (by decide : 20 ≤ 20 + 64 + 64 + 1))
    have pw3 := powK n4 (by decide)
    generalize hx : (b + 147487 * (c + 1) * (c + 1) + 4231) = x at n4 pw3
    have md1 := modO_int (a := x ^ 3) (b := pr) p1
    have y0 : 0 ≤ x ^ 3 % pr := Int.emod_nonneg _ (by omega)
    have y1 : x ^ 3 % pr < pr := Int.emod_lt_of_pos _ p1
    generalize hy : x ^ 3 % pr = y at md1 y0 y1
    have md2 : modO (.int y) (.int 10007) = some (.val (.int (y % 10007))) := modO_int (by decide)
    have k2 : (3433 : Int).natAbs < 2 ^ 20 := by decide
    have m3 := mulK (a := 3433) (b := c + 1) k2 hc (by decide) (by decide)
    have n5 := mulN k2 hc
    have z0 : 0 ≤ y % 10007 := Int.emod_nonneg _ (by decide)
    have z1 : y % 10007 < 10007 := Int.emod_lt_of_pos _ (by decide)
    have n6 := addN (upN (n64 z0 (by omega)) (by decide : 64 ≤ 20 + 64)) n5
    have m4 := mulK (a := y) (b := y % 10007 + 3433 * (c + 1)) (n64 y0 (by omega)) n6 (by decide) (by decide)
    have dv : divO (.int (y * (y % 10007 + 3433 * (c + 1)))) (.int 307) = some (.val (.int (y * (y % 10007 + 3433 * (c + 1)) / 307))) := divO_int (by decide) (Nat.lt_trans (by decide : (307 : Int).natAbs < 1000000) pw)
    have md3 := modO_int (a := y * (y % 10007 + 3433 * (c + 1)) / 307) (b := u) hu
    have md4 : modO (.int (c + 1)) (.int 4) = some (.val (.int ((c + 1) % 4))) := modO_int (by decide)
    refine ⟨(y * (y % 10007 + 3433 * (c + 1)) / 307) % u, PD o b (c + 1), ?_, Int.emod_nonneg _ (by omega), Int.emod_lt_of_pos _ hu, ⟨o, b, c + 1, rfl, h1, h2, h3, h4, by omega, by omega⟩⟩
    refine run_r (n := 5) (body := b__law_take) (ds := [.int u]) ?_
    show retR (b__law_take [some (.brw 0 (PD o b c)), some (.val (.int u)), none, none, none]) = _
    unfold b__law_take
    simp -implicitDefEqProofs only [bnd_ok, bnd_exc, bnd_bad, pure_ap, bind_ap, bindD_ap, lift_some, lift_none, ofB_ap, truth_ap, asB_ap, cnd_t, cnd_f, ite_ap, and_ap, or_ap, not_ap, ofBool_ap, andV_ap, orV_ap, cons_ap, consV_ap, consS_ap, E2_ap, IxN_ap, SlN_ap, SlE_ap, partR_int, part_ap, chain_ap, var_ap, sv_val, sv_own, peek_ap, pv'_val, pv'_own, pv'_brw, chk_ap, cv_some, bnS_ok, bnS_bad, bindS_ap, sq_nx, sq_ret, sq_brk, sq_cnt, sq_bad, seqS_ap, nextS_ap, brkS_ap, cntS_ap, neverS_ap, asgS_ap, retS_ap, dropS_ap, cndS_t, cndS_f, ifS_ap, par2_ap, asgT_ap, forS_ap, whS_ap, setIx_ap, List.getElem?_cons_succ, List.getElem?_cons_zero, List.set_cons_succ, List.set_cons_zero, Rv.d_val, Rv.d_new, Rv.sl, addO_int, subO_int, gtO_int, ltO_int, geO_int, leO_int, negO_int, intO1_int, lenO_tup, lenO_lst, listO_tup, listO_lst, tupleO_tup, tupleO_lst, max2O_int, min2O_int, tupO0, tupO1, tupO2, tupO3, tupO4, lstO0, lstO1, lstO2, lstO3, lstO4, lstO5, eqO_int, neO_int, eqO_tup, neO_tup, eqO_nil, neO_nil, call1, call2, call3, call4, call5, cres_ok, truth_bool, set_tp2, set_tp3, set_nm, set_ls2, I_len, decide_true, decide_false, Bool.not_true, Bool.not_false, inst_int, eq_self, get30, get31, get32, ho, updL_ap, uv_brw (set32 (x := .int (c + 1)) (a := .int o) (b := .int b) (c := .int c)), md4, p3, m1, m2, hx, pw3, md1, hy, md2, m3, m4, dv, md3, retR_ret]
/-- one of a list -/
theorem of_eq {n : Nat} (hn : n < 2 ^ 60) {pot : List PyData} (hp : Pot n pot) {ds : List PyData} (h0 : 0 < ds.length) (hl : ds.length < 2 ^ 60) : ∃ (i : Nat) (d : PyData) (pot' : List PyData), f__law_of [.r pot, .v (.list ds)] = .ok (.val d) [pot'] ∧ ds[i]? = some d ∧ Pot (n + 1) pot' := by
  obtain ⟨d, pot', e, d0, d1, hp'⟩ := take_eq' hn hp (u := (ds.length : Int)) (by omega) (by omega)
  have hi : d.toNat < ds.length := by omega
  have g : getO (.list ds) (.int d) = some (.val ds[d.toNat]) := by
    rw [getO_lst, atI_nat (n := d.toNat) (by omega) hi, List.getElem?_eq_getElem hi]; rfl
  refine ⟨d.toNat, ds[d.toNat], pot', ?_, List.getElem?_eq_getElem hi, hp'⟩
  refine run_r (n := 2) (body := b__law_of) (ds := [.list ds]) ?_
  show retR (b__law_of [some (.brw 0 pot), some (.val (.list ds))]) = _
  unfold b__law_of
  simp -implicitDefEqProofs only [bnd_ok, bnd_exc, bnd_bad, pure_ap, bind_ap, bindD_ap, lift_some, lift_none, ofB_ap, truth_ap, asB_ap, cnd_t, cnd_f, ite_ap, and_ap, or_ap, not_ap, ofBool_ap, andV_ap, orV_ap, cons_ap, consV_ap, consS_ap, E2_ap, IxN_ap, SlN_ap, SlE_ap, partR_int, part_ap, chain_ap, var_ap, sv_val, sv_own, peek_ap, pv'_val, pv'_own, pv'_brw, chk_ap, cv_some, bnS_ok, bnS_bad, bindS_ap, sq_nx, sq_ret, sq_brk, sq_cnt, sq_bad, seqS_ap, nextS_ap, brkS_ap, cntS_ap, neverS_ap, asgS_ap, retS_ap, dropS_ap, cndS_t, cndS_f, ifS_ap, par2_ap, asgT_ap, forS_ap, whS_ap, setIx_ap, List.getElem?_cons_succ, List.getElem?_cons_zero, List.set_cons_succ, List.set_cons_zero, Rv.d_val, Rv.d_new, Rv.sl, addO_int, subO_int, gtO_int, ltO_int, geO_int, leO_int, negO_int, intO1_int, lenO_tup, lenO_lst, listO_tup, listO_lst, tupleO_tup, tupleO_lst, max2O_int, min2O_int, tupO0, tupO1, tupO2, tupO3, tupO4, lstO0, lstO1, lstO2, lstO3, lstO4, lstO5, eqO_int, neO_int, eqO_tup, neO_tup, eqO_nil, neO_nil, call1, call2, call3, call4, call5, cres_ok, truth_bool, set_tp2, set_tp3, set_nm, set_ls2, I_len, decide_true, decide_false, Bool.not_true, Bool.not_false, inst_int, eq_self, callR2, cR_brw, e, finR_ok, g, retR_ret]
theorem field_eq {n : Nat} (hn : n < 2 ^ 60) {pot : List PyData} (hp : Pot n pot) : ∃ (p : Int) (pot' : List PyData), f__law_field [.r pot] = .ok (.val (.int p)) [pot'] ∧ Fld p ∧ Pot (n + 1) pot' := by
  obtain ⟨i, d, pot', e, hi, hp'⟩ := of_eq hn hp (ds := [.int 2, .int 2, .int 3, .int 5]) (by decide) (by decide)
  have hd : ∃ p, Fld p ∧ d = .int p := by
    match i, hi with
    | 0, hi => exact ⟨2, .inl rfl, by simpa using hi.symm⟩
    | 1, hi => exact ⟨2, .inl rfl, by simpa using hi.symm⟩
    | 2, hi => exact ⟨3, .inr (.inl rfl), by simpa using hi.symm⟩
    | 3, hi => exact ⟨5, .inr (.inr rfl), by simpa using hi.symm⟩
    | k + 4, hi => simp at hi
  obtain ⟨p, hF, rfl⟩ := hd
  refine ⟨p, pot', ?_, hF, hp'⟩
  refine run_r (n := 1) (body := b__law_field) (ds := []) ?_
  show retR (b__law_field [some (.brw 0 pot)]) = _
  unfold b__law_field
  simp -implicitDefEqProofs only [bnd_ok, bnd_exc, bnd_bad, pure_ap, bind_ap, bindD_ap, lift_some, lift_none, ofB_ap, truth_ap, asB_ap, cnd_t, cnd_f, ite_ap, and_ap, or_ap, not_ap, ofBool_ap, andV_ap, orV_ap, cons_ap, consV_ap, consS_ap, E2_ap, IxN_ap, SlN_ap, SlE_ap, partR_int, part_ap, chain_ap, var_ap, sv_val, sv_own, peek_ap, pv'_val, pv'_own, pv'_brw, chk_ap, cv_some, bnS_ok, bnS_bad, bindS_ap, sq_nx, sq_ret, sq_brk, sq_cnt, sq_bad, seqS_ap, nextS_ap, brkS_ap, cntS_ap, neverS_ap, asgS_ap, retS_ap, dropS_ap, cndS_t, cndS_f, ifS_ap, par2_ap, asgT_ap, forS_ap, whS_ap, setIx_ap, List.getElem?_cons_succ, List.getElem?_cons_zero, List.set_cons_succ, List.set_cons_zero, Rv.d_val, Rv.d_new, Rv.sl, addO_int, subO_int, gtO_int, ltO_int, geO_int, leO_int, negO_int, intO1_int, lenO_tup, lenO_lst, listO_tup, listO_lst, tupleO_tup, tupleO_lst, max2O_int, min2O_int, tupO0, tupO1, tupO2, tupO3, tupO4, lstO0, lstO1, lstO2, lstO3, lstO4, lstO5, eqO_int, neO_int, eqO_tup, neO_tup, eqO_nil, neO_nil, call1, call2, call3, call4, call5, cres_ok, truth_bool, set_tp2, set_tp3, set_nm, set_ls2, I_len, decide_true, decide_false, Bool.not_true, Bool.not_false, inst_int, eq_self, callR2, cR_brw, e, finR_ok, retR_ret]
end K01

set_option Elab.async false
set_option linter.all false
set_option maxRecDepth 100000
set_option maxHeartbeats 2000000
namespace K01
open PySem PySem.Spec PyProof.Rows L2 RZ Fx PM
/-! ### a drawn poly -/
def drB : M Rv := M.bind (M.ofB (M.bind (M.consS 0 (M.consV (var 1) (M.pure []))) (callB 2 f__law_take))) fun d => M.lift (intO1 d)
theorem draw_loop {p : Int} (hF : Fld p) (A : Option Sl) : ∀ (ds acc : List PyData) (n : Nat) (pot : List PyData), n + ds.length < 2 ^ 60 → Pot n pot → ∃ (L : List Int) (pot' : List PyData),
    compL (.nm 3) (M.pure true) drB [3] ds acc [some (.brw 0 pot), some (.val (.int p)), A, none] = some (acc ++ I L, [some (.brw 0 pot'), some (.val (.int p)), A, none]) ∧ PM.Rd p L ∧ L.length = ds.length ∧ Pot (n + ds.length) pot'
  | [], acc, n, pot, _, hp => ⟨[], pot, by show some (acc, _) = some (acc ++ [], _); rw [List.append_nil], fun x hx => (by cases hx), rfl, hp⟩
  | x :: ds, acc, n, pot, hn, hp => by
    have hn : n + (ds.length + 1) < 2 ^ 60 := hn
    have hb := hF.b
    obtain ⟨d, pot1, e, d0, d1, hp1⟩ := take_eq' (by omega) hp (u := p) hb.1 (by omega)
    obtain ⟨L, pot', ih, hL, hl, hp'⟩ := draw_loop hF A ds (acc ++ [.int d]) (n + 1) pot1 (by omega) hp1
    have en : n + (x :: ds).length = n + 1 + ds.length := by simp only [List.length_cons]; omega
    refine ⟨d :: L, pot', ?_, fun z hz => ?_, by simp [hl], by rw [en]; exact hp'⟩
    · have st : drB [some (.brw 0 pot), some (.val (.int p)), A, some (.val x)] = .ok (.val (.int d)) [some (.brw 0 pot1), some (.val (.int p)), A, some (.val x)] := by
        unfold drB
        simp -implicitDefEqProofs only [bnd_ok, bnd_exc, bnd_bad, pure_ap, bind_ap, bindD_ap, lift_some, lift_none, ofB_ap, truth_ap, asB_ap, cnd_t, cnd_f, ite_ap, and_ap, or_ap, not_ap, ofBool_ap, andV_ap, orV_ap, cons_ap, consV_ap, consS_ap, E2_ap, IxN_ap, SlN_ap, SlE_ap, partR_int, part_ap, chain_ap, var_ap, sv_val, sv_own, peek_ap, pv'_val, pv'_own, pv'_brw, chk_ap, cv_some, bnS_ok, bnS_bad, bindS_ap, sq_nx, sq_ret, sq_brk, sq_cnt, sq_bad, seqS_ap, nextS_ap, brkS_ap, cntS_ap, neverS_ap, asgS_ap, retS_ap, dropS_ap, cndS_t, cndS_f, ifS_ap, par2_ap, asgT_ap, forS_ap, whS_ap, setIx_ap, List.getElem?_cons_succ, List.getElem?_cons_zero, List.set_cons_succ, List.set_cons_zero, Rv.d_val, Rv.d_new, Rv.sl, addO_int, subO_int, gtO_int, ltO_int, geO_int, leO_int, negO_int, intO1_int, lenO_tup, lenO_lst, listO_tup, listO_lst, tupleO_tup, tupleO_lst, max2O_int, min2O_int, tupO0, tupO1, tupO2, tupO3, tupO4, lstO0, lstO1, lstO2, lstO3, lstO4, lstO5, eqO_int, neO_int, eqO_tup, neO_tup, eqO_nil, neO_nil, call1, call2, call3, call4, call5, cres_ok, truth_bool, set_tp2, set_tp3, set_nm, set_ls2, I_len, decide_true, decide_false, Bool.not_true, Bool.not_false, inst_int, eq_self, callR2, cR_brw, e, finR_ok]
      unfold compL
      have s1 : Tg.set (.nm 3) x [some (.brw 0 pot), some (.val (.int p)), A, none] = some [some (.brw 0 pot), some (.val (.int p)), A, some (.val x)] := rfl
      simp only [s1, pure_ap, st]
      have s2 : rwipe [some (.brw 0 pot1), some (.val (.int p)), A, some (.val x)] [3] = [some (.brw 0 pot1), some (.val (.int p)), A, none] := rfl
      rw [s2]
      have e3 : acc ++ I (d :: L) = (acc ++ [PyData.int d]) ++ I L := by rw [List.append_assoc]; rfl
      rw [e3]
      exact ih
    · rcases List.mem_cons.mp hz with h | h
      · subst h; exact ⟨d0, d1⟩
      · exact hL z h
theorem poly_eq {n m : Nat} (hn : n < 2 ^ 50) (hm : m < 100) {pot : List PyData} (hp : Pot n pot) {p : Int} (hF : Fld p) : ∃ (L : List Int) (pot' : List PyData),
    f__law_poly [.r pot, .v (.int p), .v (.int (m : Int))] = .ok (.val (T L)) [pot'] ∧ Can p L ∧ L.length ≤ m + 1 ∧ Pot (n + 200) pot' := by
  have e50 : (2 : Nat) ^ 50 = 1125899906842624 := by decide
  have e60 : (2 : Nat) ^ 60 = 1152921504606846976 := by decide
  obtain ⟨d, pot1, e, d0, d1, hp1⟩ := take_eq' (by omega) hp (u := (m : Int) + 2) (by omega) (by omega)
  obtain ⟨L, pot', ih, hL, hl, hp'⟩ := draw_loop hF (some (.val (.int (m : Int)))) (rangeD1 0 d.toNat) [] (n + 1) pot1 (by rw [range_len]; omega) hp1
  rw [range_len] at hl hp'
  refine ⟨trim L, pot', ?_, Can.of hL, by have := trim_len L; omega, hp'.mono (by omega)⟩
  have hr := rng1_int (j := d) (by omega)
  have cb := compB_ok (t := .nm 3) (tt := M.pure true) (me := drB) (vs := [3]) (ρ := [some (.brw 0 pot1), some (.val (.int p)), some (.val (.int (m : Int))), none]) (ds := rangeD1 0 d.toNat) (by rw [range_len]; omega) (show compL _ _ _ _ _ [] _ = _ from ih)
  have rs : restR [some (.brw 0 pot1), some (.val (.int p)), some (.val (.int (m : Int))), none] [some (.brw 0 pot'), some (.val (.int p)), some (.val (.int (m : Int))), none] [3] = [some (.brw 0 pot'), some (.val (.int p)), some (.val (.int (m : Int))), none] := rfl
  rw [rs, List.nil_append] at cb
  have tr := ltrim_eq L (by omega)
  refine run_r (n := 4) (body := b__law_poly) (ds := [.int p, .int (m : Int)]) ?_
  show retR (b__law_poly [some (.brw 0 pot), some (.val (.int p)), some (.val (.int (m : Int))), none]) = _
  unfold drB at cb
  unfold b__law_poly
  simp -implicitDefEqProofs only [bnd_ok, bnd_exc, bnd_bad, pure_ap, bind_ap, bindD_ap, lift_some, lift_none, ofB_ap, truth_ap, asB_ap, cnd_t, cnd_f, ite_ap, and_ap, or_ap, not_ap, ofBool_ap, andV_ap, orV_ap, cons_ap, consV_ap, consS_ap, E2_ap, IxN_ap, SlN_ap, SlE_ap, partR_int, part_ap, chain_ap, var_ap, sv_val, sv_own, peek_ap, pv'_val, pv'_own, pv'_brw, chk_ap, cv_some, bnS_ok, bnS_bad, bindS_ap, sq_nx, sq_ret, sq_brk, sq_cnt, sq_bad, seqS_ap, nextS_ap, brkS_ap, cntS_ap, neverS_ap, asgS_ap, retS_ap, dropS_ap, cndS_t, cndS_f, ifS_ap, par2_ap, asgT_ap, forS_ap, whS_ap, setIx_ap, List.getElem?_cons_succ, List.getElem?_cons_zero, List.set_cons_succ, List.set_cons_zero, Rv.d_val, Rv.d_new, Rv.sl, addO_int, subO_int, gtO_int, ltO_int, geO_int, leO_int, negO_int, intO1_int, lenO_tup, lenO_lst, listO_tup, listO_lst, tupleO_tup, tupleO_lst, max2O_int, min2O_int, tupO0, tupO1, tupO2, tupO3, tupO4, lstO0, lstO1, lstO2, lstO3, lstO4, lstO5, eqO_int, neO_int, eqO_tup, neO_tup, eqO_nil, neO_nil, call1, call2, call3, call4, call5, cres_ok, truth_bool, set_tp2, set_tp3, set_nm, set_ls2, I_len, decide_true, decide_false, Bool.not_true, Bool.not_false, inst_int, eq_self, callR2, cR_brw, e, finR_ok, hr, cb, tr, retR_ret]
/-! ### all monic polys of degree 1, 2 -/
def am1 (p : Nat) : List (List Int) := (List.range p).map fun i : Nat => [Int.ofNat i, 1]
def am2 (p : Nat) : List (List Int) := ((List.range p).map fun i : Nat => (List.range p).map fun j : Nat => [Int.ofNat i, Int.ofNat j, 1]).flatten
def canB (p : Int) (a : List Int) : Bool := a.all (fun x => decide (0 ≤ x ∧ x < p)) && (decide (trim a = a) && (decide (a ≠ []) && decide (a.length ≤ 3)))
theorem canB_ok {p : Int} {a : List Int} (h : canB p a = true) : Can p a ∧ a ≠ [] ∧ a.length ≤ 3 := by
  unfold canB at h
  simp only [Bool.and_eq_true, List.all_eq_true, decide_eq_true_eq] at h
  exact ⟨⟨h.1, h.2.1⟩, h.2.2.1, h.2.2.2⟩
theorem monics {p : Int} (hF : Fld p) {d : Int} (hd : d = 1 ∨ d = 2) : ∃ Ls : List (List Int), f__law_all_monic [.v (.int p), .v (.int d)] = .ok (.new (Ls.map T)) [] ∧ ∀ L ∈ Ls, Can p L ∧ L ≠ [] ∧ L.length ≤ 3 := by
  have fin : ∀ (q : Int) (Ls : List (List Int)), Ls.all (canB q) = true → ∀ L ∈ Ls, Can q L ∧ L ≠ [] ∧ L.length ≤ 3 := fun q Ls h L hL => canB_ok (List.all_eq_true.mp h L hL)
  rcases hF with h | h | h <;> subst h <;> rcases hd with h | h <;> subst h
  · exact ⟨am1 2, by kernel_rfl, fin _ _ (by decide +kernel)⟩
  · exact ⟨am2 2, by kernel_rfl, fin _ _ (by decide +kernel)⟩
  · exact ⟨am1 3, by kernel_rfl, fin _ _ (by decide +kernel)⟩
  · exact ⟨am2 3, by kernel_rfl, fin _ _ (by decide +kernel)⟩
  · exact ⟨am1 5, by kernel_rfl, fin _ _ (by decide +kernel)⟩
  · exact ⟨am2 5, by kernel_rfl, fin _ _ (by decide +kernel)⟩
/-! ### repr -/
theorem repr_b (b : Bool) : ∃ z, reprO (.bool b) = some (.val (.str z)) ∧ neO (.str z) (.str z) = some (.val (.bool false)) := by
  cases b
  · exact ⟨"False", by kernel_rfl, by kernel_rfl⟩
  · exact ⟨"True", by kernel_rfl, by kernel_rfl⟩
end K01

set_option Elab.async false
set_option linter.all false
set_option maxRecDepth 100000
set_option maxHeartbeats 2000000
namespace K01
open PySem PySem.Spec PyProof.Rows L2 RZ Fx PM
theorem so_app (a b : Str) : PyData.strOk (a ++ b) = (PyData.strOk a && PyData.strOk b) := by
  show (a.cps ++ b.cps).all _ = _
  rw [Array.all_append]; rfl
theorem so_join (sep : Str) (hs : PyData.strOk sep = true) : ∀ l : List Str, l.all PyData.strOk = true → PyData.strOk (Str.join sep l) = true
  | [], _ => by
    show PyData.strOk Str.empty = true
    decide +kernel
  | [x], h => by
    have h : PyData.strOk x = true := by simpa using h
    exact h
  | x :: y :: l, h => by
    have h1 : PyData.strOk x = true := by simp only [List.all_cons, Bool.and_eq_true] at h; exact h.1
    have h2 : (y :: l).all PyData.strOk = true := by simp only [List.all_cons, Bool.and_eq_true] at h ⊢; exact h.2
    have ih := so_join sep hs (y :: l) h2
    show PyData.strOk (x ++ sep ++ Str.join sep (y :: l)) = true
    rw [so_app, so_app, h1, hs, ih]; rfl
theorem one_digit {x : Int} (h : 0 ≤ x ∧ x < 5) : (PyData.shown (.int x)).length = 1 ∧ PyData.strOk (PyData.shown (.int x)) = true ∧ PyData.showable (.int x) = true := by
  have : x = 0 ∨ x = 1 ∨ x = 2 ∨ x = 3 ∨ x = 4 := by omega
  rcases this with e | e | e | e | e <;> subst e <;> decide +kernel
theorem shown_I : ∀ L : List Int, (∀ x ∈ L, 0 ≤ x ∧ x < 5) → piled (PyData.shownAll (I L)) = 3 * L.length ∧ (PyData.shownAll (I L)).all PyData.strOk = true ∧ PyData.showableAll (I L) = true ∧ (PyData.shownAll (I L)).length = L.length
  | [], _ => by refine ⟨?_, ?_, ?_, ?_⟩ <;> simp [PyData.shownAll, PyData.showableAll, piled]
  | x :: L, h => by
    obtain ⟨h1, h2, h3, h4⟩ := shown_I L fun y hy => h y (List.mem_cons_of_mem _ hy)
    obtain ⟨k1, k2, k3⟩ := one_digit (h x (by simp))
    have e : PyData.shownAll (I (x :: L)) = PyData.shown (.int x) :: PyData.shownAll (I L) := by show PyData.shownAll (_ :: _) = _; rw [PyData.shownAll]
    have e2 : PyData.showableAll (I (x :: L)) = (PyData.showable (.int x) && PyData.showableAll (I L)) := by show PyData.showableAll (_ :: _) = _; rw [PyData.showableAll]
    rw [e, e2]
    refine ⟨by rw [piled_cons, h1, k1, List.length_cons]; omega, by rw [List.all_cons, k2, h2]; rfl, by rw [k3, h3]; rfl, by rw [List.length_cons, h4, List.length_cons]⟩
theorem repr_T {L : List Int} (h : ∀ x ∈ L, 0 ≤ x ∧ x < 5) (hl : L.length ≤ 100) : ∃ z, reprO (T L) = some (.val (.str z)) ∧ neO (.str z) (.str z) = some (.val (.bool false)) := by
  obtain ⟨h1, h2, h3, h4⟩ := shown_I L h
  have es : PyData.shown (T L) = tupleText (PyData.shownAll (I L)) := by show PyData.shown (.tuple _) = _; rw [PyData.shown]
  have ew : PyData.showable (T L) = true := by show PyData.showable (.tuple _) = _; rw [PyData.showable]; exact h3
  have eh : PyData.hasDict (T L) = false := by show PyData.hasDict (.tuple _) = _; rw [PyData.hasDict]; exact hd_I L
  have ed : PyData.depth (T L) < 60 := by show PyData.depth (.tuple _) < _; rw [PyData.depth, dp_I]; decide
  have el : (PyData.shown (T L)).length ≤ 100000 := by
    rw [es]
    have := fmt_text (PyData.shownAll (I L))
    omega
  have so : PyData.strOk (PyData.shown (T L)) = true := by
    rw [es]
    unfold tupleText
    rw [so_app, so_app, so_join ", " (by decide +kernel) _ h2]
    have e1 : PyData.strOk ("(" : Str) = true := by decide +kernel
    rw [e1]
    split <;> decide +kernel
  refine ⟨PyData.shown (T L), if_pos ⟨⟨ew, eh⟩, ed, el⟩, ?_⟩
  have ok : okD (.str (PyData.shown (T L))) = true := by
    simp only [okD, SeqAt.shaped, PyData.canLay0, so, PyData.depth, PyData.hasDict]; rfl
  unfold neO
  rw [if_pos ⟨ok, ok⟩]
  simp [PyData.eqv]
/-! ### inner loop: small divisors -/
theorem good_com {p : Int} (h : Fld p) {a b : List Int} (ha : Can p a) (hb : Can p b) : goodB p a b (mon p (gcd p a b)) (comS p a b) (comT p a b) = true := by
  have c := com_ok h ha hb
  have k1 := pmul_ok h.b.1 (comS p a b) a
  have k2 := pmul_ok h.b.1 (comT p a b) b
  have s := padd_ok h.b.1 1 (pmul p (comS p a b) a) (pmul p (comT p a b) b)
  have e : padd p 1 (pmul p (comS p a b) a) (pmul p (comT p a b) b) = mon p (gcd p a b) := by
    refine can_eq h.b.1 s.2.1 (mon_can h).1 ?_
    rw [s.1, k1.1, k2.1, mk_one, ← c.1]
    grind
  unfold goodB
  rw [e]
  simp
theorem div_com {p : Int} (h : Fld p) {a b d : List Int} (ha : Can p a) (hb : Can p b) (hd : Can p d) (hne : d ≠ []) (e1 : rem p a d = []) (e2 : rem p b d = []) : rem p (mon p (gcd p a b)) d = [] := by
  have q1 := quo_ok h ha.rd hd hne
  have q2 := quo_ok h hb.rd hd hne
  have q3 := quo_ok h (mon_can (a := gcd p a b) h).1.rd hd hne
  have c := com_ok h ha hb
  have z : mk p ([] : List Int) = 0 := mk_nil
  have f1 := q1.1
  have f2 := q2.1
  rw [e1, z] at f1
  rw [e2, z] at f2
  have cm : Cm (mk p d) (mk p (rem p (mon p (gcd p a b)) d)) (mk p []) := by
    refine ⟨mk p (comS p a b) * mk p (quo p a d) + mk p (comT p a b) * mk p (quo p b d) - mk p (quo p (mon p (gcd p a b)) d), ?_⟩
    have f3 := q3.1
    have f4 := c.1
    rw [z]
    grind
  have hl : 0 < d.length := by cases d with | nil => exact absurd rfl hne | cons => simp
  exact cm_eq h hd hne q3.2.2.1 can_nil q3.2.2.2.1 hl cm
def inB : SM := seqS (asgS 9 (M.andV (E2 eqO (E2 getO (M.bind (M.consV (var 1) (M.consV (var 3) (M.consV (var 8) (M.pure [])))) (callB 3 f__law_divide)) (M.ofB (M.pure (.val (.int 1))))) (M.ofB (M.bind (M.pure []) fun ds => M.lift (tupO ds)))) (E2 eqO (E2 getO (M.bind (M.consV (var 1) (M.consV (var 4) (M.consV (var 8) (M.pure [])))) (callB 3 f__law_divide)) (M.ofB (M.pure (.val (.int 1))))) (M.ofB (M.bind (M.pure []) fun ds => M.lift (tupO ds)))))) (ifS (M.and (M.truth (peek 9)) (M.bind (E2 neO (E2 getO (M.bind (M.consV (var 1) (M.consV (IxN 6 (M.pure (.val (.int 0)))) (M.consV (var 8) (M.pure [])))) (callB 3 f__law_divide)) (M.ofB (M.pure (.val (.int 1))))) (M.ofB (M.bind (M.pure []) fun ds => M.lift (tupO ds)))) asB)) (retS (M.pure (.val (.bool false)))) (nextS))
theorem in_loop {p : Int} (h : Fld p) {a b : List Int} (ha : Can p a) (hb : Can p b) (hla : a.length < 90) (hlb : b.length < 90) (x0 x2 x5 x7 : Option Sl) (s t : PyData) (x10 x11 x12 x13 x14 x15 x16 x17 : Option Sl) : ∀ (Ls : List (List Int)) (u v : Option Sl), (∀ L ∈ Ls, Can p L ∧ L ≠ [] ∧ L.length ≤ 3) → ∃ u' v',
    forL (.nm 8) inB (Ls.map T) [x0, some (.val (.int p)), x2, some (.val (T a)), some (.val (T b)), x5, some (.val (.tuple [T (mon p (gcd p a b)), s, t])), x7, u, v, x10, x11, x12, x13, x14, x15, x16, x17] =
      .nx [x0, some (.val (.int p)), x2, some (.val (T a)), some (.val (T b)), x5, some (.val (.tuple [T (mon p (gcd p a b)), s, t])), x7, u', v', x10, x11, x12, x13, x14, x15, x16, x17]
  | [], u, v, _ => ⟨u, v, rfl⟩
  | L :: Ls, u, v, hL => by
    obtain ⟨h1, h2, h3⟩ := hL L (by simp)
    have gl := (gcdA_can h (b.length + 1) a b ha hb).2
    have ml := (mon_can (a := gcd p a b) h).2
    have d1 := ldv_eq h ha.rd h1 h2 (by omega) (by omega)
    have d2 := ldv_eq h hb.rd h1 h2 (by omega) (by omega)
    have d3 := ldv_eq h (mon_can (a := gcd p a b) h).1.rd h1 h2 (by unfold gcd at *; omega) (by omega)
    rw [List.map_cons]
    unfold forL
    by_cases e1 : rem p a L = []
    · by_cases e2 : rem p b L = []
      · have e3 := div_com h ha hb h1 h2 e1 e2
        obtain ⟨u', v', ih⟩ := in_loop h ha hb hla hlb x0 x2 x5 x7 s t x10 x11 x12 x13 x14 x15 x16 x17 Ls (some (.val (T L))) (some (.val (.bool true))) fun L hh => hL L (List.mem_cons_of_mem _ hh)
        refine ⟨u', v', ?_⟩
        have st : inB [x0, some (.val (.int p)), x2, some (.val (T a)), some (.val (T b)), x5, some (.val (.tuple [T (mon p (gcd p a b)), s, t])), x7, some (.val (T L)), v, x10, x11, x12, x13, x14, x15, x16, x17] = .nx [x0, some (.val (.int p)), x2, some (.val (T a)), some (.val (T b)), x5, some (.val (.tuple [T (mon p (gcd p a b)), s, t])), x7, some (.val (T L)), some (.val (.bool true)), x10, x11, x12, x13, x14, x15, x16, x17] := by
          unfold inB
          simp -implicitDefEqProofs only [bnd_ok, bnd_exc, bnd_bad, pure_ap, bind_ap, bindD_ap, lift_some, lift_none, ofB_ap, truth_ap, asB_ap, cnd_t, cnd_f, ite_ap, and_ap, or_ap, not_ap, ofBool_ap, andV_ap, orV_ap, cons_ap, consV_ap, consS_ap, E2_ap, IxN_ap, SlN_ap, SlE_ap, partR_int, part_ap, chain_ap, var_ap, sv_val, sv_own, peek_ap, pv'_val, pv'_own, pv'_brw, chk_ap, cv_some, bnS_ok, bnS_bad, bindS_ap, sq_nx, sq_ret, sq_brk, sq_cnt, sq_bad, seqS_ap, nextS_ap, brkS_ap, cntS_ap, neverS_ap, asgS_ap, retS_ap, dropS_ap, cndS_t, cndS_f, ifS_ap, par2_ap, asgT_ap, forS_ap, whS_ap, setIx_ap, List.getElem?_cons_succ, List.getElem?_cons_zero, List.set_cons_succ, List.set_cons_zero, Rv.d_val, Rv.d_new, Rv.sl, addO_int, subO_int, gtO_int, ltO_int, geO_int, leO_int, negO_int, intO1_int, lenO_tup, lenO_lst, listO_tup, listO_lst, tupleO_tup, tupleO_lst, max2O_int, min2O_int, tupO0, tupO1, tupO2, tupO3, tupO4, lstO0, lstO1, lstO2, lstO3, lstO4, lstO5, eqO_int, neO_int, eqO_tup, neO_tup, eqO_nil, neO_nil, call1, call2, call3, call4, call5, cres_ok, truth_bool, set_tp2, set_tp3, set_nm, set_ls2, I_len, decide_true, decide_false, Bool.not_true, Bool.not_false, inst_int, eq_self, d1, d2, d3, get2_1, get3_0, e1, e2, e3]
        simp -implicitDefEqProofs only [bnd_ok, bnd_exc, bnd_bad, pure_ap, bind_ap, bindD_ap, lift_some, lift_none, ofB_ap, truth_ap, asB_ap, cnd_t, cnd_f, ite_ap, and_ap, or_ap, not_ap, ofBool_ap, andV_ap, orV_ap, cons_ap, consV_ap, consS_ap, E2_ap, IxN_ap, SlN_ap, SlE_ap, partR_int, part_ap, chain_ap, var_ap, sv_val, sv_own, peek_ap, pv'_val, pv'_own, pv'_brw, chk_ap, cv_some, bnS_ok, bnS_bad, bindS_ap, sq_nx, sq_ret, sq_brk, sq_cnt, sq_bad, seqS_ap, nextS_ap, brkS_ap, cntS_ap, neverS_ap, asgS_ap, retS_ap, dropS_ap, cndS_t, cndS_f, ifS_ap, par2_ap, asgT_ap, forS_ap, whS_ap, setIx_ap, List.getElem?_cons_succ, List.getElem?_cons_zero, List.set_cons_succ, List.set_cons_zero, Rv.d_val, Rv.d_new, Rv.sl, addO_int, subO_int, gtO_int, ltO_int, geO_int, leO_int, negO_int, intO1_int, lenO_tup, lenO_lst, listO_tup, listO_lst, tupleO_tup, tupleO_lst, max2O_int, min2O_int, tupO0, tupO1, tupO2, tupO3, tupO4, lstO0, lstO1, lstO2, lstO3, lstO4, lstO5, eqO_int, neO_int, eqO_tup, neO_tup, eqO_nil, neO_nil, call1, call2, call3, call4, call5, cres_ok, truth_bool, set_tp2, set_tp3, set_nm, set_ls2, I_len, decide_true, decide_false, Bool.not_true, Bool.not_false, inst_int, eq_self]
        rw [st]
        exact ih
      · obtain ⟨u', v', ih⟩ := in_loop h ha hb hla hlb x0 x2 x5 x7 s t x10 x11 x12 x13 x14 x15 x16 x17 Ls (some (.val (T L))) (some (.val (.bool false))) fun L hh => hL L (List.mem_cons_of_mem _ hh)
        refine ⟨u', v', ?_⟩
        have st : inB [x0, some (.val (.int p)), x2, some (.val (T a)), some (.val (T b)), x5, some (.val (.tuple [T (mon p (gcd p a b)), s, t])), x7, some (.val (T L)), v, x10, x11, x12, x13, x14, x15, x16, x17] = .nx [x0, some (.val (.int p)), x2, some (.val (T a)), some (.val (T b)), x5, some (.val (.tuple [T (mon p (gcd p a b)), s, t])), x7, some (.val (T L)), some (.val (.bool false)), x10, x11, x12, x13, x14, x15, x16, x17] := by
          unfold inB
          simp -implicitDefEqProofs only [bnd_ok, bnd_exc, bnd_bad, pure_ap, bind_ap, bindD_ap, lift_some, lift_none, ofB_ap, truth_ap, asB_ap, cnd_t, cnd_f, ite_ap, and_ap, or_ap, not_ap, ofBool_ap, andV_ap, orV_ap, cons_ap, consV_ap, consS_ap, E2_ap, IxN_ap, SlN_ap, SlE_ap, partR_int, part_ap, chain_ap, var_ap, sv_val, sv_own, peek_ap, pv'_val, pv'_own, pv'_brw, chk_ap, cv_some, bnS_ok, bnS_bad, bindS_ap, sq_nx, sq_ret, sq_brk, sq_cnt, sq_bad, seqS_ap, nextS_ap, brkS_ap, cntS_ap, neverS_ap, asgS_ap, retS_ap, dropS_ap, cndS_t, cndS_f, ifS_ap, par2_ap, asgT_ap, forS_ap, whS_ap, setIx_ap, List.getElem?_cons_succ, List.getElem?_cons_zero, List.set_cons_succ, List.set_cons_zero, Rv.d_val, Rv.d_new, Rv.sl, addO_int, subO_int, gtO_int, ltO_int, geO_int, leO_int, negO_int, intO1_int, lenO_tup, lenO_lst, listO_tup, listO_lst, tupleO_tup, tupleO_lst, max2O_int, min2O_int, tupO0, tupO1, tupO2, tupO3, tupO4, lstO0, lstO1, lstO2, lstO3, lstO4, lstO5, eqO_int, neO_int, eqO_tup, neO_tup, eqO_nil, neO_nil, call1, call2, call3, call4, call5, cres_ok, truth_bool, set_tp2, set_tp3, set_nm, set_ls2, I_len, decide_true, decide_false, Bool.not_true, Bool.not_false, inst_int, eq_self, d1, d2, get2_1, e1, e2]
        simp -implicitDefEqProofs only [bnd_ok, bnd_exc, bnd_bad, pure_ap, bind_ap, bindD_ap, lift_some, lift_none, ofB_ap, truth_ap, asB_ap, cnd_t, cnd_f, ite_ap, and_ap, or_ap, not_ap, ofBool_ap, andV_ap, orV_ap, cons_ap, consV_ap, consS_ap, E2_ap, IxN_ap, SlN_ap, SlE_ap, partR_int, part_ap, chain_ap, var_ap, sv_val, sv_own, peek_ap, pv'_val, pv'_own, pv'_brw, chk_ap, cv_some, bnS_ok, bnS_bad, bindS_ap, sq_nx, sq_ret, sq_brk, sq_cnt, sq_bad, seqS_ap, nextS_ap, brkS_ap, cntS_ap, neverS_ap, asgS_ap, retS_ap, dropS_ap, cndS_t, cndS_f, ifS_ap, par2_ap, asgT_ap, forS_ap, whS_ap, setIx_ap, List.getElem?_cons_succ, List.getElem?_cons_zero, List.set_cons_succ, List.set_cons_zero, Rv.d_val, Rv.d_new, Rv.sl, addO_int, subO_int, gtO_int, ltO_int, geO_int, leO_int, negO_int, intO1_int, lenO_tup, lenO_lst, listO_tup, listO_lst, tupleO_tup, tupleO_lst, max2O_int, min2O_int, tupO0, tupO1, tupO2, tupO3, tupO4, lstO0, lstO1, lstO2, lstO3, lstO4, lstO5, eqO_int, neO_int, eqO_tup, neO_tup, eqO_nil, neO_nil, call1, call2, call3, call4, call5, cres_ok, truth_bool, set_tp2, set_tp3, set_nm, set_ls2, I_len, decide_true, decide_false, Bool.not_true, Bool.not_false, inst_int, eq_self]
        rw [st]
        exact ih
    · obtain ⟨u', v', ih⟩ := in_loop h ha hb hla hlb x0 x2 x5 x7 s t x10 x11 x12 x13 x14 x15 x16 x17 Ls (some (.val (T L))) (some (.val (.bool false))) fun L hh => hL L (List.mem_cons_of_mem _ hh)
      refine ⟨u', v', ?_⟩
      have st : inB [x0, some (.val (.int p)), x2, some (.val (T a)), some (.val (T b)), x5, some (.val (.tuple [T (mon p (gcd p a b)), s, t])), x7, some (.val (T L)), v, x10, x11, x12, x13, x14, x15, x16, x17] = .nx [x0, some (.val (.int p)), x2, some (.val (T a)), some (.val (T b)), x5, some (.val (.tuple [T (mon p (gcd p a b)), s, t])), x7, some (.val (T L)), some (.val (.bool false)), x10, x11, x12, x13, x14, x15, x16, x17] := by
        unfold inB
        simp -implicitDefEqProofs only [bnd_ok, bnd_exc, bnd_bad, pure_ap, bind_ap, bindD_ap, lift_some, lift_none, ofB_ap, truth_ap, asB_ap, cnd_t, cnd_f, ite_ap, and_ap, or_ap, not_ap, ofBool_ap, andV_ap, orV_ap, cons_ap, consV_ap, consS_ap, E2_ap, IxN_ap, SlN_ap, SlE_ap, partR_int, part_ap, chain_ap, var_ap, sv_val, sv_own, peek_ap, pv'_val, pv'_own, pv'_brw, chk_ap, cv_some, bnS_ok, bnS_bad, bindS_ap, sq_nx, sq_ret, sq_brk, sq_cnt, sq_bad, seqS_ap, nextS_ap, brkS_ap, cntS_ap, neverS_ap, asgS_ap, retS_ap, dropS_ap, cndS_t, cndS_f, ifS_ap, par2_ap, asgT_ap, forS_ap, whS_ap, setIx_ap, List.getElem?_cons_succ, List.getElem?_cons_zero, List.set_cons_succ, List.set_cons_zero, Rv.d_val, Rv.d_new, Rv.sl, addO_int, subO_int, gtO_int, ltO_int, geO_int, leO_int, negO_int, intO1_int, lenO_tup, lenO_lst, listO_tup, listO_lst, tupleO_tup, tupleO_lst, max2O_int, min2O_int, tupO0, tupO1, tupO2, tupO3, tupO4, lstO0, lstO1, lstO2, lstO3, lstO4, lstO5, eqO_int, neO_int, eqO_tup, neO_tup, eqO_nil, neO_nil, call1, call2, call3, call4, call5, cres_ok, truth_bool, set_tp2, set_tp3, set_nm, set_ls2, I_len, decide_true, decide_false, Bool.not_true, Bool.not_false, inst_int, eq_self, d1, d2, get2_1, e1]
      simp -implicitDefEqProofs only [bnd_ok, bnd_exc, bnd_bad, pure_ap, bind_ap, bindD_ap, lift_some, lift_none, ofB_ap, truth_ap, asB_ap, cnd_t, cnd_f, ite_ap, and_ap, or_ap, not_ap, ofBool_ap, andV_ap, orV_ap, cons_ap, consV_ap, consS_ap, E2_ap, IxN_ap, SlN_ap, SlE_ap, partR_int, part_ap, chain_ap, var_ap, sv_val, sv_own, peek_ap, pv'_val, pv'_own, pv'_brw, chk_ap, cv_some, bnS_ok, bnS_bad, bindS_ap, sq_nx, sq_ret, sq_brk, sq_cnt, sq_bad, seqS_ap, nextS_ap, brkS_ap, cntS_ap, neverS_ap, asgS_ap, retS_ap, dropS_ap, cndS_t, cndS_f, ifS_ap, par2_ap, asgT_ap, forS_ap, whS_ap, setIx_ap, List.getElem?_cons_succ, List.getElem?_cons_zero, List.set_cons_succ, List.set_cons_zero, Rv.d_val, Rv.d_new, Rv.sl, addO_int, subO_int, gtO_int, ltO_int, geO_int, leO_int, negO_int, intO1_int, lenO_tup, lenO_lst, listO_tup, listO_lst, tupleO_tup, tupleO_lst, max2O_int, min2O_int, tupO0, tupO1, tupO2, tupO3, tupO4, lstO0, lstO1, lstO2, lstO3, lstO4, lstO5, eqO_int, neO_int, eqO_tup, neO_tup, eqO_nil, neO_nil, call1, call2, call3, call4, call5, cres_ok, truth_bool, set_tp2, set_tp3, set_nm, set_ls2, I_len, decide_true, decide_false, Bool.not_true, Bool.not_false, inst_int, eq_self]
      rw [st]
      exact ih
end K01

set_option Elab.async false
set_option linter.all false
set_option maxRecDepth 100000
set_option maxHeartbeats 4000000
namespace K01
open PySem PySem.Spec PyProof.Rows L2 RZ Fx PM
theorem fld5 {p : Int} (h : Fld p) {L : List Int} (hL : PM.Rd p L) : ∀ x ∈ L, 0 ≤ x ∧ x < 5 := fun x hx => by
  have := hL x hx
  rcases h with h | h | h <;> subst h <;> omega
/-- the two polys with a common part -/
def twB : M Rv := M.bind (M.consV (var 1) (M.consV (var 2) (M.consV (M.bind (M.consS 0 (M.consV (var 1) (M.consV (M.pure (.val (.int 6))) (M.pure [])))) (callB 3 f__law_poly)) (M.pure [])))) (callB 3 f__law_mul)
theorem two_eq {n : Nat} (hn : n < 2 ^ 40) {pot : List PyData} (hp : Pot n pot) {p : Int} (hF : Fld p) {c : List Int} (hc : Can p c) (hlc : c.length ≤ 5) (r : List (Option Sl)) : ∃ (a b : List Int) (pot' : List PyData),
    compB (.nm 5) (M.pure true) twB [5] (rangeD1 0 2) (some (.brw 0 pot) :: some (.val (.int p)) :: some (.val (T c)) :: none :: none :: none :: r) = .ok (.new [T a, T b]) (some (.brw 0 pot') :: some (.val (.int p)) :: some (.val (T c)) :: none :: none :: none :: r) ∧ Can p a ∧ Can p b ∧ a.length ≤ 12 ∧ b.length ≤ 12 ∧ Pot (n + 400) pot' := by
  have e40 : (2 : Nat) ^ 40 = 1099511627776 := by decide
  have e50 : (2 : Nat) ^ 50 = 1125899906842624 := by decide
  obtain ⟨L1, pot1, e1, c1, l1, p1⟩ := poly_eq (m := 6) (by omega) (by decide) hp hF
  obtain ⟨L2, pot2, e2, c2, l2, p2⟩ := poly_eq (m := 6) (by omega) (by decide) p1 hF
  have m1 := lmul_eq hF.b hc.rd c1.rd (by omega) (by omega)
  have m2 := lmul_eq hF.b hc.rd c2.rd (by omega) (by omega)
  have k1 := pmul_ok hF.b.1 c L1
  have k2 := pmul_ok hF.b.1 c L2
  have e1 : f__law_poly [.r pot, .v (.int p), .v (.int 6)] = .ok (.val (T L1)) [pot1] := e1
  have e2 : f__law_poly [.r pot1, .v (.int p), .v (.int 6)] = .ok (.val (T L2)) [pot2] := e2
  have st : ∀ (q q' : List PyData) (L : List Int) (x : PyData), f__law_poly [.r q, .v (.int p), .v (.int 6)] = .ok (.val (T L)) [q'] → f__law_mul [.v (.int p), .v (T c), .v (T L)] = .ok (.val (T (pmul p c L))) [] →
      twB (some (.brw 0 q) :: some (.val (.int p)) :: some (.val (T c)) :: none :: none :: some (.val x) :: r) = .ok (.val (T (pmul p c L))) (some (.brw 0 q') :: some (.val (.int p)) :: some (.val (T c)) :: none :: none :: some (.val x) :: r) := fun q q' L x he hm => by
    unfold twB
    simp -implicitDefEqProofs only [bnd_ok, bnd_exc, bnd_bad, pure_ap, bind_ap, bindD_ap, lift_some, lift_none, ofB_ap, truth_ap, asB_ap, cnd_t, cnd_f, ite_ap, and_ap, or_ap, not_ap, ofBool_ap, andV_ap, orV_ap, cons_ap, consV_ap, consS_ap, E2_ap, IxN_ap, SlN_ap, SlE_ap, partR_int, part_ap, chain_ap, var_ap, sv_val, sv_own, peek_ap, pv'_val, pv'_own, pv'_brw, chk_ap, cv_some, bnS_ok, bnS_bad, bindS_ap, sq_nx, sq_ret, sq_brk, sq_cnt, sq_bad, seqS_ap, nextS_ap, brkS_ap, cntS_ap, neverS_ap, asgS_ap, retS_ap, dropS_ap, cndS_t, cndS_f, ifS_ap, par2_ap, asgT_ap, forS_ap, whS_ap, setIx_ap, List.getElem?_cons_succ, List.getElem?_cons_zero, List.set_cons_succ, List.set_cons_zero, Rv.d_val, Rv.d_new, Rv.sl, addO_int, subO_int, gtO_int, ltO_int, geO_int, leO_int, negO_int, intO1_int, lenO_tup, lenO_lst, listO_tup, listO_lst, tupleO_tup, tupleO_lst, max2O_int, min2O_int, tupO0, tupO1, tupO2, tupO3, tupO4, lstO0, lstO1, lstO2, lstO3, lstO4, lstO5, eqO_int, neO_int, eqO_tup, neO_tup, eqO_nil, neO_nil, call1, call2, call3, call4, call5, cres_ok, truth_bool, set_tp2, set_tp3, set_nm, set_ls2, I_len, decide_true, decide_false, Bool.not_true, Bool.not_false, inst_int, eq_self, callR3, cR_brw, he, finR_ok, hm]
  refine ⟨pmul p c L1, pmul p c L2, pot2, ?_, k1.2.1, k2.2.1, by have := k1.2.2; omega, by have := k2.2.2; omega, p2.mono (by omega)⟩
  have rg : rangeD1 0 2 = [.int 0, .int 1] := rfl
  rw [rg]
  refine (compB_ok (out := [T (pmul p c L1), T (pmul p c L2)]) (ρ' := some (.brw 0 pot2) :: some (.val (.int p)) :: some (.val (T c)) :: none :: none :: none :: r) (by decide) ?_).trans rfl
  have w0 : ∀ (q : List PyData) (o : Option Sl), rwipe (some (.brw 0 q) :: some (.val (.int p)) :: some (.val (T c)) :: none :: none :: o :: r) [5] = some (.brw 0 q) :: some (.val (.int p)) :: some (.val (T c)) :: none :: none :: none :: r := fun _ _ => rfl
  have s0 : ∀ (q : List PyData) (x : PyData), Tg.set (.nm 5) x (some (.brw 0 q) :: some (.val (.int p)) :: some (.val (T c)) :: none :: none :: none :: r) = some (some (.brw 0 q) :: some (.val (.int p)) :: some (.val (T c)) :: none :: none :: some (.val x) :: r) := fun _ _ => rfl
  rw [w0]
  unfold compL
  simp only [s0, pure_ap, st _ _ _ _ e1 m1, w0]
  unfold compL
  simp only [s0, pure_ap, st _ _ _ _ e2 m2, w0]
  unfold compL
  rfl
/-- the modulus -/
theorem modulus_ok {p : Int} (h : Fld p) {Q : List Int} {d : Int} (hQ : Can p Q) (hl : Q.length ≤ 6) (hd : 0 ≤ d ∧ d < p - 1) : PM.Rd p [0, 0, 0, 0, 0, 0, 1 + d] ∧ Can p (padd p 1 Q [0, 0, 0, 0, 0, 0, 1 + d]) ∧ padd p 1 Q [0, 0, 0, 0, 0, 0, 1 + d] ≠ [] ∧ (padd p 1 Q [0, 0, 0, 0, 0, 0, 1 + d]).length ≤ 7 := by
  have hp := h.b
  have s := padd_ok hp.1 1 Q [0, 0, 0, 0, 0, 0, 1 + d]
  refine ⟨fun x hx => ?_, s.2.1, fun z => ?_, Nat.le_trans s.2.2 (by simp only [List.length_cons, List.length_nil]; omega)⟩
  · simp only [List.mem_cons, List.not_mem_nil, or_false] at hx
    omega
  · have e := s.1
    rw [z] at e
    have c := mk_eq.mp (show mk p [] = mk p (addL Q (mulL [1] [0, 0, 0, 0, 0, 0, 1 + d])) from e) 6
    rw [cf_nil, cf_add, cf_mul_int, cf_ge (a := Q) (by omega)] at c
    have e6 : cf [0, 0, 0, 0, 0, 0, 1 + d] 6 = 1 + d := rfl
    rw [e6] at c
    have := dvd_small c (by omega) (by omega)
    omega
theorem rep6 : mulO (.tuple [.int 0]) (.int 6) = some (.val (.tuple [.int 0, .int 0, .int 0, .int 0, .int 0, .int 0])) := by kernel_rfl
theorem cat6 {d : PyData} : addO (.tuple [.int 0, .int 0, .int 0, .int 0, .int 0, .int 0]) (.tuple [d]) = some (.val (.tuple [.int 0, .int 0, .int 0, .int 0, .int 0, .int 0, d])) := by rfl
theorem pow9 : powO (.int 10) (.int 9) = some (.val (.int 1000000000)) := by kernel_rfl
theorem isn_tt : isNotO (.bool true) (.bool true) = some (.val (.bool false)) := by rfl
theorem isn_ff : isNotO (.bool false) (.bool false) = some (.val (.bool false)) := by rfl
theorem sl2 {a b c : PyData} : sliceO none (some 2) (.tuple [a, b, c]) = some (.val (.tuple [a, b])) := by rfl
theorem numbers5 {a b : Int} {i : Nat} {d : PyData} (h : ([.int 0, .int 1, .int a, .int 999999999, .int b] : List PyData)[i]? = some d) (ha : 0 ≤ a ∧ a < 40) (hb : 0 ≤ b ∧ b < 1000000000) : ∃ k : Nat, d = .int (k : Int) ∧ k ≤ 999999999 := by
  match i, h with
  | 0, h => exact ⟨0, by simpa using h.symm, by omega⟩
  | 1, h => exact ⟨1, by simpa using h.symm, by omega⟩
  | 2, h => exact ⟨a.toNat, by have : d = .int a := by simpa using h.symm
                               rw [this]; congr 1; omega, by omega⟩
  | 3, h => exact ⟨999999999, by simpa using h.symm, by omega⟩
  | 4, h => exact ⟨b.toNat, by have : d = .int b := by simpa using h.symm
                               rw [this]; congr 1; omega, by omega⟩
  | n + 5, h => simp at h
end K01

set_option Elab.async false
set_option linter.all false
set_option maxRecDepth 100000
set_option maxHeartbeats 8000000
namespace K01
open PySem PySem.Spec PyProof.Rows L2 RZ Fx PM
def p3 (i j l : Nat) : List PyData → SM := fun ds ρ => match ds with
  | [x, y, z] => .nx (((ρ.set i (some (.val x))).set j (some (.val y))).set l (some (.val z)))
  | _ => .bad
theorem par3_ap {i j l : Nat} {ms : M (List PyData)} {ρ : Rho} : par3 i j l ms ρ = (ms ρ).bnS (p3 i j l) := rfl
theorem p3_3 {i j l : Nat} {x y z : PyData} {ρ : Rho} : p3 i j l [x, y, z] ρ = .nx (((ρ.set i (some (.val x))).set j (some (.val y))).set l (some (.val z))) := rfl
def fl (o : Out) (k : SM) : Out := match o with
  | .nx ρ => k ρ
  | .cnt ρ => k ρ
  | .brk ρ => .nx ρ
  | o => o
theorem fl_nx {ρ : Rho} {k : SM} : fl (.nx ρ) k = k ρ := rfl
theorem forL_nm {i : Nat} {b : SM} {d : PyData} {ds : List PyData} {ρ : Rho} : forL (.nm i) b (d :: ds) ρ = fl (b (ρ.set i (some (.val d)))) (forL (.nm i) b ds) := by
  conv => lhs; unfold forL
  simp only [set_nm]
  cases b (ρ.set i (some (.val d))) <;> rfl
theorem forL_nil {t : Tg} {b : SM} {ρ : Rho} : forL t b [] ρ = .nx ρ := rfl
theorem ne00 : neO (.tuple []) (.tuple []) = some (.val (.bool false)) := by kernel_rfl
def vlB : SM := ifS (M.bind (E2 neO (M.bind (M.ofB (M.bind (M.consV (var 1) (M.consV (var 3) (M.consV (var 4) (M.consV (var 8) (M.pure []))))) (callB 4 f_shows_common))) fun d => M.lift (reprO d)) (M.ofB (M.bind (M.ofB (M.bind (M.consV (var 1) (M.consV (var 3) (M.consV (var 4) (M.consV (var 8) (M.pure []))))) (callB 4 f__law_makes))) fun d => M.lift (reprO d)))) asB) (retS (M.pure (.val (.bool false)))) (nextS)
theorem vl_step {p : Int} (h : Fld p) {a b x y z : List Int} (ha : Can p a) (hb : Can p b) (hla : a.length ≤ 61) (hlb : b.length ≤ 61) (hx : Can p x ∧ x.length ≤ 61) (hy : Can p y ∧ y.length ≤ 61) (hz : Can p z ∧ z.length ≤ 61) (x0 x2 x5 x6 x7 : Option Sl) (r : List (Option Sl)) :
    vlB (x0 :: some (.val (.int p)) :: x2 :: some (.val (T a)) :: some (.val (T b)) :: x5 :: x6 :: x7 :: some (.val (.tuple [T x, T y, T z])) :: r) = .nx (x0 :: some (.val (.int p)) :: x2 :: some (.val (T a)) :: some (.val (T b)) :: x5 :: x6 :: x7 :: some (.val (.tuple [T x, T y, T z])) :: r) := by
  have s := shows_eq h ha hb hla hlb hx.1 hy.1 hz.1 hx.2 hy.2 hz.2
  have m := makes_eq h ha hb hla hlb hx.1 hy.1 hz.1 hx.2 hy.2 hz.2
  obtain ⟨w, r1, r2⟩ := repr_b (goodB p a b x y z)
  unfold vlB
  simp -implicitDefEqProofs only [bnd_ok, bnd_exc, bnd_bad, pure_ap, bind_ap, bindD_ap, lift_some, lift_none, ofB_ap, truth_ap, asB_ap, cnd_t, cnd_f, ite_ap, and_ap, or_ap, not_ap, ofBool_ap, andV_ap, orV_ap, cons_ap, consV_ap, consS_ap, E2_ap, IxN_ap, SlN_ap, SlE_ap, partR_int, part_ap, chain_ap, var_ap, sv_val, sv_own, peek_ap, pv'_val, pv'_own, pv'_brw, chk_ap, cv_some, bnS_ok, bnS_bad, bindS_ap, sq_nx, sq_ret, sq_brk, sq_cnt, sq_bad, seqS_ap, nextS_ap, brkS_ap, cntS_ap, neverS_ap, asgS_ap, retS_ap, dropS_ap, cndS_t, cndS_f, ifS_ap, par2_ap, asgT_ap, forS_ap, whS_ap, setIx_ap, List.getElem?_cons_succ, List.getElem?_cons_zero, List.set_cons_succ, List.set_cons_zero, Rv.d_val, Rv.d_new, Rv.sl, addO_int, subO_int, gtO_int, ltO_int, geO_int, leO_int, negO_int, intO1_int, lenO_tup, lenO_lst, listO_tup, listO_lst, tupleO_tup, tupleO_lst, max2O_int, min2O_int, tupO0, tupO1, tupO2, tupO3, tupO4, lstO0, lstO1, lstO2, lstO3, lstO4, lstO5, eqO_int, neO_int, eqO_tup, neO_tup, eqO_nil, neO_nil, call1, call2, call3, call4, call5, cres_ok, truth_bool, set_tp2, set_tp3, set_nm, set_ls2, I_len, decide_true, decide_false, Bool.not_true, Bool.not_false, inst_int, eq_self, s, m, r1, r2]
theorem right_eq {n : Nat} (hn : n < 2 ^ 30) {pot : List PyData} (hp : Pot n pot) : ∃ pot', f__law_right [.r pot] = .ok (.val (.bool true)) [pot'] ∧ Pot (n + 5000) pot' := by
  have e30 : (2 : Nat) ^ 30 = 1073741824 := by decide
  have e40 : (2 : Nat) ^ 40 = 1099511627776 := by decide
  have e50 : (2 : Nat) ^ 50 = 1125899906842624 := by decide
  have e60 : (2 : Nat) ^ 60 = 1152921504606846976 := by decide
  obtain ⟨p, pot1, d1, hF, q1⟩ := field_eq (by omega) hp
  have hpb := hF.b
  obtain ⟨c, pot2, d2, hc, lc, q2⟩ := poly_eq (m := 4) (by omega) (by decide) q1 hF
  have d2 : f__law_poly [.r pot1, .v (.int p), .v (.int 4)] = .ok (.val (T c)) [pot2] := d2
  obtain ⟨a, b, pot3, d3, ha, hb, la, lb, q3⟩ := two_eq (by omega) q2 hF hc (by omega) [none, none, none, none, none, none, none, none, none, none, none, none]
  have rg2 : rng1 [.int 2] = M.pure (rangeD1 0 2) := rng1_int (j := 2) (by decide)
  have cm := common_eq hF ha hb (by omega) (by omega)
  have gl := (gcdA_can hF (b.length + 1) a b ha hb).2
  have gl : (gcd p a b).length ≤ max a.length b.length := gl
  have mc := mon_can (a := gcd p a b) hF
  obtain ⟨ce, cs, ct, ls, lt⟩ := com_ok hF ha hb
  have gd := good_com hF ha hb
  have mk1 := makes_eq hF ha hb (by omega) (by omega) mc.1 cs ct (by omega) (by omega) (by omega)
  have sh1 := shows_eq hF ha hb (by omega) (by omega) mc.1 cs ct (by omega) (by omega) (by omega)
  rw [gd] at mk1 sh1
  generalize hg : mon p (gcd p a b) = g at *
  generalize hs : comS p a b = s at *
  generalize ht : comT p a b = t at *
  obtain ⟨Ls1, am1, al1⟩ := monics hF (d := 1) (.inl rfl)
  obtain ⟨Ls2, am2, al2⟩ := monics hF (d := 2) (.inr rfl)
  obtain ⟨u1, v1, il1⟩ := in_loop hF ha hb (by omega) (by omega) (some (.brw 0 pot3)) (some (.val (T c))) none (some (.val (.int 1))) (T s) (T t) none none none none none none none none Ls1 none none al1
  obtain ⟨u2, v2, il2⟩ := in_loop hF ha hb (by omega) (by omega) (some (.brw 0 pot3)) (some (.val (T c))) none (some (.val (.int 2))) (T s) (T t) none none none none none none none none Ls2 u1 v1 al2
  rw [hg] at il1 il2
  -- more
  obtain ⟨w, pot4, d4, hw, lw, q4⟩ := poly_eq (m := 2) (by omega) (by decide) q3 hF
  have d4 : f__law_poly [.r pot3, .v (.int p), .v (.int 2)] = .ok (.val (T w)) [pot4] := d4
  have m1 := lmul_eq hpb hw.rd hb.rd (by omega) (by omega)
  have m2 := lmul_eq hpb hw.rd ha.rd (by omega) (by omega)
  have k1 := pmul_ok hpb.1 w b
  have k2 := pmul_ok hpb.1 w a
  have k1l := k1.2.2
  have k2l := k2.2.2
  have s1 := lsum_eq (t := 1) hpb (by decide) cs.rd k1.2.1.rd (by omega) (by omega)
  have s2 := lsum_eq (t := p - 1) hpb (by omega) ct.rd k2.2.1.rd (by omega) (by omega)
  have j1 := padd_ok hpb.1 1 s (pmul p w b)
  have j2 := padd_ok hpb.1 (p - 1) t (pmul p w a)
  have j1l := j1.2.2
  have j2l := j2.2.2
  have c1 := can_one hF
  have s3 := lsum_eq (t := 1) (b := [1]) hpb (by decide) ct.rd c1.rd (by omega) (by decide)
  have s4 := lsum_eq (t := 1) (b := [1]) hpb (by decide) mc.1.rd c1.rd (by omega) (by decide)
  have s3 : f__law_sum [.v (.int p), .v (T t), .v (.tuple [.int 1]), .v (.int 1)] = .ok (.val (T (padd p 1 t [1]))) [] := s3
  have s4 : f__law_sum [.v (.int p), .v (T g), .v (.tuple [.int 1]), .v (.int 1)] = .ok (.val (T (padd p 1 g [1]))) [] := s4
  have j3 := padd_ok hpb.1 1 t [1]
  have j4 := padd_ok hpb.1 1 g [1]
  have j3l := j3.2.2
  have j4l := j4.2.2
  have o1 : ([1] : List Int).length = 1 := rfl
  obtain ⟨i5, bent, pot5, d5, hi5, q5⟩ := of_eq (by omega) q4 (ds := [.tuple [T g, T t, T s], .tuple [T g, T s, T (padd p 1 t [1])], .tuple [T (padd p 1 g [1]), T s, T t]]) (by show 0 < 3; decide) (by show 3 < 2 ^ 60; decide)
  obtain ⟨x, y, z, hbent, hx, hy, hz⟩ : ∃ x y z, bent = .tuple [T x, T y, T z] ∧ (Can p x ∧ x.length ≤ 61) ∧ (Can p y ∧ y.length ≤ 61) ∧ (Can p z ∧ z.length ≤ 61) := by
    match i5, hi5 with
    | 0, h => exact ⟨g, t, s, by simpa using h.symm, ⟨mc.1, by omega⟩, ⟨ct, by omega⟩, ⟨cs, by omega⟩⟩
    | 1, h => exact ⟨g, s, padd p 1 t [1], by simpa using h.symm, ⟨mc.1, by omega⟩, ⟨cs, by omega⟩, ⟨j3.2.1, by omega⟩⟩
    | 2, h => exact ⟨padd p 1 g [1], s, t, by simpa using h.symm, ⟨j4.2.1, by omega⟩, ⟨cs, by omega⟩, ⟨ct, by omega⟩⟩
    | n + 3, h => simp at h
  subst hbent
  have sV := shows_eq hF ha hb (by omega) (by omega) mc.1 j1.2.1 j2.2.1 (by omega) (by omega) (by omega)
  have mV := makes_eq hF ha hb (by omega) (by omega) mc.1 j1.2.1 j2.2.1 (by omega) (by omega) (by omega)
  obtain ⟨wV, rV1, rV2⟩ := repr_b (goodB p a b g (padd p 1 s (pmul p w b)) (padd p (p - 1) t (pmul p w a)))
  have sB := shows_eq hF ha hb (by omega) (by omega) hx.1 hy.1 hz.1 hx.2 hy.2 hz.2
  have mB := makes_eq hF ha hb (by omega) (by omega) hx.1 hy.1 hz.1 hx.2 hy.2 hz.2
  obtain ⟨wB, rB1, rB2⟩ := repr_b (goodB p a b x y z)
  have sl := shows_list (ds := [T g, T s, T t]) hF ha hb (by omega) (by omega)
  have s22 := shows_two (x := T g) (y := T s) hF ha hb (by omega) (by omega)
  have cn := common_eq hF (can_nil (p := p)) (can_nil (p := p)) (by decide) (by decide)
  have cn : f_common [.v (.int p), .v (.tuple []), .v (.tuple [])] = .ok (.val (.tuple [.tuple [], T (comS p [] []), T (comT p [] [])])) [] := cn
  -- the modulus
  obtain ⟨Q, pot6, d6, hQ, lQ, q6⟩ := poly_eq (m := 5) (by omega) (by decide) q5 hF
  have d6 : f__law_poly [.r pot5, .v (.int p), .v (.int 5)] = .ok (.val (T Q)) [pot6] := d6
  have hp1 : 1 < p := by rcases hF with h | h | h <;> subst h <;> decide
  obtain ⟨e, pot7, d7, e0, e1, q7⟩ := take_eq' (by omega) q6 (u := p - 1) (by omega) (by omega)
  obtain ⟨mr, mcn, mne, ml⟩ := modulus_ok hF hQ (by omega) (d := e) ⟨e0, e1⟩
  have s5 := lsum_eq (t := 1) (b := [0, 0, 0, 0, 0, 0, 1 + e]) hpb (by decide) hQ.rd mr (by omega) (by simp)
  have s5 : f__law_sum [.v (.int p), .v (T Q), .v (.tuple [.int 0, .int 0, .int 0, .int 0, .int 0, .int 0, .int (1 + e)]), .v (.int 1)] = .ok (.val (T (padd p 1 Q [0, 0, 0, 0, 0, 0, 1 + e]))) [] := s5
  generalize hm : padd p 1 Q [0, 0, 0, 0, 0, 0, 1 + e] = m at *
  obtain ⟨A, pot8, d8, hA, lA, q8⟩ := poly_eq (m := 8) (by omega) (by decide) q7 hF
  have d8 : f__law_poly [.r pot7, .v (.int p), .v (.int 8)] = .ok (.val (T A)) [pot8] := d8
  obtain ⟨n1, pot9, d9, n10, n11, q9⟩ := take_eq' (by omega) q8 (u := 40) (by decide) (by decide)
  obtain ⟨n2, pot10, d10, n20, n21, q10⟩ := take_eq' (by omega) q9 (u := 1000000000) (by decide) (by decide)
  obtain ⟨i11, dk, pot11, d11, hi11, q11⟩ := of_eq (by omega) q10 (ds := [.int 0, .int 1, .int n1, .int 999999999, .int n2]) (by show 0 < 5; decide) (by show 5 < 2 ^ 60; decide)
  obtain ⟨k, hk, hk9⟩ := numbers5 hi11 ⟨n10, n11⟩ ⟨n20, n21⟩
  subst hk
  obtain ⟨j, pot12, d12, j0, j11, q12⟩ := take_eq' (by omega) q11 (u := 1000) (by decide) (by decide)
  obtain ⟨jn, hj⟩ : ∃ jn : Nat, j = (jn : Int) := ⟨j.toNat, by omega⟩
  subst hj
  have lp := lpow_eq hF hA (by omega) mcn mne (by omega) (k := k) (Nat.lt_of_le_of_lt hk9 (by decide))
  have pr := prest_eq hF hA (by omega) mcn mne (by omega) (k := k) hk9
  have pj := prest_eq hF hA (by omega) mcn mne (by omega) (k := jn) (by omega)
  have ok1 := pm_ok hF hA.rd mcn mne (k := k) (by omega)
  have ok2 := pm_ok hF hA.rd mcn mne (k := jn) (by omega)
  have ok1l := ok1.2.2
  have ok2l := ok2.2.2
  obtain ⟨zs, r1, r2⟩ := repr_T (fld5 hF ok1.2.1.rd) (by omega)
  have tm := times_eq hF ok1.2.1 ok2.2.1 (by omega)
  have kt := pmul_ok hpb.1 (pm p A k m) (pm p A jn m)
  have ktl := kt.2.2
  have dd := divided_eq hF kt.2.1 mcn mne (by omega) (by omega)
  have c1ne : ([1] : List Int) ≠ [] := by simp
  have pl := prest_eq hF hA (by omega) c1 c1ne (by decide) (k := k) hk9
  have ok3 := pm_ok hF hA.rd c1 c1ne (k := k) (by omega)
  have z3 : pm p A k [1] = [] := by
    have := ok3.2.2
    rw [o1] at this
    exact List.eq_nil_of_length_eq_zero (by omega)
  rw [z3] at pl
  have pl : f_power_rest [.v (.int p), .v (T A), .v (.int (k : Int)), .v (.tuple [.int 1])] = .ok (.val (T [])) [] := pl
  have esum : (k : Int) + (jn : Int) = ((k + jn : Nat) : Int) := by omega
  refine ⟨pot12, ?_, q12.mono (by omega)⟩
  refine run_r (n := 18) (body := b__law_right) (ds := []) ?_
  show retR (b__law_right [some (.brw 0 pot), none, none, none, none, none, none, none, none, none, none, none, none, none, none, none, none, none]) = _
  have set34 : ∀ (X Y : PyData) (y0 y1 y2 : Option Sl) (r : List (Option Sl)), Tg.set (.ls [3, 4]) (.list [X, Y]) (y0 :: y1 :: y2 :: none :: none :: r) = some (y0 :: y1 :: y2 :: some (.val X) :: some (.val Y) :: r) := fun _ _ _ _ _ _ => rfl
  unfold twB at d3
  unfold inB at il1 il2
  have ea : k + jn ≤ 999999999 → pm p A (k + jn) m = rem p (pmul p (pm p A k m) (pm p A jn m)) m := fun h => pm_add hF hA.rd mcn mne (by omega)
  unfold b__law_right
  by_cases hle : ((k + jn : Nat) : Int) ≤ 999999999
  · have hle' : k + jn ≤ 999999999 := by omega
    have pkj := prest_eq hF hA (by omega) mcn mne (by omega) (k := k + jn) hle'
    rw [ea hle'] at pkj
    simp -implicitDefEqProofs only [bnd_ok, bnd_exc, bnd_bad, pure_ap, bind_ap, bindD_ap, lift_some, lift_none, ofB_ap, truth_ap, asB_ap, cnd_t, cnd_f, ite_ap, and_ap, or_ap, not_ap, ofBool_ap, andV_ap, orV_ap, cons_ap, consV_ap, consS_ap, E2_ap, IxN_ap, SlN_ap, SlE_ap, partR_int, part_ap, chain_ap, var_ap, sv_val, sv_own, peek_ap, pv'_val, pv'_own, pv'_brw, chk_ap, cv_some, bnS_ok, bnS_bad, bindS_ap, sq_nx, sq_ret, sq_brk, sq_cnt, sq_bad, seqS_ap, nextS_ap, brkS_ap, cntS_ap, neverS_ap, asgS_ap, retS_ap, dropS_ap, cndS_t, cndS_f, ifS_ap, par2_ap, asgT_ap, forS_ap, whS_ap, setIx_ap, List.getElem?_cons_succ, List.getElem?_cons_zero, List.set_cons_succ, List.set_cons_zero, Rv.d_val, Rv.d_new, Rv.sl, addO_int, subO_int, gtO_int, ltO_int, geO_int, leO_int, negO_int, intO1_int, lenO_tup, lenO_lst, listO_tup, listO_lst, tupleO_tup, tupleO_lst, max2O_int, min2O_int, tupO0, tupO1, tupO2, tupO3, tupO4, lstO0, lstO1, lstO2, lstO3, lstO4, lstO5, eqO_int, neO_int, eqO_tup, neO_tup, eqO_nil, neO_nil, call1, call2, call3, call4, call5, cres_ok, truth_bool, set_tp2, set_tp3, set_nm, set_ls2, I_len, decide_true, decide_false, Bool.not_true, Bool.not_false, inst_int, eq_self, callR1, callR2, callR3, cR_brw, finR_ok, d1, d2, rg2, d3, set34, cm, mk1, sh1, isn_tt, isn_ff, items_tup, items_lst, forL_nm, forL_nil, fl_nx, am1, il1, am2, il2, d4, m1, m2, s1, s2, s3, s4, get3_0, get3_1, get3_2, d5, sV, mV, rV1, rV2, sB, mB, rB1, rB2, sl, sl2, s22, cn, ne00, d6, d7, rep6, cat6, s5, par3_ap, p3_3, d8, d9, pow9, d10, d11, d12, lp, pr, r1, r2, esum, hle, pkj, pj, tm, dd, get2_1, pl, retR_ret]
  · simp -implicitDefEqProofs only [bnd_ok, bnd_exc, bnd_bad, pure_ap, bind_ap, bindD_ap, lift_some, lift_none, ofB_ap, truth_ap, asB_ap, cnd_t, cnd_f, ite_ap, and_ap, or_ap, not_ap, ofBool_ap, andV_ap, orV_ap, cons_ap, consV_ap, consS_ap, E2_ap, IxN_ap, SlN_ap, SlE_ap, partR_int, part_ap, chain_ap, var_ap, sv_val, sv_own, peek_ap, pv'_val, pv'_own, pv'_brw, chk_ap, cv_some, bnS_ok, bnS_bad, bindS_ap, sq_nx, sq_ret, sq_brk, sq_cnt, sq_bad, seqS_ap, nextS_ap, brkS_ap, cntS_ap, neverS_ap, asgS_ap, retS_ap, dropS_ap, cndS_t, cndS_f, ifS_ap, par2_ap, asgT_ap, forS_ap, whS_ap, setIx_ap, List.getElem?_cons_succ, List.getElem?_cons_zero, List.set_cons_succ, List.set_cons_zero, Rv.d_val, Rv.d_new, Rv.sl, addO_int, subO_int, gtO_int, ltO_int, geO_int, leO_int, negO_int, intO1_int, lenO_tup, lenO_lst, listO_tup, listO_lst, tupleO_tup, tupleO_lst, max2O_int, min2O_int, tupO0, tupO1, tupO2, tupO3, tupO4, lstO0, lstO1, lstO2, lstO3, lstO4, lstO5, eqO_int, neO_int, eqO_tup, neO_tup, eqO_nil, neO_nil, call1, call2, call3, call4, call5, cres_ok, truth_bool, set_tp2, set_tp3, set_nm, set_ls2, I_len, decide_true, decide_false, Bool.not_true, Bool.not_false, inst_int, eq_self, callR1, callR2, callR3, cR_brw, finR_ok, d1, d2, rg2, d3, set34, cm, mk1, sh1, isn_tt, isn_ff, items_tup, items_lst, forL_nm, forL_nil, fl_nx, am1, il1, am2, il2, d4, m1, m2, s1, s2, s3, s4, get3_0, get3_1, get3_2, d5, sV, mV, rV1, rV2, sB, mB, rB1, rB2, sl, sl2, s22, cn, ne00, d6, d7, rep6, cat6, s5, par3_ap, p3_3, d8, d9, pow9, d10, d11, d12, lp, pr, r1, r2, esum, hle, pj, tm, dd, get2_1, pl, retR_ret]
end K01

set_option Elab.async false
set_option linter.all false
set_option maxRecDepth 100000
set_option maxHeartbeats 4000000
namespace K01
open PySem PySem.Spec PyProof.Rows L2 RZ Fx PM
abbrev SC (ns : List Int) : PyData := .dict (roK ns)
theorem sc_len {ns : List Int} : lenO (SC ns) = some (.val (.int (ns.length : Int))) := by
  show some (Rv.val (.int ((I ns).length : Int))) = _
  rw [I_len]
theorem sc_get {ns : List Int} {k : Nat} (h : k < ns.length) : getO (SC ns) (.int (k : Int)) = some (.val (.int (cf ns k))) := by
  show (atI (I ns) (k : Int)).map Rv.val = _
  rw [atI_nat rfl (by rw [I_len]; exact h), I_get h]; rfl
theorem asInts_I : ∀ L : List Int, asInts (I L) = some L
  | [] => rfl
  | x :: L => by
    show (asInts (I L)).map (x :: ·) = _
    rw [asInts_I L]; rfl
theorem sc_sum {ns : List Int} : ∃ ds v, sliceO none (some 1) (SC ns) = some (.new ds) ∧ sumO (.list ds) = some (.val (.int v)) := by
  refine ⟨Fx.cutD (I ns) none (some 1), ?_⟩
  have e : Fx.cutD (I ns) none (some 1) = I ((ns.drop (HT.sIx (I ns).length 0 none)).take (HT.sIx (I ns).length (I ns).length (some 1) - HT.sIx (I ns).length 0 none)) := by
    unfold Fx.cutD I
    rw [List.map_take, List.map_drop]
  refine ⟨((ns.drop (HT.sIx (I ns).length 0 none)).take (HT.sIx (I ns).length (I ns).length (some 1) - HT.sIx (I ns).length 0 none)).sum, rfl, ?_⟩
  rw [e]
  show (asInts _).map _ = _
  rw [asInts_I]; rfl
theorem consts : ∃ A B C : Int, powO (.int 10) (.int 60) = some (.val (.int A)) ∧ powO (.int A) (.int 5) = some (.val (.int B)) ∧ 0 < B ∧ B.natAbs < 2 ^ 1000 ∧ powO (.int 10) (.int 18) = some (.val (.int C)) :=
  ⟨10 ^ 60, 10 ^ 300, 10 ^ 18, by kernel_rfl, by kernel_rfl, by decide +kernel, by decide +kernel, by kernel_rfl⟩
theorem absO_int {c : Int} : absO (.int c) = some (.val (.int (if c < 0 then -c else c))) := rfl
theorem intO1_bool {b : Bool} : intO1 (.bool b) = some (.val (.int (if b then 1 else 0))) := rfl
def ptl : SM := seqS (asgS 3 (E2 mulO (E2 modO (M.bind (M.ofB (M.bind (peek 2) fun d => M.lift (absO d))) fun d => M.lift (intO1 d)) (M.ofB (E2 powO (E2 powO (M.pure (.val (.int 10))) (M.ofB (M.pure (.val (.int 60))))) (M.ofB (M.pure (.val (.int 5))))))) (M.ofB (M.bind (M.ofB (E2 geO (M.bind (peek 2) fun d => M.lift (absO d)) (M.ofB (E2 powO (M.pure (.val (.int 10))) (M.ofB (M.pure (.val (.int 18)))))))) fun d => M.lift (intO1 d))))) (seqS (asgS 4 (E2 modO (M.bind (peek 2) fun d => M.lift (intO1 d)) (M.ofB (M.pure (.val (.int 2305843009213693951)))))) (retS (M.bind (M.cons (var 3) (M.cons (E2 modO (M.bind (M.ofB (E2 addO (E2 addO (E2 mulO (var 4) (M.ofB (M.pure (.val (.int 99529))))) (M.ofB (E2 mulO (E2 mulO (M.pure (.val (.int 14869))) (peek 1)) (peek 1)))) (M.ofB (M.pure (.val (.int 9203)))))) fun d => M.lift (intO1 d)) (M.ofB (M.pure (.val (.int 2305843009213693921))))) (M.cons (M.pure (.val (.int 0))) (M.pure [])))) fun ds => M.lift (lstO ds))))
def pfst : SM := asgS 2 (M.ite (M.bind (E2 ltO (var 1) (M.ofB (M.bind (peek 0) fun d => M.lift (lenO d)))) asB) (IxN 0 (var 1)) (E2 addO (E2 addO (E2 modO (M.bind (M.ofB (M.bind (M.ofB (SlN 0 (M.pure none) (M.part (M.pure (.val (.int 1)))))) fun d => M.lift (sumO d))) fun d => M.lift (intO1 d)) (M.ofB (M.pure (.val (.int 1000003))))) (M.ofB (E2 mulO (M.pure (.val (.int 23003))) (peek 1)))) (M.ofB (M.pure (.val (.int 7603))))))
theorem pot_tail (d : PyData) (k : Nat) (hk : k < 10) (c : Int) : ∃ pot : List PyData, retOf (ptl [some (.val d), some (.val (.int (k : Int))), some (.val (.int c)), none, none]) = some (.new pot) ∧ Pot 0 pot := by
  obtain ⟨A, B, C, h1, h2, b0, b1, h3⟩ := consts
  generalize hx : (if c < 0 then -c else c) = x
  have x0 : 0 ≤ x := by rw [← hx]; split <;> omega
  have md := modO_int (a := x) (b := B) b0
  have y0 : 0 ≤ x % B := Int.emod_nonneg _ (by omega)
  have y1 : x % B < B := Int.emod_lt_of_pos _ b0
  have y2 : (x % B).natAbs < 2 ^ 1000 := by omega
  have md2 : modO (.int c) (.int 2305843009213693951) = some (.val (.int (c % 2305843009213693951))) := modO_int (by decide)
  have s0 : 0 ≤ c % 2305843009213693951 := Int.emod_nonneg _ (by decide)
  have s1 : c % 2305843009213693951 < 2305843009213693951 := Int.emod_lt_of_pos _ (by decide)
  generalize c % 2305843009213693951 = s at md2 s0 s1
  have m1 := mulK (a := s) (b := 99529) (n64 s0 (by omega)) (by decide : (99529 : Int).natAbs < 2 ^ 20) (by decide) (by decide)
  have m2 := mulK (a := 14869) (b := (k : Int)) (by decide : (14869 : Int).natAbs < 2 ^ 20) (n64 (by omega) (by omega)) (by decide) (by decide)
  have m3 := mulK (a := 14869 * (k : Int)) (b := (k : Int)) (n64 (by omega) (by omega)) (n64 (by omega) (by omega)) (by decide) (by decide)
  generalize hz : s * 99529 + 14869 * (k : Int) * (k : Int) + 9203 = z
  have md3 : modO (.int z) (.int 2305843009213693921) = some (.val (.int (z % 2305843009213693921))) := modO_int (by decide)
  have z0 : 0 ≤ z % 2305843009213693921 := Int.emod_nonneg _ (by decide)
  have z1 : z % 2305843009213693921 < 2305843009213693921 := Int.emod_lt_of_pos _ (by decide)
  have m4 := mulK (a := x % B) (b := (if decide (C ≤ x) = true then 1 else 0 : Int)) y2 (by split <;> decide : _ < 2 ^ 20) (by decide) (by decide)
  refine ⟨PD (x % B * (if decide (C ≤ x) = true then 1 else 0)) (z % 2305843009213693921) 0, ?_, ⟨_, _, _, rfl, ?_, ?_, z0, by omega, Int.le_refl _, by decide⟩⟩
  · unfold ptl
    simp -implicitDefEqProofs only [bnd_ok, bnd_exc, bnd_bad, pure_ap, bind_ap, bindD_ap, lift_some, lift_none, ofB_ap, truth_ap, asB_ap, cnd_t, cnd_f, ite_ap, and_ap, or_ap, not_ap, ofBool_ap, andV_ap, orV_ap, cons_ap, consV_ap, consS_ap, E2_ap, IxN_ap, SlN_ap, SlE_ap, partR_int, part_ap, chain_ap, var_ap, sv_val, sv_own, peek_ap, pv'_val, pv'_own, pv'_brw, chk_ap, cv_some, bnS_ok, bnS_bad, bindS_ap, sq_nx, sq_ret, sq_brk, sq_cnt, sq_bad, seqS_ap, nextS_ap, brkS_ap, cntS_ap, neverS_ap, asgS_ap, retS_ap, dropS_ap, cndS_t, cndS_f, ifS_ap, par2_ap, asgT_ap, forS_ap, whS_ap, setIx_ap, List.getElem?_cons_succ, List.getElem?_cons_zero, List.set_cons_succ, List.set_cons_zero, Rv.d_val, Rv.d_new, Rv.sl, addO_int, subO_int, gtO_int, ltO_int, geO_int, leO_int, negO_int, intO1_int, lenO_tup, lenO_lst, listO_tup, listO_lst, tupleO_tup, tupleO_lst, max2O_int, min2O_int, tupO0, tupO1, tupO2, tupO3, tupO4, lstO0, lstO1, lstO2, lstO3, lstO4, lstO5, eqO_int, neO_int, eqO_tup, neO_tup, eqO_nil, neO_nil, call1, call2, call3, call4, call5, cres_ok, truth_bool, set_tp2, set_tp3, set_nm, set_ls2, I_len, decide_true, decide_false, Bool.not_true, Bool.not_false, inst_int, eq_self, absO_int, hx, h1, h2, h3, md, intO1_bool, m4, md2, m1, m2, m3, hz, md3, retOf_ret]
  · split <;> omega
  · split
    · rw [Int.mul_one]; exact y2
    · rw [Int.mul_zero]; decide
theorem pot_eq {ns : List Int} {k : Nat} (hk : k < 10) : ∃ pot, f__law_pot [.v (SC ns), .v (.int (k : Int))] = .ok (.new pot) [] ∧ Pot 0 pot := by
  have fin : ∀ c : Int, pfst [some (.val (SC ns)), some (.val (.int (k : Int))), none, none, none] = .nx [some (.val (SC ns)), some (.val (.int (k : Int))), some (.val (.int c)), none, none] → ∃ pot, f__law_pot [.v (SC ns), .v (.int (k : Int))] = .ok (.new pot) [] ∧ Pot 0 pot := fun c hc => by
    obtain ⟨pot, e, hp⟩ := pot_tail (SC ns) k hk c
    refine ⟨pot, run_e (n := 5) (body := b__law_pot) (ds := [SC ns, .int (k : Int)]) ?_, hp⟩
    show retOf (seqS pfst ptl [some (.val (SC ns)), some (.val (.int (k : Int))), none, none, none]) = _
    rw [seqS_ap, hc, sq_nx]
    exact e
  by_cases hlt : k < ns.length
  · have hlt' : (k : Int) < (ns.length : Int) := by omega
    have g := sc_get hlt
    refine fin (cf ns k) ?_
    unfold pfst
    simp -implicitDefEqProofs only [bnd_ok, bnd_exc, bnd_bad, pure_ap, bind_ap, bindD_ap, lift_some, lift_none, ofB_ap, truth_ap, asB_ap, cnd_t, cnd_f, ite_ap, and_ap, or_ap, not_ap, ofBool_ap, andV_ap, orV_ap, cons_ap, consV_ap, consS_ap, E2_ap, IxN_ap, SlN_ap, SlE_ap, partR_int, part_ap, chain_ap, var_ap, sv_val, sv_own, peek_ap, pv'_val, pv'_own, pv'_brw, chk_ap, cv_some, bnS_ok, bnS_bad, bindS_ap, sq_nx, sq_ret, sq_brk, sq_cnt, sq_bad, seqS_ap, nextS_ap, brkS_ap, cntS_ap, neverS_ap, asgS_ap, retS_ap, dropS_ap, cndS_t, cndS_f, ifS_ap, par2_ap, asgT_ap, forS_ap, whS_ap, setIx_ap, List.getElem?_cons_succ, List.getElem?_cons_zero, List.set_cons_succ, List.set_cons_zero, Rv.d_val, Rv.d_new, Rv.sl, addO_int, subO_int, gtO_int, ltO_int, geO_int, leO_int, negO_int, intO1_int, lenO_tup, lenO_lst, listO_tup, listO_lst, tupleO_tup, tupleO_lst, max2O_int, min2O_int, tupO0, tupO1, tupO2, tupO3, tupO4, lstO0, lstO1, lstO2, lstO3, lstO4, lstO5, eqO_int, neO_int, eqO_tup, neO_tup, eqO_nil, neO_nil, call1, call2, call3, call4, call5, cres_ok, truth_bool, set_tp2, set_tp3, set_nm, set_ls2, I_len, decide_true, decide_false, Bool.not_true, Bool.not_false, inst_int, eq_self, sc_len, hlt', g]
  · have hlt' : ¬ (k : Int) < (ns.length : Int) := by omega
    obtain ⟨ds, v, h1, h2⟩ := sc_sum (ns := ns)
    have md : modO (.int v) (.int 1000003) = some (.val (.int (v % 1000003))) := modO_int (by decide)
    have m := mulK (a := 23003) (b := (k : Int)) (by decide : (23003 : Int).natAbs < 2 ^ 20) (n64 (by omega) (by omega)) (by decide) (by decide)
    refine fin (v % 1000003 + 23003 * (k : Int) + 7603) ?_
    unfold pfst
    simp -implicitDefEqProofs only [bnd_ok, bnd_exc, bnd_bad, pure_ap, bind_ap, bindD_ap, lift_some, lift_none, ofB_ap, truth_ap, asB_ap, cnd_t, cnd_f, ite_ap, and_ap, or_ap, not_ap, ofBool_ap, andV_ap, orV_ap, cons_ap, consV_ap, consS_ap, E2_ap, IxN_ap, SlN_ap, SlE_ap, partR_int, part_ap, chain_ap, var_ap, sv_val, sv_own, peek_ap, pv'_val, pv'_own, pv'_brw, chk_ap, cv_some, bnS_ok, bnS_bad, bindS_ap, sq_nx, sq_ret, sq_brk, sq_cnt, sq_bad, seqS_ap, nextS_ap, brkS_ap, cntS_ap, neverS_ap, asgS_ap, retS_ap, dropS_ap, cndS_t, cndS_f, ifS_ap, par2_ap, asgT_ap, forS_ap, whS_ap, setIx_ap, List.getElem?_cons_succ, List.getElem?_cons_zero, List.set_cons_succ, List.set_cons_zero, Rv.d_val, Rv.d_new, Rv.sl, addO_int, subO_int, gtO_int, ltO_int, geO_int, leO_int, negO_int, intO1_int, lenO_tup, lenO_lst, listO_tup, listO_lst, tupleO_tup, tupleO_lst, max2O_int, min2O_int, tupO0, tupO1, tupO2, tupO3, tupO4, lstO0, lstO1, lstO2, lstO3, lstO4, lstO5, eqO_int, neO_int, eqO_tup, neO_tup, eqO_nil, neO_nil, call1, call2, call3, call4, call5, cres_ok, truth_bool, set_tp2, set_tp3, set_nm, set_ls2, I_len, decide_true, decide_false, Bool.not_true, Bool.not_false, inst_int, eq_self, sc_len, hlt', h1, h2, md, m]
theorem cells_eq {ns : List Int} (hl : ns.length ≤ 63) : ∃ ds, f__law_cells [.v (SC ns), .v (.int 2)] = .ok (.new ds) [] ∧ (ds = [.int ((0 : Nat) : Int)] ∨ ds = [.int ((0 : Nat) : Int), .int ((1 : Nat) : Int)]) := by
  have h : max 1 (min 2 (ns.length : Int)) = 1 ∨ max 1 (min 2 (ns.length : Int)) = 2 := by omega
  have l1 : lrg1O (.int 1) = some (.new [.int ((0 : Nat) : Int)]) := by kernel_rfl
  have l2 : lrg1O (.int 2) = some (.new [.int ((0 : Nat) : Int), .int ((1 : Nat) : Int)]) := by kernel_rfl
  rcases h with h | h
  · refine ⟨_, run_e (n := 2) (body := b__law_cells) (ds := [SC ns, .int 2]) ?_, .inl rfl⟩
    show retOf (b__law_cells [some (.val (SC ns)), some (.val (.int 2))]) = _
    unfold b__law_cells
    simp -implicitDefEqProofs only [bnd_ok, bnd_exc, bnd_bad, pure_ap, bind_ap, bindD_ap, lift_some, lift_none, ofB_ap, truth_ap, asB_ap, cnd_t, cnd_f, ite_ap, and_ap, or_ap, not_ap, ofBool_ap, andV_ap, orV_ap, cons_ap, consV_ap, consS_ap, E2_ap, IxN_ap, SlN_ap, SlE_ap, partR_int, part_ap, chain_ap, var_ap, sv_val, sv_own, peek_ap, pv'_val, pv'_own, pv'_brw, chk_ap, cv_some, bnS_ok, bnS_bad, bindS_ap, sq_nx, sq_ret, sq_brk, sq_cnt, sq_bad, seqS_ap, nextS_ap, brkS_ap, cntS_ap, neverS_ap, asgS_ap, retS_ap, dropS_ap, cndS_t, cndS_f, ifS_ap, par2_ap, asgT_ap, forS_ap, whS_ap, setIx_ap, List.getElem?_cons_succ, List.getElem?_cons_zero, List.set_cons_succ, List.set_cons_zero, Rv.d_val, Rv.d_new, Rv.sl, addO_int, subO_int, gtO_int, ltO_int, geO_int, leO_int, negO_int, intO1_int, lenO_tup, lenO_lst, listO_tup, listO_lst, tupleO_tup, tupleO_lst, max2O_int, min2O_int, tupO0, tupO1, tupO2, tupO3, tupO4, lstO0, lstO1, lstO2, lstO3, lstO4, lstO5, eqO_int, neO_int, eqO_tup, neO_tup, eqO_nil, neO_nil, call1, call2, call3, call4, call5, cres_ok, truth_bool, set_tp2, set_tp3, set_nm, set_ls2, I_len, decide_true, decide_false, Bool.not_true, Bool.not_false, inst_int, eq_self, sc_len, h, l1, retOf_ret]
  · refine ⟨_, run_e (n := 2) (body := b__law_cells) (ds := [SC ns, .int 2]) ?_, .inr rfl⟩
    show retOf (b__law_cells [some (.val (SC ns)), some (.val (.int 2))]) = _
    unfold b__law_cells
    simp -implicitDefEqProofs only [bnd_ok, bnd_exc, bnd_bad, pure_ap, bind_ap, bindD_ap, lift_some, lift_none, ofB_ap, truth_ap, asB_ap, cnd_t, cnd_f, ite_ap, and_ap, or_ap, not_ap, ofBool_ap, andV_ap, orV_ap, cons_ap, consV_ap, consS_ap, E2_ap, IxN_ap, SlN_ap, SlE_ap, partR_int, part_ap, chain_ap, var_ap, sv_val, sv_own, peek_ap, pv'_val, pv'_own, pv'_brw, chk_ap, cv_some, bnS_ok, bnS_bad, bindS_ap, sq_nx, sq_ret, sq_brk, sq_cnt, sq_bad, seqS_ap, nextS_ap, brkS_ap, cntS_ap, neverS_ap, asgS_ap, retS_ap, dropS_ap, cndS_t, cndS_f, ifS_ap, par2_ap, asgT_ap, forS_ap, whS_ap, setIx_ap, List.getElem?_cons_succ, List.getElem?_cons_zero, List.set_cons_succ, List.set_cons_zero, Rv.d_val, Rv.d_new, Rv.sl, addO_int, subO_int, gtO_int, ltO_int, geO_int, leO_int, negO_int, intO1_int, lenO_tup, lenO_lst, listO_tup, listO_lst, tupleO_tup, tupleO_lst, max2O_int, min2O_int, tupO0, tupO1, tupO2, tupO3, tupO4, lstO0, lstO1, lstO2, lstO3, lstO4, lstO5, eqO_int, neO_int, eqO_tup, neO_tup, eqO_nil, neO_nil, call1, call2, call3, call4, call5, cres_ok, truth_bool, set_tp2, set_tp3, set_nm, set_ls2, I_len, decide_true, decide_false, Bool.not_true, Bool.not_false, inst_int, eq_self, sc_len, h, l2, retOf_ret]
theorem lap_loop (x0 x1 : Option Sl) : ∀ (ds : List PyData) (n : Nat) (pot : List PyData) (u : Option Sl), n + 5000 * ds.length < 2 ^ 30 → Pot n pot → ∃ pot' u',
    forL (.nm 3) (ifS (M.not (M.truth (M.ofB (M.bind (M.consS 2 (M.pure [])) (callB 1 f__law_right))))) (retS (M.pure (.val (.bool false)))) (nextS)) ds [x0, x1, some (.own pot), u] = .nx [x0, x1, some (.own pot'), u']
  | [], n, pot, u, _, _ => ⟨pot, u, rfl⟩
  | x :: ds, n, pot, u, hn, hp => by
    have hn : n + 5000 * (ds.length + 1) < 2 ^ 30 := hn
    obtain ⟨pot1, e, hp1⟩ := right_eq (by omega) hp
    obtain ⟨pot', u', ih⟩ := lap_loop x0 x1 ds (n + 5000) pot1 (some (.val x)) (by omega) hp1
    refine ⟨pot', u', ?_⟩
    rw [forL_nm]
    simp -implicitDefEqProofs only [bnd_ok, bnd_exc, bnd_bad, pure_ap, bind_ap, bindD_ap, lift_some, lift_none, ofB_ap, truth_ap, asB_ap, cnd_t, cnd_f, ite_ap, and_ap, or_ap, not_ap, ofBool_ap, andV_ap, orV_ap, cons_ap, consV_ap, consS_ap, E2_ap, IxN_ap, SlN_ap, SlE_ap, partR_int, part_ap, chain_ap, var_ap, sv_val, sv_own, peek_ap, pv'_val, pv'_own, pv'_brw, chk_ap, cv_some, bnS_ok, bnS_bad, bindS_ap, sq_nx, sq_ret, sq_brk, sq_cnt, sq_bad, seqS_ap, nextS_ap, brkS_ap, cntS_ap, neverS_ap, asgS_ap, retS_ap, dropS_ap, cndS_t, cndS_f, ifS_ap, par2_ap, asgT_ap, forS_ap, whS_ap, setIx_ap, List.getElem?_cons_succ, List.getElem?_cons_zero, List.set_cons_succ, List.set_cons_zero, Rv.d_val, Rv.d_new, Rv.sl, addO_int, subO_int, gtO_int, ltO_int, geO_int, leO_int, negO_int, intO1_int, lenO_tup, lenO_lst, listO_tup, listO_lst, tupleO_tup, tupleO_lst, max2O_int, min2O_int, tupO0, tupO1, tupO2, tupO3, tupO4, lstO0, lstO1, lstO2, lstO3, lstO4, lstO5, eqO_int, neO_int, eqO_tup, neO_tup, eqO_nil, neO_nil, call1, call2, call3, call4, call5, cres_ok, truth_bool, set_tp2, set_tp3, set_nm, set_ls2, I_len, decide_true, decide_false, Bool.not_true, Bool.not_false, inst_int, eq_self, callR1, cR_own, e, finR_ok, fl_nx]
    exact ih
theorem law_ok (ns : List Int) (hl : ns.length ≤ 63) : f_law [.v (.dict (roK ns))] = .ok (.val (.bool true)) [] := by
  obtain ⟨ds, ce, hds⟩ := cells_eq hl
  obtain ⟨pot0, p0, q0⟩ := pot_eq (ns := ns) (k := 0) (by decide)
  obtain ⟨pot1, p1, q1⟩ := pot_eq (ns := ns) (k := 1) (by decide)
  obtain ⟨a0, u0, l0⟩ := lap_loop (some (.val (SC ns))) (some (.val (.int ((0 : Nat) : Int)))) (rangeD1 0 4) 0 pot0 none (by decide) q0
  obtain ⟨a1, u1, l1⟩ := lap_loop (some (.val (SC ns))) (some (.val (.int ((1 : Nat) : Int)))) (rangeD1 0 4) 0 pot1 u0 (by decide) q1
  have rg : rng1 [.int 4] = M.pure (rangeD1 0 4) := rng1_int (j := 4) (by decide)
  refine run_e (n := 4) (body := b_law) (ds := [SC ns]) ?_
  show retOf (b_law [some (.val (SC ns)), none, none, none]) = _
  unfold b_law
  rcases hds with h | h <;> subst h
  · simp -implicitDefEqProofs only [bnd_ok, bnd_exc, bnd_bad, pure_ap, bind_ap, bindD_ap, lift_some, lift_none, ofB_ap, truth_ap, asB_ap, cnd_t, cnd_f, ite_ap, and_ap, or_ap, not_ap, ofBool_ap, andV_ap, orV_ap, cons_ap, consV_ap, consS_ap, E2_ap, IxN_ap, SlN_ap, SlE_ap, partR_int, part_ap, chain_ap, var_ap, sv_val, sv_own, peek_ap, pv'_val, pv'_own, pv'_brw, chk_ap, cv_some, bnS_ok, bnS_bad, bindS_ap, sq_nx, sq_ret, sq_brk, sq_cnt, sq_bad, seqS_ap, nextS_ap, brkS_ap, cntS_ap, neverS_ap, asgS_ap, retS_ap, dropS_ap, cndS_t, cndS_f, ifS_ap, par2_ap, asgT_ap, forS_ap, whS_ap, setIx_ap, List.getElem?_cons_succ, List.getElem?_cons_zero, List.set_cons_succ, List.set_cons_zero, Rv.d_val, Rv.d_new, Rv.sl, addO_int, subO_int, gtO_int, ltO_int, geO_int, leO_int, negO_int, intO1_int, lenO_tup, lenO_lst, listO_tup, listO_lst, tupleO_tup, tupleO_lst, max2O_int, min2O_int, tupO0, tupO1, tupO2, tupO3, tupO4, lstO0, lstO1, lstO2, lstO3, lstO4, lstO5, eqO_int, neO_int, eqO_tup, neO_tup, eqO_nil, neO_nil, call1, call2, call3, call4, call5, cres_ok, truth_bool, set_tp2, set_tp3, set_nm, set_ls2, I_len, decide_true, decide_false, Bool.not_true, Bool.not_false, inst_int, eq_self, ce, items_lst, forL_nm, forL_nil, fl_nx, p0, rg, l0, retOf_ret]
  · simp -implicitDefEqProofs only [bnd_ok, bnd_exc, bnd_bad, pure_ap, bind_ap, bindD_ap, lift_some, lift_none, ofB_ap, truth_ap, asB_ap, cnd_t, cnd_f, ite_ap, and_ap, or_ap, not_ap, ofBool_ap, andV_ap, orV_ap, cons_ap, consV_ap, consS_ap, E2_ap, IxN_ap, SlN_ap, SlE_ap, partR_int, part_ap, chain_ap, var_ap, sv_val, sv_own, peek_ap, pv'_val, pv'_own, pv'_brw, chk_ap, cv_some, bnS_ok, bnS_bad, bindS_ap, sq_nx, sq_ret, sq_brk, sq_cnt, sq_bad, seqS_ap, nextS_ap, brkS_ap, cntS_ap, neverS_ap, asgS_ap, retS_ap, dropS_ap, cndS_t, cndS_f, ifS_ap, par2_ap, asgT_ap, forS_ap, whS_ap, setIx_ap, List.getElem?_cons_succ, List.getElem?_cons_zero, List.set_cons_succ, List.set_cons_zero, Rv.d_val, Rv.d_new, Rv.sl, addO_int, subO_int, gtO_int, ltO_int, geO_int, leO_int, negO_int, intO1_int, lenO_tup, lenO_lst, listO_tup, listO_lst, tupleO_tup, tupleO_lst, max2O_int, min2O_int, tupO0, tupO1, tupO2, tupO3, tupO4, lstO0, lstO1, lstO2, lstO3, lstO4, lstO5, eqO_int, neO_int, eqO_tup, neO_tup, eqO_nil, neO_nil, call1, call2, call3, call4, call5, cres_ok, truth_bool, set_tp2, set_tp3, set_nm, set_ls2, I_len, decide_true, decide_false, Bool.not_true, Bool.not_false, inst_int, eq_self, ce, items_lst, forL_nm, forL_nil, fl_nx, p0, p1, rg, l0, l1, retOf_ret]
end K01

set_option Elab.async false
set_option linter.all false
set_option maxRecDepth 100000
set_option maxHeartbeats 2000000
namespace K01
open PySem PySem.Spec PyProof.Rows L2 RZ Fx

def fa : List He.Fa := (.glo "is_integer") :: (.glo "is_between") :: (.glo "check_field") :: (.glo "are_numbers") :: (.glo "is_poly_of") :: (.glo "cut") :: (.glo "inverse_number") :: (.glo "add_polys") :: (.glo "scaled") :: (.glo "take_polys") :: (.glo "mul_polys") :: (.glo "div_polys") :: (.glo "rest_of") :: (.glo "monic") :: (.glo "common_of") :: (.glo "divisor_of") :: (.glo "power_modulo") :: (.glo "check_poly") :: (.glo "check_two") :: (.glo "times") :: (.glo "divided") :: (.glo "common") :: (.glo "shows_common") :: (.glo "power_rest") :: (.glo "_law_pot") :: (.glo "_law_take") :: (.glo "_law_of") :: (.glo "_law_cells") :: (.glo "_law_trim") :: (.glo "_law_sum") :: (.glo "_law_mul") :: (.glo "_law_inverse_of") :: (.glo "_law_divide") :: (.glo "_law_monic") :: (.glo "_law_gcd") :: (.glo "_law_field") :: (.glo "_law_poly") :: (.glo "_law_all_monic") :: (.glo "_law_power_rest") :: (.glo "_law_makes") :: (.glo "_law_right") :: (.glo "law") :: (.free "abs") :: (.free "all") :: (.free "bool") :: (.free "enumerate") :: (.free "int") :: (.free "isinstance") :: (.free "len") :: (.free "list") :: (.free "max") :: (.free "min") :: (.free "range") :: (.free "repr") :: (.free "sum") :: (.free "tuple") :: (.free "zip") :: []
def fn : List He.DefD := dfD "is_integer" (top 10) :: dfD "is_between" (top 11) :: dfD "check_field" (top 12) :: dfD "are_numbers" (top 13) :: dfD "is_poly_of" (top 14) :: dfD "cut" (top 15) :: dfD "inverse_number" (top 16) :: dfD "add_polys" (top 17) :: dfD "scaled" (top 18) :: dfD "take_polys" (top 19) :: dfD "mul_polys" (top 20) :: dfD "div_polys" (top 21) :: dfD "rest_of" (top 22) :: dfD "monic" (top 23) :: dfD "common_of" (top 24) :: dfD "divisor_of" (top 25) :: dfD "power_modulo" (top 26) :: dfD "check_poly" (top 29) :: dfD "check_two" (top 30) :: dfD "times" (top 31) :: dfD "divided" (top 32) :: dfD "common" (top 33) :: dfD "shows_common" (top 34) :: dfD "power_rest" (top 35) :: dfD "_law_pot" (top 37) :: dfD "_law_take" (top 38) :: dfD "_law_of" (top 39) :: dfD "_law_cells" (top 40) :: dfD "_law_trim" (top 41) :: dfD "_law_sum" (top 42) :: dfD "_law_mul" (top 43) :: dfD "_law_inverse_of" (top 44) :: dfD "_law_divide" (top 45) :: dfD "_law_monic" (top 46) :: dfD "_law_gcd" (top 47) :: dfD "_law_field" (top 48) :: dfD "_law_poly" (top 49) :: dfD "_law_all_monic" (top 50) :: dfD "_law_power_rest" (top 51) :: dfD "_law_makes" (top 52) :: dfD "_law_right" (top 53) :: dfD "law" (top 54) :: []
def ex (K : PySem.W.Frag) : Bool := constB K "FIELDS" k_FIELDS && constB K "MOST_DEGREE" k_MOST_DEGREE && constB K "GREATEST_MANY" k_GREATEST_MANY
abbrev R : PySem.W.OpenRow := PySem.W.OpenLaw.row PySem.Challenge.rw_linearmapsaid_k01_whole_greatest_common
abbrev hk : PySem.W.Hook := He.hookX 4 fa fn [] [] ex
def ob (s : PySem.W.SharedT) : He.AlX := He.obsX 4 fa fn [] [] ex (HandSHeadRun.getT s)
theorem ob_eq (s : PySem.W.SharedT) : ob s = hk.obs s.abs := He.obsX_eq (HandSHeadRun.getT_eq s)
def loose : List Str := "MapError" :: "BadField" :: "BadPoly" :: "TooGreat" :: "ByNought" :: "BadNumber" :: "FIELDS" :: "MOST_DEGREE" :: "is_integer" :: "is_between" :: "check_field" :: "are_numbers" :: "is_poly_of" :: "cut" :: "inverse_number" :: "add_polys" :: "scaled" :: "take_polys" :: "mul_polys" :: "div_polys" :: "rest_of" :: "monic" :: "common_of" :: "divisor_of" :: "power_modulo" :: "GREATEST_MANY" :: "check_poly" :: "check_two" :: "times" :: "divided" :: "common" :: "shows_common" :: "power_rest" :: "_law_pot" :: "_law_take" :: "_law_of" :: "_law_cells" :: "_law_trim" :: "_law_sum" :: "_law_mul" :: "_law_inverse_of" :: "_law_divide" :: "_law_monic" :: "_law_gcd" :: "_law_field" :: "_law_poly" :: "_law_all_monic" :: "_law_power_rest" :: "_law_makes" :: "_law_right" :: []
theorem run (w : World) : HandSHeadRun.RunEq R (PySem.W.view R.prog [54]) hk ob 4000 loose w := by
  intro os
  kernel_rfl
theorem mk {K : PySem.W.Frag} {h : Heap} {mg : Str → Option Value} (X : K.In h) (G : h.Ns mainGlobals mg) {w : World} (c : He.SaysX fa fn [] [] ex w h K) : Facts K mg := by
  have cd := c.t.d
  have m := c.more
  unfold ex at m
  simp only [Bool.and_eq_true] at m
  obtain ⟨⟨m0, m1⟩, m2⟩ := m
  exact ⟨He.free_ok X G (cd.fact 42 (f := .free "abs") rfl),
    He.free_ok X G (cd.fact 43 (f := .free "all") rfl),
    He.free_ok X G (cd.fact 44 (f := .free "bool") rfl),
    He.free_ok X G (cd.fact 45 (f := .free "enumerate") rfl),
    He.free_ok X G (cd.fact 46 (f := .free "int") rfl),
    He.free_ok X G (cd.fact 47 (f := .free "isinstance") rfl),
    He.free_ok X G (cd.fact 48 (f := .free "len") rfl),
    He.free_ok X G (cd.fact 49 (f := .free "list") rfl),
    He.free_ok X G (cd.fact 50 (f := .free "max") rfl),
    He.free_ok X G (cd.fact 51 (f := .free "min") rfl),
    He.free_ok X G (cd.fact 52 (f := .free "range") rfl),
    He.free_ok X G (cd.fact 53 (f := .free "repr") rfl),
    He.free_ok X G (cd.fact 54 (f := .free "sum") rfl),
    He.free_ok X G (cd.fact 55 (f := .free "tuple") rfl),
    He.free_ok X G (cd.fact 56 (f := .free "zip") rfl),
    gc_const X G m0,
    gc_const X G m1,
    gc_const X G m2,
    df_of X G cd 0 0 rfl rfl (fun _ _ _ _ _ _ us hl => match us, hl with | [_], _ => rfl),
    df_of X G cd 1 1 rfl rfl (fun _ _ _ _ _ _ us hl => match us, hl with | [_, _, _], _ => rfl),
    df_of X G cd 2 2 rfl rfl (fun _ _ _ _ _ _ us hl => match us, hl with | [_], _ => rfl),
    df_of X G cd 3 3 rfl rfl (fun _ _ _ _ _ _ us hl => match us, hl with | [_, _], _ => rfl),
    df_of X G cd 4 4 rfl rfl (fun _ _ _ _ _ _ us hl => match us, hl with | [_, _, _], _ => rfl),
    df_of X G cd 5 5 rfl rfl (fun _ _ _ _ _ _ us hl => match us, hl with | [_], _ => rfl),
    df_of X G cd 6 6 rfl rfl (fun _ _ _ _ _ _ us hl => match us, hl with | [_, _], _ => rfl),
    df_of X G cd 7 7 rfl rfl (fun _ _ _ _ _ _ us hl => match us, hl with | [_, _, _], _ => rfl),
    df_of X G cd 8 8 rfl rfl (fun _ _ _ _ _ _ us hl => match us, hl with | [_, _, _], _ => rfl),
    df_of X G cd 9 9 rfl rfl (fun _ _ _ _ _ _ us hl => match us, hl with | [_, _, _], _ => rfl),
    df_of X G cd 10 10 rfl rfl (fun _ _ _ _ _ _ us hl => match us, hl with | [_, _, _], _ => rfl),
    df_of X G cd 11 11 rfl rfl (fun _ _ _ _ _ _ us hl => match us, hl with | [_, _, _], _ => rfl),
    df_of X G cd 12 12 rfl rfl (fun _ _ _ _ _ _ us hl => match us, hl with | [_, _, _], _ => rfl),
    df_of X G cd 13 13 rfl rfl (fun _ _ _ _ _ _ us hl => match us, hl with | [_, _], _ => rfl),
    df_of X G cd 14 14 rfl rfl (fun _ _ _ _ _ _ us hl => match us, hl with | [_, _, _], _ => rfl),
    df_of X G cd 15 15 rfl rfl (fun _ _ _ _ _ _ us hl => match us, hl with | [_, _, _], _ => rfl),
    df_of X G cd 16 16 rfl rfl (fun _ _ _ _ _ _ us hl => match us, hl with | [_, _, _, _], _ => rfl),
    df_of X G cd 17 17 rfl rfl (fun _ _ _ _ _ _ us hl => match us, hl with | [_, _], _ => rfl),
    df_of X G cd 18 18 rfl rfl (fun _ _ _ _ _ _ us hl => match us, hl with | [_, _, _], _ => rfl),
    df_of X G cd 19 19 rfl rfl (fun _ _ _ _ _ _ us hl => match us, hl with | [_, _, _], _ => rfl),
    df_of X G cd 20 20 rfl rfl (fun _ _ _ _ _ _ us hl => match us, hl with | [_, _, _], _ => rfl),
    df_of X G cd 21 21 rfl rfl (fun _ _ _ _ _ _ us hl => match us, hl with | [_, _, _], _ => rfl),
    df_of X G cd 22 22 rfl rfl (fun _ _ _ _ _ _ us hl => match us, hl with | [_, _, _, _], _ => rfl),
    df_of X G cd 23 23 rfl rfl (fun _ _ _ _ _ _ us hl => match us, hl with | [_, _, _, _], _ => rfl),
    df_of X G cd 24 24 rfl rfl (fun _ _ _ _ _ _ us hl => match us, hl with | [_, _], _ => rfl),
    df_of X G cd 25 25 rfl rfl (fun _ _ _ _ _ _ us hl => match us, hl with | [_, _], _ => rfl),
    df_of X G cd 26 26 rfl rfl (fun _ _ _ _ _ _ us hl => match us, hl with | [_, _], _ => rfl),
    df_of X G cd 27 27 rfl rfl (fun _ _ _ _ _ _ us hl => match us, hl with | [_, _], _ => rfl),
    df_of X G cd 28 28 rfl rfl (fun _ _ _ _ _ _ us hl => match us, hl with | [_], _ => rfl),
    df_of X G cd 29 29 rfl rfl (fun _ _ _ _ _ _ us hl => match us, hl with | [_, _, _, _], _ => rfl),
    df_of X G cd 30 30 rfl rfl (fun _ _ _ _ _ _ us hl => match us, hl with | [_, _, _], _ => rfl),
    df_of X G cd 31 31 rfl rfl (fun _ _ _ _ _ _ us hl => match us, hl with | [_, _], _ => rfl),
    df_of X G cd 32 32 rfl rfl (fun _ _ _ _ _ _ us hl => match us, hl with | [_, _, _], _ => rfl),
    df_of X G cd 33 33 rfl rfl (fun _ _ _ _ _ _ us hl => match us, hl with | [_, _], _ => rfl),
    df_of X G cd 34 34 rfl rfl (fun _ _ _ _ _ _ us hl => match us, hl with | [_, _, _], _ => rfl),
    df_of X G cd 35 35 rfl rfl (fun _ _ _ _ _ _ us hl => match us, hl with | [_], _ => rfl),
    df_of X G cd 36 36 rfl rfl (fun _ _ _ _ _ _ us hl => match us, hl with | [_, _, _], _ => rfl),
    df_of X G cd 37 37 rfl rfl (fun _ _ _ _ _ _ us hl => match us, hl with | [_, _], _ => rfl),
    df_of X G cd 38 38 rfl rfl (fun _ _ _ _ _ _ us hl => match us, hl with | [_, _, _, _], _ => rfl),
    df_of X G cd 39 39 rfl rfl (fun _ _ _ _ _ _ us hl => match us, hl with | [_, _, _, _], _ => rfl),
    df_of X G cd 40 40 rfl rfl (fun _ _ _ _ _ _ us hl => match us, hl with | [_], _ => rfl),
    df_of X G cd 41 41 rfl rfl (fun _ _ _ _ _ _ us hl => match us, hl with | [_], _ => rfl)⟩
end K01
open PySem PySem.W PySem.Calls PyProof.Rows
theorem K01.final (law_ok : ∀ ns : List Int, ns.length ≤ 63 → K01.f_law [.v (.dict (Fx.roK ns))] = .ok (.val (.bool true)) []) : PySem.Challenge.rw_linearmapsaid_k01_whole_greatest_common.Holds := by
  w_on; o_law
  refine HandSHeadRun.head_any (r := K01.R) (q := view K01.R.prog [54]) (H := K01.hk) (ob := K01.ob) (M := 4000) (loose := K01.loose) (d := HandSHeadRun.topDef K01.R.prog 54) (kwd := []) K01.ob_eq
    (by kernel_rfl) (fun s => by kernel_rfl) K01.run (by kernel_rfl) (by kernel_rfl) (by kernel_rfl) (by rfl) (by first | assumption | decide +kernel) (by decide +kernel) ⟨rfl, rfl, rfl, rfl, rfl, by decide +kernel⟩ ?hw ?hc
  case hw => w_witness2
  case hc =>
    refine Fx.walk_ofG (l := PySem.Challenge.rw_linearmapsaid_k01_whole_greatest_common) (n := 63) (k := 9) rfl (by decide) (by kernel_rfl) ⟨rfl, by decide, by decide⟩ ?F Fx.noCX
    intro w mg fa h Y G hmg0
    obtain ⟨K, KX, c⟩ := Y
    have hmg : mg ("law" : PySem.Str) = some (.ref fa) := by
      have e : (HandSHeadRun.topDef K01.R.prog 54).name = ("law" : PySem.Str) := by kernel_rfl
      rw [← e]
      exact hmg0
    have Fc := K01.mk KX G c
    exact ⟨K, Fx.spF K mg 1 K01.f_law, KX, fun H a ns hl hO hS => Fx.law_sp hO hS (law_ok ns hl), fun base _ _ => Fx.cal_at (K01.ok_law Fc) hmg⟩

theorem PySem.Challenge.cw_linearmapsaid_k01_whole_greatest_common_holds : PySem.Challenge.rw_linearmapsaid_k01_whole_greatest_common.Holds := by
  exact K01.final K01.law_ok
