import PyProof.Rows.All
import Wide.All
import OpenK.AllK
import Wide.FinOn
import HandS.ForMost
import HandS.Flow
import HandS.Style
import HandS.IsInst
import HandS.Deep
import HandS.Zip
import HandS.TupAny
import HandS.TupMul
import HandS.Conv
import HandS.Defaults
import KE.GoesEnum
import KE.GoesMore
import PyProof.SumAny
import HandS.TupSets
import HandS.Head0
import HandS.Head1
import HandS.Head2
import HandS.HeadEnd
import HandS.HeadHook1
import HandS.HeadHook2
import PySem.Challenge.RW_stillpanes_k15_whole_presses_and_rows_be
set_option Elab.async false
set_option linter.all false
set_option maxRecDepth 100000
set_option maxHeartbeats 4000000
/-! PnBase: values as data with the heap hidden. -/
namespace Pn
open PySem PySem.Spec PyProof.Rows L2

/-! ### data in a known heap -/
mutual
inductive Rp (G : Hp) : V → PyData → Prop
  | non : Rp G .non .none
  | bl (b : Bool) : Rp G (.bl b) (.bool b)
  | int (i : Int) : Rp G (.int i) (.int i)
  | str (x : Str) : Rp G (.str x) (.str x)
  | lst {a : Addr} {xs : List V} {ds : List PyData} : G a = some (.lst xs) → RpA G xs ds → Rp G (.ref a) (.list ds)
  | tup {a : Addr} {xs : List V} {ds : List PyData} : G a = some (.tup xs) → RpA G xs ds → Rp G (.ref a) (.tuple ds)
inductive RpA (G : Hp) : List V → List PyData → Prop
  | nil : RpA G [] []
  | cons {v : V} {vs : List V} {d : PyData} {ds : List PyData} : Rp G v d → RpA G vs ds → RpA G (v :: vs) (d :: ds)
end
def Ex (H H' : Hp) : Prop := ∀ a o, H a = some o → H' a = some o
theorem Ex.refl (H : Hp) : Ex H H := fun _ _ h => h
theorem Ex.trans {H H1 H2 : Hp} (a : Ex H H1) (b : Ex H1 H2) : Ex H H2 := fun x o h => b x o (a x o h)
theorem Ex.new {H : Hp} {p : Addr} {o : HO} (h : H p = none) : Ex H (upd H p o) := fun a u e => by
  rw [upd_ne (ne_of_none e h)]
  exact e
theorem Ex.mut {H H' : Hp} {p : Addr} {o : HO} (e : Ex H H') (h : H p = none) : Ex H (upd H' p o) := fun a u ha => by
  rw [upd_ne (ne_of_none ha h)]
  exact e a u ha
theorem Ex.back {H H' : Hp} {p : Addr} (e : Ex H H') (h : H' p = none) : H p = none := by
  cases q : H p with
  | none => rfl
  | some o =>
    rw [e p o q] at h
    cases h
mutual
theorem Rp.mono {G G' : Hp} (e : Ex G G') : ∀ {v : V} {d : PyData}, Rp G v d → Rp G' v d
  | _, _, .non => .non
  | _, _, .bl b => .bl b
  | _, _, .int i => .int i
  | _, _, .str x => .str x
  | _, _, .lst h a => .lst (e _ _ h) (RpA.mono e a)
  | _, _, .tup h a => .tup (e _ _ h) (RpA.mono e a)
theorem RpA.mono {G G' : Hp} (e : Ex G G') : ∀ {vs : List V} {ds : List PyData}, RpA G vs ds → RpA G' vs ds
  | _, _, .nil => .nil
  | _, _, .cons h t => .cons (Rp.mono e h) (RpA.mono e t)
end
mutual
theorem Rp.dp {K : PySem.W.Frag} {G : Hp} : ∀ {v : V} {d : PyData}, Rp G v d → Dp K G v d
  | _, _, .non => .non
  | _, _, .bl b => .bl b
  | _, _, .int i => .int i
  | _, _, .str x => .str x
  | _, _, .lst h a => .lst (SqL.of h) (RpA.dp a)
  | _, _, .tup h a => .tup (SqT.of h) (RpA.dp a)
theorem RpA.dp {K : PySem.W.Frag} {G : Hp} : ∀ {vs : List V} {ds : List PyData}, RpA G vs ds → DpAll K G vs ds
  | _, _, .nil => .nil
  | _, _, .cons h t => .cons (Rp.dp h) (RpA.dp t)
end
section
variable {G : Hp}
theorem RpA.length : ∀ {vs : List V} {ds : List PyData}, RpA G vs ds → vs.length = ds.length
  | _, _, .nil => rfl
  | _, _, .cons _ t => congrArg (· + 1) (RpA.length t)
theorem RpA.get : ∀ {vs : List V} {ds : List PyData} {i : Nat} {d : PyData}, RpA G vs ds → ds[i]? = some d → ∃ v, vs[i]? = some v ∧ Rp G v d
  | _, _, _, _, .nil, h => by simp at h
  | _, _, 0, _, .cons h _, e => by
    simp at e
    subst e
    exact ⟨_, rfl, h⟩
  | _, _, i + 1, d, .cons _ t, e => by
    obtain ⟨v, h1, h2⟩ := RpA.get (i := i) (d := d) t (by simpa using e)
    exact ⟨v, by simpa using h1, h2⟩
theorem RpA.getV : ∀ {vs : List V} {ds : List PyData} {i : Nat} {v : V}, RpA G vs ds → vs[i]? = some v → ∃ d, ds[i]? = some d ∧ Rp G v d
  | _, _, _, _, .nil, h => by simp at h
  | _, _, 0, _, .cons h _, e => by
    simp at e
    subst e
    exact ⟨_, rfl, h⟩
  | _, _, i + 1, d, .cons _ t, e => by
    obtain ⟨v, h1, h2⟩ := RpA.getV (i := i) t (by simpa using e)
    exact ⟨v, by simpa using h1, h2⟩
theorem RpA.append : ∀ {xs ys : List V} {ds es : List PyData}, RpA G xs ds → RpA G ys es → RpA G (xs ++ ys) (ds ++ es)
  | _, _, _, _, .nil, s => s
  | _, _, _, _, .cons r t, s => .cons r (RpA.append t s)
theorem RpA.take : ∀ {xs : List V} {ds : List PyData} (n : Nat), RpA G xs ds → RpA G (xs.take n) (ds.take n)
  | _, _, 0, _ => .nil
  | _, _, _ + 1, .nil => .nil
  | _, _, n + 1, .cons r t => .cons r (RpA.take n t)
theorem RpA.drop : ∀ {xs : List V} {ds : List PyData} (n : Nat), RpA G xs ds → RpA G (xs.drop n) (ds.drop n)
  | _, _, 0, r => r
  | _, _, _ + 1, .nil => .nil
  | _, _, n + 1, .cons _ t => RpA.drop n t
theorem RpA.set {x : V} {d : PyData} (r : Rp G x d) : ∀ {xs : List V} {ds : List PyData} (i : Nat), RpA G xs ds → RpA G (xs.set i x) (ds.set i d)
  | _, _, _, .nil => .nil
  | _, _, 0, .cons _ t => .cons r t
  | _, _, i + 1, .cons q t => .cons q (RpA.set r i t)
theorem RpA.eraseIdx : ∀ {xs : List V} {ds : List PyData} (i : Nat), RpA G xs ds → RpA G (xs.eraseIdx i) (ds.eraseIdx i)
  | _, _, _, .nil => .nil
  | _, _, 0, .cons _ t => t
  | _, _, i + 1, .cons q t => .cons q (RpA.eraseIdx i t)
theorem RpA.rep {xs : List V} {ds : List PyData} (h : RpA G xs ds) : ∀ k : Nat, RpA G (List.replicate k xs).flatten (List.replicate k ds).flatten
  | 0 => .nil
  | k + 1 => by
    rw [List.replicate_succ, List.flatten_cons, List.replicate_succ, List.flatten_cons]
    exact h.append (RpA.rep h k)
theorem RpA.ints : ∀ (ns : List Int), RpA G (ns.map V.int) (ns.map PyData.int)
  | [] => .nil
  | n :: ns => .cons (.int n) (RpA.ints ns)
theorem RpA.ofInts : ∀ {ns : List Int} {vs : List V}, RpA G vs (ns.map PyData.int) → vs = ns.map V.int
  | [], _, .nil => rfl
  | n :: ns, _, .cons h t => by
    cases h
    rw [RpA.ofInts t]
    rfl
theorem RpA.bools : ∀ (bs : List Bool), RpA G (bs.map V.bl) (bs.map PyData.bool)
  | [] => .nil
  | n :: ns => .cons (.bl n) (RpA.bools ns)
theorem RpA.ofBools : ∀ {bs : List Bool} {vs : List V}, RpA G vs (bs.map PyData.bool) → vs = bs.map V.bl
  | [], _, .nil => rfl
  | n :: ns, _, .cons h t => by
    cases h
    rw [RpA.ofBools t]
    rfl
end

/-! ### growth: N is what is known behind, of H only what was known ahead or is new -/
structure Gr (T : Option Addr) (G H N H' : Hp) : Prop where
  gn : Ex G N
  fr : ∀ a o, N a = some o → G a = some o ∨ H a = none
  nh : Ex N H'
  hh : ∀ a o, T ≠ some a → H a = some o → H' a = some o
  ht : ∀ a o, H a = some o → ∃ o', H' a = some o'
section
variable {T : Option Addr} {G H N H' N2 H2 : Hp}
theorem Gr.refl (e : Ex G H) : Gr T G H G H := ⟨Ex.refl G, fun _ _ h => .inl h, e, fun _ _ _ h => h, fun _ _ h => ⟨_, h⟩⟩
theorem Gr.trans (a : Gr T G H N H') (b : Gr T N H' N2 H2) : Gr T G H N2 H2 where
  gn := a.gn.trans b.gn
  fr := fun x o e => by
    rcases b.fr x o e with h | h
    · exact a.fr x o h
    · refine .inr ?_
      cases q : H x with
      | none => rfl
      | some u =>
        obtain ⟨o', e'⟩ := a.ht x u q
        rw [e'] at h
        cases h
  nh := b.nh
  hh := fun x o t e => b.hh x o t (a.hh x o t e)
  ht := fun x o e => let ⟨_, e1⟩ := a.ht x o e; b.ht x _ e1
theorem Gr.lift (a : Gr none G H N H') : Gr T G H N H' := ⟨a.gn, a.fr, a.nh, fun x o _ e => a.hh x o (fun z => nomatch z) e, a.ht⟩
theorem Gr.ex (a : Gr none G H N H') : Ex H H' := fun x o e => a.hh x o (fun z => nomatch z) e
theorem Gr.none_of (a : Gr T G H N H') {x : Addr} {o : HO} (g : G x = none) (h : H x = some o) : N x = none := by
  cases q : N x with
  | none => rfl
  | some u =>
    rcases a.fr x u q with r | r
    · rw [g] at r; cases r
    · rw [h] at r; cases r
/-- a new object, known from now on -/
theorem Gr.new {p : Addr} {o : HO} (e : Ex G H) (h : H p = none) : Gr T G H (upd G p o) (upd H p o) where
  gn := Ex.new (e.back h)
  fr := fun a u q => by
    by_cases z : a = p
    · subst z; exact .inr h
    · rw [upd_ne z] at q; exact .inl q
  nh := fun a u q => by
    by_cases z : a = p
    · subst z; rw [upd_same] at q ⊢; exact q
    · rw [upd_ne z] at q ⊢; exact e a u q
  hh := fun a u _ q => by rw [upd_ne (ne_of_none q h)]; exact q
  ht := fun a u q => ⟨u, by rw [upd_ne (ne_of_none q h)]; exact q⟩
/-- more is known ahead: then behind as well -/
theorem Gr.more {G2 : Hp} (a : Gr T G H N H') (e : Ex G G2) (e2 : Ex G2 H) (t : ∀ x, T = some x → G2 x = none) : ∃ N2, Gr T G2 H N2 H' ∧ Ex N N2 := by
  have cons : ∀ x o o', G2 x = some o → N x = some o' → o' = o := fun x o o' h1 h2 => by
    rcases a.fr x o' h2 with h | h
    · have := e x o' h
      rw [h1] at this
      exact (Option.some.inj this).symm
    · rw [e2 x o h1] at h
      cases h
  refine ⟨fun x => match G2 x with | some o => some o | none => N x, ⟨fun x o h => ?_, fun x o h => ?_, fun x o h => ?_, a.hh, a.ht⟩, fun x o h => ?_⟩
  · show (match G2 x with | some o => some o | none => N x) = some o
    rw [h]
  · have h' : (match G2 x with | some o => some o | none => N x) = some o := h
    cases q : G2 x with
    | some u => rw [q] at h'; exact .inl h'
    | none =>
      rw [q] at h'
      rcases a.fr x o h' with z | z
      · have := e x o z
        rw [q] at this
        cases this
      · exact .inr z
  · have h' : (match G2 x with | some o => some o | none => N x) = some o := h
    cases q : G2 x with
    | some u =>
      rw [q] at h'
      cases h'
      refine a.hh x _ (fun z => ?_) (e2 x _ q)
      rw [t x z] at q
      cases q
    | none => rw [q] at h'; exact a.nh x o h'
  · show (match G2 x with | some o => some o | none => N x) = some o
    cases q : G2 x with
    | some u => exact congrArg some (cons x u o q h).symm
    | none => exact h
end

/-! ### the drawing cell -/
def LIM : Nat := 1000000000
/-- at the cell stands [x, y, z], z at most n -/
def TinOk (T : Option Addr) (G H : Hp) (n : Nat) : Prop := ∀ a, T = some a → G a = none ∧ ∃ x y z : Int, H a = some (.lst [.int x, .int y, .int z]) ∧ 0 ≤ x ∧ 0 ≤ y ∧ y < 2 ^ 62 ∧ 0 ≤ z ∧ z ≤ n
theorem TinOk.none {G H : Hp} {n : Nat} : TinOk none G H n := fun _ z => nomatch z
theorem TinOk.pure {T : Option Addr} {G H N H' : Hp} {n : Nat} (t : TinOk T G H n) (g : Gr Option.none G H N H') : TinOk T N H' n := fun a e => by
  obtain ⟨h1, x, y, z, h2, h3⟩ := t a e
  exact ⟨g.none_of h1 h2, x, y, z, g.ex a _ h2, h3⟩
theorem TinOk.gnone {T : Option Addr} {G H : Hp} {n : Nat} (t : TinOk T G H n) : ∀ a, T = some a → G a = Option.none := fun a e => (t a e).1

/-! ### environments -/
abbrev Sg := L2.St
inductive Sl where
  | no | dat (d : PyData) | tin | raw (v : V)
def SlOk (T : Option Addr) (G : Hp) (o : Option V) : Sl → Prop
  | .no => True
  | .dat d => ∃ v, o = some v ∧ Rp G v d
  | .tin => ∀ a, T = some a → o = some (.ref a)
  | .raw v => o = some v
def EnvOk (T : Option Addr) (G : Hp) (σ : Sg) (ρ : List Sl) : Prop := σ.length = ρ.length ∧ ∀ (i : Nat) (s : Sl), ρ[i]? = some s → ∃ o, σ[i]? = some o ∧ SlOk T G o s
def wipeS (ρ : List Sl) : List Nat → List Sl
  | [] => ρ
  | v :: vs => (wipeS ρ vs).set v .no
section
variable {T : Option Addr} {G G' : Hp} {σ : Sg} {ρ : List Sl}
theorem EnvOk.get {i : Nat} {d : PyData} (e : EnvOk T G σ ρ) (h : ρ[i]? = some (.dat d)) : ∃ v, σ[i]? = some (some v) ∧ Rp G v d := by
  obtain ⟨o, h1, v, h2, h3⟩ := e.2 i _ h
  subst h2
  exact ⟨v, h1, h3⟩
theorem EnvOk.tinAt {i : Nat} {a : Addr} (e : EnvOk T G σ ρ) (h : ρ[i]? = some .tin) (t : T = some a) : σ[i]? = some (some (.ref a)) := by
  obtain ⟨o, h1, h2⟩ := e.2 i _ h
  rw [h1, h2 a t]
theorem SlOk.mono {o : Option V} (e : Ex G G') : ∀ {s : Sl}, SlOk T G o s → SlOk T G' o s
  | .no, _ => True.intro
  | .dat _, ⟨v, h1, h2⟩ => ⟨v, h1, h2.mono e⟩
  | .tin, h => h
  | .raw _, h => h
theorem EnvOk.rawAt {i : Nat} {v : V} (e : EnvOk T G σ ρ) (h : ρ[i]? = some (.raw v)) : σ[i]? = some (some v) := by
  obtain ⟨o, h1, h2⟩ := e.2 i _ h
  rw [h1, show o = some v from h2]
theorem EnvOk.mono (e : EnvOk T G σ ρ) (x : Ex G G') : EnvOk T G' σ ρ := ⟨e.1, fun i s h => let ⟨o, h1, h2⟩ := e.2 i s h; ⟨o, h1, h2.mono x⟩⟩
theorem EnvOk.toNone (e : EnvOk T G σ ρ) : EnvOk none G σ ρ := ⟨e.1, fun i s h => by
  obtain ⟨o, h1, h2⟩ := e.2 i s h
  refine ⟨o, h1, ?_⟩
  cases s with
  | no => exact True.intro
  | dat d => exact h2
  | tin => exact fun _ z => nomatch z
  | raw v => exact h2⟩
theorem EnvOk.put {o : Option V} {s : Sl} (e : EnvOk T G σ ρ) (i : Nat) (h : SlOk T G o s) : EnvOk T G (σ.set i o) (ρ.set i s) := by
  refine ⟨by rw [List.length_set, List.length_set]; exact e.1, fun j t q => ?_⟩
  by_cases z : i = j
  · subst z
    have hl : i < ρ.length := by
      have := List.getElem?_eq_some_iff.mp q
      obtain ⟨h1, _⟩ := this
      rw [List.length_set] at h1
      exact h1
    rw [List.getElem?_set_self hl] at q
    cases q
    exact ⟨o, List.getElem?_set_self (show i < σ.length by rw [e.1]; exact hl), h⟩
  · rw [List.getElem?_set_ne z] at q ⊢
    exact e.2 j t q
theorem EnvOk.set {v : V} {d : PyData} (e : EnvOk T G σ ρ) (i : Nat) (h : Rp G v d) : EnvOk T G (σ.set i (some v)) (ρ.set i (.dat d)) := e.put i ⟨v, rfl, h⟩
theorem EnvOk.no (e : EnvOk T G σ ρ) (i : Nat) (o : Option V) : EnvOk T G (σ.set i o) (ρ.set i .no) := e.put i True.intro
theorem EnvOk.wipe (e : EnvOk T G σ ρ) : ∀ vs : List Nat, EnvOk T G (wipe σ vs) (wipeS ρ vs)
  | [] => e
  | v :: vs => (EnvOk.wipe e vs).no v none
end
def startS (n : Nat) (ds : List PyData) : List Sl := ds.map .dat ++ List.replicate (n - ds.length) .no
theorem EnvOk.start {T : Option Addr} {G : Hp} {N : List Str} {vs : List V} {ds : List PyData} (h : RpA G vs ds) : EnvOk T G (L2.start N vs) (startS N.length ds) := by
  have hl := h.length
  unfold L2.start startS
  refine ⟨by simp [hl], fun i s q => ?_⟩
  by_cases z : i < ds.length
  · rw [List.getElem?_append_left (by simpa using z), List.getElem?_map] at q
    rw [List.getElem?_append_left (by simpa [hl] using z), List.getElem?_map]
    rw [List.getElem?_eq_getElem z] at q
    cases q
    obtain ⟨v, h1, h2⟩ := h.get (List.getElem?_eq_getElem z)
    exact ⟨some v, by rw [h1]; rfl, v, rfl, h2⟩
  · rw [List.getElem?_append_right (by simpa using z), List.getElem?_replicate] at q
    split at q
    · rename_i hz
      cases q
      refine ⟨none, ?_, True.intro⟩
      rw [List.getElem?_append_right (by simpa [hl] using z), List.getElem?_replicate]
      have e1 : (ds.map Sl.dat).length = ds.length := List.length_map ..
      have e2 : (vs.map some).length = vs.length := List.length_map ..
      rw [e1] at hz
      rw [e2, if_pos (by omega)]
    · cases q
theorem EnvOk.startT {G : Hp} {N : List Str} {a : Addr} {vs : List V} {ds : List PyData} (h : RpA G vs ds) : EnvOk (some a) G (L2.start N (.ref a :: vs)) ((startS N.length (.none :: ds)).set 0 .tin) := by
  have e : EnvOk (some a) (upd G 0 (.lst [])) (L2.start N (.non :: vs)) (startS N.length (.none :: ds)) ∨ True := .inr True.intro
  have e1 : EnvOk (some a) G (L2.start N (.non :: vs)) (startS N.length (.none :: ds)) := EnvOk.start (.cons .non h)
  have e2 := e1.put 0 (o := some (.ref a)) (s := .tin) (fun b z => by cases z; rfl)
  exact e2

/-! ### what is known ahead, behind -/
structure Pre (T : Option Addr) (G : Hp) (σ : Sg) (ρ : List Sl) (H : Hp) (n : Nat) : Prop where
  env : EnvOk T G σ ρ
  ex : Ex G H
  tin : TinOk T G H n
structure Po (T : Option Addr) (G H : Hp) (n c : Nat) (N H' : Hp) (n' : Nat) : Prop where
  gr : Gr T G H N H'
  tin : TinOk T N H' n'
  le : n' ≤ n + c
section
variable {T : Option Addr} {G H N H' N2 H2 : Hp} {σ : Sg} {ρ : List Sl} {n n' n2 c c1 c2 : Nat}
theorem Pre.next (p : Pre T G σ ρ H n) (o : Po T G H n c N H' n') : Pre T N σ ρ H' n' := ⟨p.env.mono o.gr.gn, o.gr.nh, o.tin⟩
theorem Po.trans (a : Po T G H n c1 N H' n') (b : Po T N H' n' c2 N2 H2 n2) : Po T G H n (c1 + c2) N2 H2 n2 := ⟨a.gr.trans b.gr, b.tin, by have := a.le; have := b.le; omega⟩
theorem Po.weak (a : Po T G H n c1 N H' n') (h : c1 ≤ c2) : Po T G H n c2 N H' n' := ⟨a.gr, a.tin, by have := a.le; omega⟩
theorem Po.pure (t : TinOk T G H n) (g : Gr none G H N H') : Po T G H n c N H' n := ⟨g.lift, t.pure g, by omega⟩
theorem Po.refl (p : Ex G H) (t : TinOk T G H n) : Po T G H n c G H n := Po.pure t (Gr.refl p)
theorem Pre.toNone (p : Pre T G σ ρ H n) : Pre none G σ ρ H n := ⟨p.env.toNone, p.ex, TinOk.none⟩
end
end Pn

set_option Elab.async false
set_option linter.all false
set_option maxRecDepth 100000
set_option maxHeartbeats 4000000
/-! PnEv: the judgements over the syntax, by the layer's rules. -/
namespace Pn
open PySem PySem.Spec PyProof.Rows L2

def noStar : Expr → Bool
  | .Starred .. => false
  | _ => true
theorem se_cons {e : Expr} {es : List Expr} {env : Env} (h : noStar e = true) : starEach (e :: es) env = (false, eval e env) :: starEach es env := by
  cases e <;> first | rfl | exact absurd h Bool.false_ne_true
/-! ### the weakest readings -/
structure Bx (p : Prop) : Prop where
  go : p
section
variable (X : Cx)
def WE (e : Expr) : TE := fun σ H Q => Bx (∀ (pins : List (Addr × Obj)) (s : Shared), Inv X pins σ H s → wpAny (model X.prog X.w) X.A (eval e X.env) (EP X pins σ Q) X.xe s)
def WT (e : Expr) : TT := fun σ H Q => Bx (∀ (pins : List (Addr × Obj)) (s : Shared), Inv X pins σ H s → wpAny (model X.prog X.w) X.A (isTrue e X.env (eval e X.env)) (TP X pins σ Q) X.xe s)
def WW (e : Expr) : TT := fun σ H Q => Bx (∀ (wh : Sem Value) (pins : List (Addr × Obj)) (s : Shared), Inv X pins σ H s → wpAny (model X.prog X.w) X.A (isTrue e X.env wh) (TP X pins σ Q) X.xe s)
def WA (es : List Expr) : TA := fun σ H Q => Bx (∀ (pos : Pos) (pins : List (Addr × Obj)) (s : Shared), Inv X pins σ H s → wpAny (model X.prog X.w) X.A (spliced (backTo pos (starEach es X.env))) (AP X pins σ Q) X.xe s)
def WS (st : Stmt) : TS := fun D σ H => Bx (∀ (pins : List (Addr × Obj)) (s : Shared), Inv X pins σ H s → wpAny (model X.prog X.w) X.A (exec st X.env) (SP X pins D) X.xe s)
def WSs (ss : List Stmt) : TS := fun D σ H => Bx (∀ (pins : List (Addr × Obj)) (s : Shared), Inv X pins σ H s → wpAny (model X.prog X.w) X.A (execs ss X.env) (SP X pins D) X.xe s)
def WI (tg iter : Expr) : TI := fun σ H R => Bx (∀ (pins : List (Addr × Obj)) (s : Shared), Inv X pins σ H s →
  wpAny (model X.prog X.w) X.A (eval iter X.env) (fun v s1 => wpAny (model X.prog X.w) X.A (pyIter v) (PIE X pins σ tg R) X.xe s1) X.xe s)
def W2 (f : Value → Value → Sem Value) : R2 := fun x y H Q => Bx (∀ (pins : List (Addr × Obj)) (s : Shared) (σ : Sg) (v u : Value), Inv X pins σ H s → RelV x v → RelV y u → wpAny (model X.prog X.w) X.A (f v u) (EP X pins σ Q) X.xe s)
def W1 (f : Value → Sem Value) : V → Hp → VK → Prop := fun x H Q => Bx (∀ (pins : List (Addr × Obj)) (s : Shared) (σ : Sg) (v : Value), Inv X pins σ H s → RelV x v → wpAny (model X.prog X.w) X.A (f v) (EP X pins σ Q) X.xe s)
def WC (f : Value) : List V → Hp → VK → Prop := fun xs H Q => Bx (∀ (pins : List (Addr × Obj)) (s : Shared) (σ : Sg) (us : List Value), Inv X pins σ H s → Vals xs us → wpAny (model X.prog X.w) X.A (call f us) (EP X pins σ Q) X.xe s)
def WX : R2 := fun x y H Q => Bx (∀ (value slice : Expr) (pins : List (Addr × Obj)) (s : Shared) (σ : Sg) (v u : Value), Inv X pins σ H s → RelV x v → RelV y u →
    subscripted slice false v u = operate [v, u] (getItem v u) → wpAny (model X.prog X.w) X.A (subscriptTail value slice v u) (EP X pins σ Q) X.xe s)
end
section
variable {X : Cx} {σ : Sg} {H : Hp}
theorem we (e : Expr) : PE X e (WE X e) := ⟨fun pins s _ _ _ I h => h.go pins s I⟩
theorem wt (e : Expr) : PT X e (WT X e) := ⟨fun pins s _ _ _ I h => h.go pins s I⟩
theorem ww (e : Expr) : PW X e (WW X e) := ⟨fun wh pins s _ _ _ I h => h.go wh pins s I⟩
theorem wa (es : List Expr) : PA X es (WA X es) := ⟨fun pos pins s _ _ _ I h => h.go pos pins s I⟩
theorem ws (st : Stmt) : PS X st (WS X st) := ⟨fun pins s _ _ _ I h => h.go pins s I⟩
theorem wss (ss : List Stmt) : PSs X ss (WSs X ss) := ⟨fun pins s _ _ _ I h => h.go pins s I⟩
theorem wi (tg iter : Expr) : PI X tg iter (WI X tg iter) := ⟨fun pins s _ _ _ I h => h.go pins s I⟩
theorem w2 (f : Value → Value → Sem Value) : OpR X f (W2 X f) := fun pins s σ _ _ _ v u _ I rx ry h => h.go pins s σ v u I rx ry
theorem w1 (f : Value → Sem Value) : UnR X f (W1 X f) := fun pins s σ _ _ v _ I rx h => h.go pins s σ v I rx
theorem wc (f : Value) : CallR X f (WC X f) := fun pins s σ _ _ us _ I r h => h.go pins s σ us I r
theorem wx : IxR X (WX X) := fun value slice pins s σ _ _ _ v u _ I rx ry h hs => h.go value slice pins s σ v u I rx ry hs
theorem WE.of {e : Expr} {t : TE} {Q : VK} (h : PE X e t) (q : t σ H Q) : WE X e σ H Q := ⟨fun pins s I => h.run pins s σ H Q I q⟩
theorem WT.of {e : Expr} {t : TT} {Q : Bool → Hp → Prop} (h : PT X e t) (q : t σ H Q) : WT X e σ H Q := ⟨fun pins s I => h.run pins s σ H Q I q⟩
theorem WW.of {e : Expr} {t : TT} {Q : Bool → Hp → Prop} (h : PW X e t) (q : t σ H Q) : WW X e σ H Q := ⟨fun wh pins s I => h.run wh pins s σ H Q I q⟩
theorem WA.of {es : List Expr} {t : TA} {Q : List V → Hp → Prop} (h : PA X es t) (q : t σ H Q) : WA X es σ H Q := ⟨fun pos pins s I => h.run pos pins s σ H Q I q⟩
theorem WS.of {st : Stmt} {t : TS} {D : Ends} (h : PS X st t) (q : t D σ H) : WS X st D σ H := ⟨fun pins s I => h.run pins s σ H D I q⟩
theorem WSs.of {ss : List Stmt} {t : TS} {D : Ends} (h : PSs X ss t) (q : t D σ H) : WSs X ss D σ H := ⟨fun pins s I => h.run pins s σ H D I q⟩
theorem WI.of {tg iter : Expr} {t : TI} {R : It → Hp → Prop} (h : PI X tg iter t) (q : t σ H R) : WI X tg iter σ H R := ⟨fun pins s I => h.run pins s σ H R I q⟩
theorem W2.of {f : Value → Value → Sem Value} {r : R2} {x y : V} {Q : VK} (h : OpR X f r) (q : r x y H Q) : W2 X f x y H Q := ⟨fun pins s σ v u I rx ry => h pins s σ H x y v u Q I rx ry q⟩
theorem W1.of {f : Value → Sem Value} {r : V → Hp → VK → Prop} {x : V} {Q : VK} (h : UnR X f r) (q : r x H Q) : W1 X f x H Q := ⟨fun pins s σ v I rx => h pins s σ H x v Q I rx q⟩
theorem WC.of {f : Value} {r : List V → Hp → VK → Prop} {xs : List V} {Q : VK} (h : CallR X f r) (q : r xs H Q) : WC X f xs H Q := ⟨fun pins s σ us I rs => h pins s σ H xs us Q I rs q⟩
theorem WX.of {r : R2} {x y : V} {Q : VK} (h : IxR X r) (q : r x y H Q) : WX X x y H Q := ⟨fun value slice pins s σ v u I rx ry hs => h value slice pins s σ H x y v u Q I rx ry q hs⟩
end

/-! ### built-in names -/
structure Bt (mg : Str → Option Value) : Prop where
  isinstance : mg "isinstance" = none
  tuple : mg "tuple" = none
  list : mg "list" = none
  int : mg "int" = none
  bool : mg "bool" = none
  str : mg "str" = none
  len : mg "len" = none
  range : mg "range" = none
  sum : mg "sum" = none
  max : mg "max" = none
  min : mg "min" = none
  abs : mg "abs" = none
  all : mg "all" = none
  zip : mg "zip" = none
  enumerate : mg "enumerate" = none
  sorted : mg "sorted" = none
structure Good (X : Cx) (k : Nat) : Prop where
  calm : X.calm = true
  nd : X.N.Nodup
  bt : Bt X.mg
  room : Room k X.A
theorem Good.blk {X : Cx} {k : Nat} (g : Good X k) {s : Shared} {H : Hp} {sc : Scope} {ce : Env} {fp : List Addr} : Good (X.blk s H sc ce fp) k := ⟨g.calm, g.nd, g.bt, g.room⟩

/-! ### judgements -/
def Ev (X : Cx) (T : Option Addr) (c : Nat) (e : Expr) (ρ : List Sl) (P : PyData → Prop) : Prop :=
  ∀ G σ H n, Pre T G σ ρ H n → n + c ≤ LIM → ∀ Q : VK, (∀ v d N H' n', P d → Po T G H n c N H' n' → Rp N v d → Q v H') → WE X e σ H Q
def Et (X : Cx) (T : Option Addr) (c : Nat) (e : Expr) (ρ : List Sl) (P : Bool → Prop) : Prop :=
  ∀ G σ H n, Pre T G σ ρ H n → n + c ≤ LIM → ∀ Q : Bool → Hp → Prop, (∀ b N H' n', P b → Po T G H n c N H' n' → Q b H') → WT X e σ H Q
def Ew (X : Cx) (T : Option Addr) (c : Nat) (e : Expr) (ρ : List Sl) (P : Bool → Prop) : Prop :=
  ∀ G σ H n, Pre T G σ ρ H n → n + c ≤ LIM → ∀ Q : Bool → Hp → Prop, (∀ b N H' n', P b → Po T G H n c N H' n' → Q b H') → WW X e σ H Q
def Ea (X : Cx) (T : Option Addr) (c : Nat) (es : List Expr) (ρ : List Sl) (P : List PyData → Prop) : Prop :=
  ∀ G σ H n, Pre T G σ ρ H n → n + c ≤ LIM → ∀ Q : List V → Hp → Prop, (∀ vs ds N H' n', P ds → Po T G H n c N H' n' → RpA N vs ds → Q vs H') → WA X es σ H Q
abbrev E (X : Cx) (e : Expr) (ρ : List Sl) (d : PyData) : Prop := Ev X none 0 e ρ (fun z => z = d)
abbrev Eb (X : Cx) (e : Expr) (ρ : List Sl) (b : Bool) : Prop := Et X none 0 e ρ (fun z => z = b)
abbrev Ebw (X : Cx) (e : Expr) (ρ : List Sl) (b : Bool) : Prop := Ew X none 0 e ρ (fun z => z = b)
abbrev A (X : Cx) (es : List Expr) (ρ : List Sl) (ds : List PyData) : Prop := Ea X none 0 es ρ (fun z => z = ds)
/-- an operation on values -/
def B2 (X : Cx) (f : Value → Value → Sem Value) (d1 d2 d : PyData) : Prop :=
  ∀ G H x y, Ex G H → Rp G x d1 → Rp G y d2 → ∀ Q : VK, (∀ v N H', Gr none G H N H' → Rp N v d → Q v H') → W2 X f x y H Q
def B1 (X : Cx) (f : Value → Sem Value) (d1 d : PyData) : Prop :=
  ∀ G H x, Ex G H → Rp G x d1 → ∀ Q : VK, (∀ v N H', Gr none G H N H' → Rp N v d → Q v H') → W1 X f x H Q
def C1 (X : Cx) (f : Value) (ds : List PyData) (P : PyData → Prop) : Prop :=
  ∀ G H xs, Ex G H → RpA G xs ds → ∀ Q : VK, (∀ v d N H', P d → Gr none G H N H' → Rp N v d → Q v H') → WC X f xs H Q
def BX (X : Cx) (d1 d2 d : PyData) : Prop :=
  ∀ G H x y, Ex G H → Rp G x d1 → Rp G y d2 → ∀ Q : VK, (∀ v N H', Gr none G H N H' → Rp N v d → Q v H') → WX X x y H Q

section
variable {X : Cx} {T : Option Addr} {c c1 c2 : Nat} {e a b : Expr} {es : List Expr} {ρ : List Sl} {P P1 : PyData → Prop} {d d1 d2 : PyData} {pos : Pos}

theorem Ev.lift (h : E X e ρ d) : Ev X T c e ρ (fun z => z = d) := fun G σ H n p hn Q q =>
  h G σ H n p.toNone (by omega) Q fun v d' N H' n' e o r => q v d' N H' n e (Po.pure p.tin o.gr) r
theorem Et.lift {t : Bool} (h : Eb X e ρ t) : Et X T c e ρ (fun z => z = t) := fun G σ H n p hn Q q =>
  h G σ H n p.toNone (by omega) Q fun b N H' n' e o => q b N H' n e (Po.pure p.tin o.gr)
theorem Ew.lift {t : Bool} (h : Ebw X e ρ t) : Ew X T c e ρ (fun z => z = t) := fun G σ H n p hn Q q =>
  h G σ H n p.toNone (by omega) Q fun b N H' n' e o => q b N H' n e (Po.pure p.tin o.gr)
theorem Ea.lift {ds : List PyData} (h : A X es ρ ds) : Ea X T c es ρ (fun z => z = ds) := fun G σ H n p hn Q q =>
  h G σ H n p.toNone (by omega) Q fun b ds' N H' n' e o r => q b ds' N H' n e (Po.pure p.tin o.gr) r
theorem Ev.mono {P' : PyData → Prop} (h : Ev X T c1 e ρ P) (hP : ∀ d, P d → P' d) (hc : c1 ≤ c) : Ev X T c e ρ P' := fun G σ H n p hn Q q =>
  h G σ H n p (by omega) Q fun v d N H' n' e o r => q v d N H' n' (hP d e) (o.weak hc) r
theorem Et.mono {P P' : Bool → Prop} (h : Et X T c1 e ρ P) (hP : ∀ d, P d → P' d) (hc : c1 ≤ c) : Et X T c e ρ P' := fun G σ H n p hn Q q =>
  h G σ H n p (by omega) Q fun v N H' n' e o => q v N H' n' (hP v e) (o.weak hc)
theorem Ea.mono {P P' : List PyData → Prop} (h : Ea X T c1 es ρ P) (hP : ∀ d, P d → P' d) (hc : c1 ≤ c) : Ea X T c es ρ P' := fun G σ H n p hn Q q =>
  h G σ H n p (by omega) Q fun v d N H' n' e o r => q v d N H' n' (hP d e) (o.weak hc) r
theorem Ev.to {d' : PyData} (h : E X e ρ d) (hd : d = d') : E X e ρ d' := hd ▸ h
theorem Et.to {t t' : Bool} (h : Eb X e ρ t) (ht : t = t') : Eb X e ρ t' := ht ▸ h

/-- a reading that gives one datum and makes nothing -/
theorem ev_now {t : TE} (h : PE X e t) (ht : ∀ G σ H n, Pre none G σ ρ H n → ∃ v, Rp G v d ∧ ∀ Q : VK, Q v H → t σ H Q) : E X e ρ d := fun G σ H n p hn Q q => by
  obtain ⟨v, r, k⟩ := ht G σ H n p
  exact WE.of h (k Q (q v d G H n rfl (Po.refl p.ex p.tin) r))
theorem e_name {i : Nat} {x : Str} (hN : X.N[i]? = some x) (hv : Vis X.env.scope x) (h : ρ[i]? = some (.dat d)) (hd : (x == ("__debug__" : Str)) = false := by decide) (hcd : (x == ("__classdict__" : Str)) = false := by decide) : E X (.Name x pos) ρ d :=
  ev_now (pe_var hN hv hd hcd) fun G σ H n p => by
    obtain ⟨v, h1, h2⟩ := p.env.get h
    exact ⟨v, h2, fun Q q => ⟨v, h1, q⟩⟩
theorem e_int {i : Int} {j : Nat} : E X (.Constant (.int i) j pos) ρ (.int i) := ev_now pe_int fun G σ H n p => ⟨.int i, .int i, fun Q q => q⟩
theorem e_bl {i : Bool} {j : Nat} : E X (.Constant (.bool i) j pos) ρ (.bool i) := ev_now pe_bl fun G σ H n p => ⟨.bl i, .bl i, fun Q q => q⟩
theorem e_non {j : Nat} : E X (.Constant .none j pos) ρ .none := ev_now pe_non fun G σ H n p => ⟨.non, .non, fun Q q => q⟩
theorem e_str {i : Str} {j : Nat} : E X (.Constant (.str i) j pos) ρ (.str i) := ev_now pe_str fun G σ H n p => ⟨.str i, .str i, fun Q q => q⟩

/-! ### arguments, displays -/
theorem ea_nil : Ea X T c [] ρ (fun z => z = []) := fun G σ H n p hn Q q => WA.of pa_nil (q [] [] G H n rfl (Po.refl p.ex p.tin) .nil)
theorem ea_cons {P2 : PyData → List PyData → Prop} (h1 : Ev X T c1 e ρ P1) (h2 : ∀ d, P1 d → Ea X T c2 es ρ (P2 d)) (hc : c1 + c2 ≤ c := by omega)
    (hs : starEach (e :: es) X.env = (false, eval e X.env) :: starEach es X.env := by exact se_cons rfl) : Ea X T c (e :: es) ρ (fun z => ∃ d ds, z = d :: ds ∧ P1 d ∧ P2 d ds) := fun G σ H n p hn Q q => by
  refine WA.of (pa_cons (we e) (wa es) hs) ?_
  refine h1 G σ H n p (by omega) _ fun x d N H1 n1 e1 o1 r1 => ?_
  refine h2 d e1 N σ H1 n1 (p.next o1) (by have := o1.le; omega) _ fun xs ds N2 H2 n2 e2 o2 r2 => ?_
  exact q _ _ N2 H2 n2 ⟨d, ds, rfl, e1, e2⟩ ((o1.trans o2).weak hc) (.cons (r1.mono o2.gr.gn) r2)
theorem a_nil : A X [] ρ [] := ea_nil
theorem a_cons {ds : List PyData} (h1 : E X e ρ d) (h2 : A X es ρ ds) (hs : starEach (e :: es) X.env = (false, eval e X.env) :: starEach es X.env := by exact se_cons rfl) : A X (e :: es) ρ (d :: ds) :=
  (ea_cons (c1 := 0) (c2 := 0) (c := 0) h1 (fun _ _ => h2) (by omega) hs).mono (fun z h => by obtain ⟨d', ds', rfl, rfl, rfl⟩ := h; rfl) (Nat.le_refl _)
theorem ev_tup {P : List PyData → Prop} {k : Nat} (h : Ea X T c es ρ P) (hl : ∀ ds, P ds → ds.length ≤ 1000) : Ev X T c (.Tuple es k pos) ρ (fun z => ∃ ds, P ds ∧ z = .tuple ds) := fun G σ H n p hn Q q => by
  refine WE.of (pe_tup (wa es)) ?_
  refine h G σ H n p hn _ fun vs ds N H1 n1 e1 o1 r1 => ?_
  have hz : vs.length ≤ sizeLine := by rw [r1.length]; have := hl ds e1; rw [sizeLine_eq]; omega
  refine ⟨hz, fun l hl => ?_⟩
  have g : Gr none N H1 (upd N l (.tup vs)) (upd H1 l (.tup vs)) := Gr.new o1.gr.nh hl
  exact q _ _ _ _ n1 ⟨ds, e1, rfl⟩ ((o1.trans (Po.pure (c := 0) o1.tin g)).weak (Nat.le_refl _)) (.tup upd_same (r1.mono g.gn))
theorem ev_lst {P : List PyData → Prop} (h : Ea X T c es ρ P) (hl : ∀ ds, P ds → ds.length ≤ 1000) : Ev X T c (.List es pos) ρ (fun z => ∃ ds, P ds ∧ z = .list ds) := fun G σ H n p hn Q q => by
  refine WE.of (pe_lst (wa es)) ?_
  refine h G σ H n p hn _ fun vs ds N H1 n1 e1 o1 r1 => ?_
  have hz : vs.length ≤ sizeLine := by rw [r1.length]; have := hl ds e1; rw [sizeLine_eq]; omega
  refine ⟨hz, fun l hl => ?_⟩
  have g : Gr none N H1 (upd N l (.lst vs)) (upd H1 l (.lst vs)) := Gr.new o1.gr.nh hl
  exact q _ _ _ _ n1 ⟨ds, e1, rfl⟩ ((o1.trans (Po.pure (c := 0) o1.tin g)).weak (Nat.le_refl _)) (.lst upd_same (r1.mono g.gn))
theorem e_tup {k : Nat} {ds : List PyData} (h : A X es ρ ds) (hl : ds.length ≤ 1000 := by simp <;> omega) : E X (.Tuple es k pos) ρ (.tuple ds) :=
  (ev_tup h fun _ e => by rw [e]; exact hl).mono (fun z h => by obtain ⟨ds', rfl, rfl⟩ := h; rfl) (Nat.le_refl _)
theorem e_lst {ds : List PyData} (h : A X es ρ ds) (hl : ds.length ≤ 1000 := by simp <;> omega) : E X (.List es pos) ρ (.list ds) :=
  (ev_lst h fun _ e => by rw [e]; exact hl).mono (fun z h => by obtain ⟨ds', rfl, rfl⟩ := h; rfl) (Nat.le_refl _)

/-! ### operators -/
theorem ev_bin {op : Operator} {P2 : PyData → PyData → Prop} (h1 : Ev X T c1 a ρ P1) (h2 : ∀ d, P1 d → Ev X T c2 b ρ (P2 d)) (ho : ∀ d1 d2, P1 d1 → P2 d1 d2 → ∃ d, P d ∧ B2 X (binaryOp op) d1 d2 d) (hc : c1 + c2 ≤ c := by omega) :
    Ev X T c (.BinOp a op b pos) ρ P := fun G σ H n p hn Q q => by
  refine WE.of (pe_op (w2 _) (we a) (we b)) ?_
  refine h1 G σ H n p (by omega) _ fun x d1 N1 H1 n1 e1 o1 r1 => ?_
  refine h2 d1 e1 N1 σ H1 n1 (p.next o1) (by have := o1.le; omega) _ fun y d2 N2 H2 n2 e2 o2 r2 => ?_
  obtain ⟨d, hd, hb⟩ := ho d1 d2 e1 e2
  refine hb N2 H2 x y o2.gr.nh (r1.mono o2.gr.gn) r2 Q fun v N3 H3 g r => ?_
  exact q v d N3 H3 n2 hd (((o1.trans o2).trans (Po.pure (c := 0) o2.tin g)).weak (by omega)) r
theorem e_bin {op : Operator} (h1 : E X a ρ d1) (h2 : E X b ρ d2) (ho : B2 X (binaryOp op) d1 d2 d) : E X (.BinOp a op b pos) ρ d :=
  ev_bin (P2 := fun _ z => z = d2) h1 (fun _ _ => h2) (fun _ _ e1 e2 => ⟨d, rfl, by rw [e1, e2]; exact ho⟩)
theorem ev_un {op : UnaryOp} (h1 : Ev X T c a ρ P1) (ho : ∀ d1, P1 d1 → ∃ d, P d ∧ B1 X (unaryOp op) d1 d) : Ev X T c (.UnaryOp op a pos) ρ P := fun G σ H n p hn Q q => by
  refine WE.of (pe_un (w1 _) (we a)) ?_
  refine h1 G σ H n p (by omega) _ fun x d1 N1 H1 n1 e1 o1 r1 => ?_
  obtain ⟨d, hd, hb⟩ := ho d1 e1
  refine hb N1 H1 x o1.gr.nh r1 Q fun v N3 H3 g r => ?_
  exact q v d N3 H3 n1 hd ((o1.trans (Po.pure (c := 0) o1.tin g)).weak (by omega)) r
theorem e_un {op : UnaryOp} (h1 : E X a ρ d1) (ho : B1 X (unaryOp op) d1 d) : E X (.UnaryOp op a pos) ρ d :=
  ev_un h1 (fun _ e1 => ⟨d, rfl, by rw [e1]; exact ho⟩)
theorem ev_cmp {op : CmpOp} {P2 : PyData → PyData → Prop} (h1 : Ev X T c1 a ρ P1) (h2 : ∀ d, P1 d → Ev X T c2 b ρ (P2 d)) (ho : ∀ d1 d2, P1 d1 → P2 d1 d2 → ∃ d, P d ∧ B2 X (compareOp op) d1 d2 d) (hc : c1 + c2 ≤ c := by omega)
    (hm : behindInMarks op b = false := by first | exact nomark _ | rfl) : Ev X T c (.Compare a [op] [b] pos) ρ P := fun G σ H n p hn Q q => by
  refine WE.of (pe_cmpR (w2 _) (we a) (we b) hm) ?_
  refine h1 G σ H n p (by omega) _ fun x d1 N1 H1 n1 e1 o1 r1 => ?_
  refine h2 d1 e1 N1 σ H1 n1 (p.next o1) (by have := o1.le; omega) _ fun y d2 N2 H2 n2 e2 o2 r2 => ?_
  obtain ⟨d, hd, hb⟩ := ho d1 d2 e1 e2
  refine hb N2 H2 x y o2.gr.nh (r1.mono o2.gr.gn) r2 Q fun v N3 H3 g r => ?_
  exact q v d N3 H3 n2 hd (((o1.trans o2).trans (Po.pure (c := 0) o2.tin g)).weak (by omega)) r
theorem e_cmp {op : CmpOp} (h1 : E X a ρ d1) (h2 : E X b ρ d2) (ho : B2 X (compareOp op) d1 d2 d) (hm : behindInMarks op b = false := by first | exact nomark _ | rfl) : E X (.Compare a [op] [b] pos) ρ d :=
  ev_cmp (P2 := fun _ z => z = d2) h1 (fun _ _ => h2) (fun _ _ e1 e2 => ⟨d, rfl, by rw [e1, e2]; exact ho⟩) (by omega) hm
theorem et_cmp {op : CmpOp} {P : Bool → Prop} {P2 : PyData → PyData → Prop} (h1 : Ev X T c1 a ρ P1) (h2 : ∀ d, P1 d → Ev X T c2 b ρ (P2 d)) (ho : ∀ d1 d2, P1 d1 → P2 d1 d2 → ∃ d, P d ∧ B2 X (compareOp op) d1 d2 (.bool d)) (hc : c1 + c2 ≤ c := by omega)
    (hm : behindInMarks op b = false := by first | exact nomark _ | rfl) : Et X T c (.Compare a [op] [b] pos) ρ P := fun G σ H n p hn Q q => by
  refine WT.of (pt_cmpR (w2 _) (we a) (we b) hm) ?_
  refine h1 G σ H n p (by omega) _ fun x d1 N1 H1 n1 e1 o1 r1 => ?_
  refine h2 d1 e1 N1 σ H1 n1 (p.next o1) (by have := o1.le; omega) _ fun y d2 N2 H2 n2 e2 o2 r2 => ?_
  obtain ⟨d, hd, hb⟩ := ho d1 d2 e1 e2
  refine hb N2 H2 x y o2.gr.nh (r1.mono o2.gr.gn) r2 _ fun v N3 H3 g r => ?_
  cases r
  exact ⟨d, rfl, q d N3 H3 n2 hd (((o1.trans o2).trans (Po.pure (c := 0) o2.tin g)).weak (by omega))⟩
theorem eb_cmp {op : CmpOp} {t : Bool} (h1 : E X a ρ d1) (h2 : E X b ρ d2) (ho : B2 X (compareOp op) d1 d2 (.bool t)) (hm : behindInMarks op b = false := by first | exact nomark _ | rfl) : Eb X (.Compare a [op] [b] pos) ρ t :=
  et_cmp (P2 := fun _ z => z = d2) h1 (fun _ _ => h2) (fun _ _ e1 e2 => ⟨t, rfl, by rw [e1, e2]; exact ho⟩) (by omega) hm
/-- a op1 b op2 c -/
theorem e_chain {op op' : CmpOp} {cc : Expr} {d3 : PyData} {t u : Bool} (h1 : E X a ρ d1) (h2 : E X b ρ d2) (h3 : t = true → E X cc ρ d3) (ho : B2 X (compareOp op) d1 d2 (.bool t)) (ho' : t = true → B2 X (compareOp op') d2 d3 (.bool u)) (hm : lastMarks [op, op'] [b, cc] = false := by with_unfolding_all rfl) :
    E X (.Compare a [op, op'] [b, cc] pos) ρ (.bool (t && u)) := fun G σ H n p hn Q q => by
  refine WE.of (pe_chain (w2 _) (w2 _) (we a) (we b) (we cc) hm) ?_
  refine h1 G σ H n p (by omega) _ fun x d1' N1 H1 n1 e1 o1 r1 => ?_
  subst e1
  refine h2 N1 σ H1 n1 (p.next o1) (by have := o1.le; omega) _ fun y d2' N2 H2 n2 e2 o2 r2 => ?_
  subst e2
  refine ho N2 H2 x y o2.gr.nh (r1.mono o2.gr.gn) r2 _ fun v N3 H3 g r => ?_
  have o12 := ((o1.trans o2).trans (Po.pure (c := 0) o2.tin g)).weak (c2 := 0) (by omega)
  cases r
  refine ⟨t, rfl, ?_⟩
  cases t with
  | false => exact iteF (q _ _ N3 H3 n2 rfl o12 (.bl false))
  | true =>
    refine iteT ?_
    refine h3 rfl N3 σ H3 n2 (p.next o12) (by have := o12.le; omega) _ fun z d3' N4 H4 n4 e4 o4 r4 => ?_
    subst e4
    refine ho' rfl N4 H4 y z o4.gr.nh ((r2.mono g.gn).mono o4.gr.gn) r4 Q fun v N5 H5 g5 r5 => ?_
    exact q v _ N5 H5 n4 rfl (((o12.trans o4).trans (Po.pure (c := 0) o4.tin g5)).weak (by omega)) (by rw [Bool.true_and]; exact r5)
theorem eb_chain {op op' : CmpOp} {cc : Expr} {d3 : PyData} {t u : Bool} (h1 : E X a ρ d1) (h2 : E X b ρ d2) (h3 : t = true → E X cc ρ d3) (ho : B2 X (compareOp op) d1 d2 (.bool t)) (ho' : t = true → B2 X (compareOp op') d2 d3 (.bool u)) (hm : lastMarks [op, op'] [b, cc] = false := by with_unfolding_all rfl) :
    Eb X (.Compare a [op, op'] [b, cc] pos) ρ (t && u) := fun G σ H n p hn Q q => by
  refine WT.of (pt_chain (w2 _) (w2 _) (we a) (we b) (we cc) hm) ?_
  refine h1 G σ H n p (by omega) _ fun x d1' N1 H1 n1 e1 o1 r1 => ?_
  subst e1
  refine h2 N1 σ H1 n1 (p.next o1) (by have := o1.le; omega) _ fun y d2' N2 H2 n2 e2 o2 r2 => ?_
  subst e2
  refine ho N2 H2 x y o2.gr.nh (r1.mono o2.gr.gn) r2 _ fun v N3 H3 g r => ?_
  have o12 := ((o1.trans o2).trans (Po.pure (c := 0) o2.tin g)).weak (c2 := 0) (by omega)
  cases r
  refine ⟨t, rfl, ?_⟩
  cases t with
  | false => exact iteF ⟨false, rfl, q _ N3 H3 n2 rfl o12⟩
  | true =>
    refine iteT ?_
    refine h3 rfl N3 σ H3 n2 (p.next o12) (by have := o12.le; omega) _ fun z d3' N4 H4 n4 e4 o4 r4 => ?_
    subst e4
    refine ho' rfl N4 H4 y z o4.gr.nh ((r2.mono g.gn).mono o4.gr.gn) r4 _ fun v N5 H5 g5 r5 => ?_
    cases r5
    exact ⟨u, rfl, q _ N5 H5 n4 (by rw [Bool.true_and]) (((o12.trans o4).trans (Po.pure (c := 0) o4.tin g5)).weak (by omega))⟩

/-! ### and, or, not, if -/
theorem e_one {op : BoolOp} (h : E X a ρ d) : E X (.BoolOp op [a] pos) ρ d := fun G σ H n p hn Q q => WE.of (pe_one (we a)) (h G σ H n p hn Q q)
theorem e_and {rest : List Expr} {t u : Bool} (h1 : E X a ρ (.bool t)) (h2 : t = true → E X (.BoolOp .And (b :: rest) pos) ρ (.bool u)) : E X (.BoolOp .And (a :: b :: rest) pos) ρ (.bool (t && u)) := fun G σ H n p hn Q q => by
  refine WE.of (pe_and (we a) (we _)) ?_
  refine h1 G σ H n p (by omega) _ fun x d1' N1 H1 n1 e1 o1 r1 => ?_
  subst e1
  cases r1
  refine ⟨t, rfl, ?_⟩
  cases t with
  | false => exact iteF (q _ _ N1 H1 n1 rfl o1 (.bl false))
  | true => exact iteT (h2 rfl N1 σ H1 n1 (p.next o1) (by have := o1.le; omega) _ fun y d2 N2 H2 n2 e2 o2 r2 => q y d2 N2 H2 n2 (by rw [e2, Bool.true_and]) ((o1.trans o2).weak (by omega)) r2)
theorem e_or {rest : List Expr} {t u : Bool} (h1 : E X a ρ (.bool t)) (h2 : t = false → E X (.BoolOp .Or (b :: rest) pos) ρ (.bool u)) : E X (.BoolOp .Or (a :: b :: rest) pos) ρ (.bool (t || u)) := fun G σ H n p hn Q q => by
  refine WE.of (pe_or (we a) (we _)) ?_
  refine h1 G σ H n p (by omega) _ fun x d1' N1 H1 n1 e1 o1 r1 => ?_
  subst e1
  cases r1
  refine ⟨t, rfl, ?_⟩
  cases t with
  | true => exact iteT (q _ _ N1 H1 n1 rfl o1 (.bl true))
  | false => exact iteF (h2 rfl N1 σ H1 n1 (p.next o1) (by have := o1.le; omega) _ fun y d2 N2 H2 n2 e2 o2 r2 => q y d2 N2 H2 n2 (by rw [e2, Bool.false_or]) ((o1.trans o2).weak (by omega)) r2)
theorem e_not {t : Bool} (h1 : E X a ρ (.bool t)) : E X (.UnaryOp .Not a pos) ρ (.bool (!t)) := fun G σ H n p hn Q q => by
  refine WE.of (pe_not (we a)) ?_
  refine h1 G σ H n p (by omega) _ fun x d1' N1 H1 n1 e1 o1 r1 => ?_
  subst e1
  cases r1
  exact ⟨t, rfl, q _ _ N1 H1 n1 rfl o1 (.bl (!t))⟩
theorem et_val {P : Bool → Prop} (h : Ev X T c e ρ (fun z => ∃ b, P b ∧ z = .bool b)) (he : ∀ whole, isTrue e X.env whole = (do let v ← whole; standAt e.pos; holding [v] (truthy v)) := by intro _; rfl) : Et X T c e ρ P := fun G σ H n p hn Q q => by
  refine WT.of (pt_val (we e) he) ?_
  refine h G σ H n p hn _ fun x d1' N1 H1 n1 e1 o1 r1 => ?_
  obtain ⟨b, hb, rfl⟩ := e1
  cases r1
  exact ⟨b, rfl, q b N1 H1 n1 hb o1⟩
theorem eb_val {t : Bool} (h : E X e ρ (.bool t)) (he : ∀ whole, isTrue e X.env whole = (do let v ← whole; standAt e.pos; holding [v] (truthy v)) := by intro _; rfl) : Eb X e ρ t :=
  et_val (h.mono (fun z hz => ⟨t, rfl, hz⟩) (Nat.le_refl _)) he
theorem eb_not {t : Bool} (h : Eb X a ρ t) : Eb X (.UnaryOp .Not a pos) ρ (!t) := fun G σ H n p hn Q q => by
  refine WT.of (pt_not (wt a)) ?_
  refine h G σ H n p hn _ fun b N1 H1 n1 e1 o1 => ?_
  subst e1
  exact q _ N1 H1 n1 rfl o1
theorem ew_and1 {P : Bool → Prop} (h : Et X T c a ρ P) : Ew X T c (.BoolOp .And [a] pos) ρ P := fun G σ H n p hn Q q => WW.of (pw_and1 (wt a)) (h G σ H n p hn Q q)
theorem ew_or1 {P : Bool → Prop} (h : Et X T c a ρ P) : Ew X T c (.BoolOp .Or [a] pos) ρ P := fun G σ H n p hn Q q => WW.of (pw_or1 (wt a)) (h G σ H n p hn Q q)
theorem ew_and {rest : List Expr} {P1 P2 : Bool → Prop} (h1 : Et X T c1 a ρ P1) (h2 : P1 true → Ew X T c2 (.BoolOp .And (b :: rest) pos) ρ P2) (hc : c1 + c2 ≤ c := by omega) : Ew X T c (.BoolOp .And (a :: b :: rest) pos) ρ (fun z => (z = false ∧ P1 false) ∨ (P1 true ∧ P2 z)) := fun G σ H n p hn Q q => by
  refine WW.of (pw_and (wt a) (ww _)) ?_
  refine h1 G σ H n p (by omega) _ fun t N1 H1 n1 e1 o1 => ?_
  cases t with
  | false => exact iteF (q _ N1 H1 n1 (.inl ⟨rfl, e1⟩) (o1.weak (by omega)))
  | true => exact iteT (h2 e1 N1 σ H1 n1 (p.next o1) (by have := o1.le; omega) _ fun y N2 H2 n2 e2 o2 => q y N2 H2 n2 (.inr ⟨e1, e2⟩) ((o1.trans o2).weak (by omega)))
theorem ew_or {rest : List Expr} {P1 P2 : Bool → Prop} (h1 : Et X T c1 a ρ P1) (h2 : P1 false → Ew X T c2 (.BoolOp .Or (b :: rest) pos) ρ P2) (hc : c1 + c2 ≤ c := by omega) : Ew X T c (.BoolOp .Or (a :: b :: rest) pos) ρ (fun z => (z = true ∧ P1 true) ∨ (P1 false ∧ P2 z)) := fun G σ H n p hn Q q => by
  refine WW.of (pw_or (wt a) (ww _)) ?_
  refine h1 G σ H n p (by omega) _ fun t N1 H1 n1 e1 o1 => ?_
  cases t with
  | true => exact iteT (q _ N1 H1 n1 (.inl ⟨rfl, e1⟩) (o1.weak (by omega)))
  | false => exact iteF (h2 e1 N1 σ H1 n1 (p.next o1) (by have := o1.le; omega) _ fun y N2 H2 n2 e2 o2 => q y N2 H2 n2 (.inr ⟨e1, e2⟩) ((o1.trans o2).weak (by omega)))
theorem Ew.mono {P P' : Bool → Prop} (h : Ew X T c1 e ρ P) (hP : ∀ d, P d → P' d) (hc : c1 ≤ c) : Ew X T c e ρ P' := fun G σ H n p hn Q q =>
  h G σ H n p (by omega) Q fun v N H' n' e o => q v N H' n' (hP v e) (o.weak hc)
theorem Ew.et {P : Bool → Prop} (h : Ew X T c e ρ P) : Et X T c e ρ P := fun G σ H n p hn Q q => WT.of (PW.pt (ww e)) (h G σ H n p hn Q q)
theorem ebw_and1 {t : Bool} (h : Eb X a ρ t) : Ebw X (.BoolOp .And [a] pos) ρ t := ew_and1 h
theorem ebw_or1 {t : Bool} (h : Eb X a ρ t) : Ebw X (.BoolOp .Or [a] pos) ρ t := ew_or1 h
theorem ebw_and {rest : List Expr} {t u : Bool} (h1 : Eb X a ρ t) (h2 : t = true → Ebw X (.BoolOp .And (b :: rest) pos) ρ u) : Ebw X (.BoolOp .And (a :: b :: rest) pos) ρ (t && u) :=
  (ew_and (c1 := 0) (c2 := 0) (c := 0) h1 (fun e => h2 e.symm)).mono (fun z h => by
    rcases h with ⟨rfl, h⟩ | ⟨h, rfl⟩
    · rw [← h, Bool.false_and]
    · rw [← h, Bool.true_and]) (Nat.le_refl _)
theorem ebw_or {rest : List Expr} {t u : Bool} (h1 : Eb X a ρ t) (h2 : t = false → Ebw X (.BoolOp .Or (b :: rest) pos) ρ u) : Ebw X (.BoolOp .Or (a :: b :: rest) pos) ρ (t || u) :=
  (ew_or (c1 := 0) (c2 := 0) (c := 0) h1 (fun e => h2 e.symm)).mono (fun z h => by
    rcases h with ⟨rfl, h⟩ | ⟨h, rfl⟩
    · rw [← h, Bool.true_or]
    · rw [← h, Bool.false_or]) (Nat.le_refl _)
theorem eb_w {t : Bool} (h : Ebw X e ρ t) : Eb X e ρ t := Ew.et h
theorem ev_if {t : Expr} {Pt : Bool → Prop} (h : Et X T c1 t ρ Pt) (h1 : Pt true → Ev X T c2 a ρ P) (h2 : Pt false → Ev X T c2 b ρ P) (hc : c1 + c2 ≤ c := by omega) : Ev X T c (.IfExp t a b pos) ρ P := fun G σ H n p hn Q q => by
  refine WE.of (pe_ifExp (wt t) (we a) (we b)) ?_
  refine h G σ H n p (by omega) _ fun t N1 H1 n1 e1 o1 => ?_
  cases t with
  | true => exact iteT (h1 e1 N1 σ H1 n1 (p.next o1) (by have := o1.le; omega) _ fun y d N2 H2 n2 e2 o2 => q y d N2 H2 n2 e2 ((o1.trans o2).weak (by omega)))
  | false => exact iteF (h2 e1 N1 σ H1 n1 (p.next o1) (by have := o1.le; omega) _ fun y d N2 H2 n2 e2 o2 => q y d N2 H2 n2 e2 ((o1.trans o2).weak (by omega)))
theorem e_if {t : Expr} {u : Bool} (h : Eb X t ρ u) (h1 : u = true → E X a ρ d) (h2 : u = false → E X b ρ d) : E X (.IfExp t a b pos) ρ d := ev_if h (fun e => h1 e.symm) (fun e => h2 e.symm)

/-! ### subscripts -/
theorem ev_ix {P2 : PyData → PyData → Prop} (h1 : Ev X T c1 a ρ P1) (h2 : ∀ d, P1 d → Ev X T c2 b ρ (P2 d)) (ho : ∀ d1 d2, P1 d1 → P2 d1 d2 → ∃ d, P d ∧ BX X d1 d2 d) (hc : c1 + c2 ≤ c := by omega) (hs : PlainIx b := by exact fun _ _ => rfl) :
    Ev X T c (.Subscript a b pos) ρ P := fun G σ H n p hn Q q => by
  refine WE.of (pe_ix wx (we a) (we b) hs) ?_
  refine h1 G σ H n p (by omega) _ fun x d1 N1 H1 n1 e1 o1 r1 => ?_
  refine h2 d1 e1 N1 σ H1 n1 (p.next o1) (by have := o1.le; omega) _ fun y d2 N2 H2 n2 e2 o2 r2 => ?_
  obtain ⟨d, hd, hb⟩ := ho d1 d2 e1 e2
  refine hb N2 H2 x y o2.gr.nh (r1.mono o2.gr.gn) r2 Q fun v N3 H3 g r => ?_
  exact q v d N3 H3 n2 hd (((o1.trans o2).trans (Po.pure (c := 0) o2.tin g)).weak (by omega)) r
theorem e_ix (h1 : E X a ρ d1) (h2 : E X b ρ d2) (ho : BX X d1 d2 d) (hs : PlainIx b := by exact fun _ _ => rfl) : E X (.Subscript a b pos) ρ d :=
  ev_ix (P2 := fun _ z => z = d2) h1 (fun _ _ => h2) (fun _ _ e1 e2 => ⟨d, rfl, by rw [e1, e2]; exact ho⟩) (by omega) hs
theorem bx_list {ds : List PyData} {i : Int} (h : atI ds i = some d) : BX X (.list ds) (.int i) d := fun G H x y e rx ry Q q => by
  cases rx with
  | lst ha hr =>
    cases ry
    rename_i a xs
    obtain ⟨j, hj, hd, hlt, h1, h2⟩ := atI_get h
    obtain ⟨v, hv, rv⟩ := hr.get hd
    have hx : atI xs i = some v := by
      unfold atI at h ⊢
      rw [hr.length]
      cases q : ixN ds.length i with
      | none => rw [q] at h; cases h
      | some j' =>
        have e1 := (ixN_seq q).1
        rw [hj] at e1
        cases e1
        exact hv
    exact WX.of ix_list ⟨_, _, _, v, rfl, rfl, SqL.of (e _ _ ha), hx, q v G H (Gr.refl e) rv⟩
theorem bx_tup {ds : List PyData} {i : Int} (h : atI ds i = some d) : BX X (.tuple ds) (.int i) d := fun G H x y e rx ry Q q => by
  cases rx with
  | tup ha hr =>
    cases ry
    rename_i a xs
    obtain ⟨j, hj, hd, hlt, h1, h2⟩ := atI_get h
    obtain ⟨v, hv, rv⟩ := hr.get hd
    have hx : atI xs i = some v := by
      unfold atI at h ⊢
      rw [hr.length]
      cases q : ixN ds.length i with
      | none => rw [q] at h; cases h
      | some j' =>
        have e1 := (ixN_seq q).1
        rw [hj] at e1
        cases e1
        exact hv
    exact WX.of ix_tup ⟨_, _, _, v, rfl, rfl, SqT.of (e _ _ ha), hx, q v G H (Gr.refl e) rv⟩
end
end Pn

set_option Elab.async false
set_option linter.all false
set_option maxRecDepth 100000
set_option maxHeartbeats 4000000
/-! PnOps: operators on data, calls, slices. -/
namespace Pn
open PySem PySem.Spec PyProof.Rows L2

theorem newLst {G H : Hp} {p : Addr} {vs : List V} {ds : List PyData} {Q : VK} (e : Ex G H) (hp : H p = none) (r : RpA G vs ds) (q : ∀ v N H', Gr none G H N H' → Rp N v (.list ds) → Q v H') : Q (.ref p) (upd H p (.lst vs)) := by
  have g : Gr none G H (upd G p (.lst vs)) (upd H p (.lst vs)) := Gr.new e hp
  exact q _ _ _ g (.lst upd_same (r.mono g.gn))
theorem newTup {G H : Hp} {p : Addr} {vs : List V} {ds : List PyData} {Q : VK} (e : Ex G H) (hp : H p = none) (r : RpA G vs ds) (q : ∀ v N H', Gr none G H N H' → Rp N v (.tuple ds) → Q v H') : Q (.ref p) (upd H p (.tup vs)) := by
  have g : Gr none G H (upd G p (.tup vs)) (upd H p (.tup vs)) := Gr.new e hp
  exact q _ _ _ g (.tup upd_same (r.mono g.gn))
section
variable {X : Cx} {d d1 d2 : PyData}
/-! ### numbers -/
theorem b2_rI {f : Value → Value → Sem Value} {C : Int → Int → Prop} {g : Int → Int → V} {i j : Int} (h : OpR X f (rI C g)) (hc : C i j) (r : ∀ G, Rp G (g i j) d) : B2 X f (.int i) (.int j) d := fun G H x y e rx ry Q q => by
  cases rx
  cases ry
  exact W2.of h ⟨i, j, rfl, rfl, hc, q _ G H (Gr.refl e) (r G)⟩
theorem b2_rI0 {f : Value → Value → Sem Value} {g : Int → Int → V} {i j : Int} (h : OpR X f (rI0 g)) (r : ∀ G, Rp G (g i j) d) : B2 X f (.int i) (.int j) d := fun G H x y e rx ry Q q => by
  cases rx
  cases ry
  exact W2.of h ⟨i, j, rfl, rfl, q _ G H (Gr.refl e) (r G)⟩
variable {i j : Int}
theorem b2_add : B2 X (binaryOp .Add) (.int i) (.int j) (.int (i + j)) := b2_rI0 op_add fun _ => .int _
theorem b2_sub : B2 X (binaryOp .Sub) (.int i) (.int j) (.int (i - j)) := b2_rI0 op_sub fun _ => .int _
theorem b2_mul (h : CMul i j) : B2 X (binaryOp .Mult) (.int i) (.int j) (.int (i * j)) := b2_rI op_mul h fun _ => .int _
theorem b2_fdiv (h : CDiv i j) : B2 X (binaryOp .FloorDiv) (.int i) (.int j) (.int (i / j)) := b2_rI op_fdiv h fun _ => .int _
theorem b2_mod (h : 0 < j) : B2 X (binaryOp .Mod) (.int i) (.int j) (.int (i % j)) := b2_rI op_mod h fun _ => .int _
theorem b2_pow (h : CPow i j) : B2 X (binaryOp .Pow) (.int i) (.int j) (.int (i ^ j.toNat)) := b2_rI op_pow h fun _ => .int _
theorem b2_lt : B2 X (compareOp .Lt) (.int i) (.int j) (.bool (decide (i < j))) := b2_rI0 op_lt fun _ => .bl _
theorem b2_le : B2 X (compareOp .LtE) (.int i) (.int j) (.bool (decide (i ≤ j))) := b2_rI0 op_le fun _ => .bl _
theorem b2_gt : B2 X (compareOp .Gt) (.int i) (.int j) (.bool (decide (j < i))) := b2_rI0 op_gt fun _ => .bl _
theorem b2_ge : B2 X (compareOp .GtE) (.int i) (.int j) (.bool (decide (j ≤ i))) := b2_rI0 op_ge fun _ => .bl _
theorem b1_neg : B1 X (unaryOp .USub) (.int i) (.int (-i)) := fun G H x e rx Q q => by
  cases rx
  exact W1.of un_neg ⟨i, rfl, q _ G H (Gr.refl e) (.int _)⟩

/-! ### lists, tuples -/
theorem szl {n : Nat} (h : n ≤ 100000) : n ≤ sizeLine := by rw [sizeLine_eq]; omega
theorem b2_catL {xs ys : List PyData} (h : xs.length + ys.length ≤ 100000) : B2 X (binaryOp .Add) (.list xs) (.list ys) (.list (xs ++ ys)) := fun G H x y e rx ry Q q => by
  cases rx with
  | lst ha hr => cases ry with
    | lst hb hs =>
      exact W2.of op_cat ⟨_, _, _, _, rfl, rfl, e _ _ ha, e _ _ hb, szl (by rw [hr.length, hs.length]; exact h), fun p hp => newLst e hp (hr.append hs) q⟩
theorem b2_catT {xs ys : List PyData} (h : xs.length + ys.length ≤ 100000) : B2 X (binaryOp .Add) (.tuple xs) (.tuple ys) (.tuple (xs ++ ys)) := fun G H x y e rx ry Q q => by
  cases rx with
  | tup ha hr => cases ry with
    | tup hb hs =>
      refine W2.of op_catA ⟨_, _, _, _, rfl, rfl, SqT.of (e _ _ ha), SqT.of (e _ _ hb), szl (by rw [hr.length, hs.length]; exact h), fun z => ?_, fun _ z => ?_, fun _ _ p hp => ?_⟩
      · subst z
        cases hr
        exact q _ G H (Gr.refl e) (.tup hb hs)
      · subst z
        cases hs
        rw [List.append_nil] at q
        exact q _ G H (Gr.refl e) (.tup ha hr)
      · exact newTup e hp (hr.append hs) q
theorem b2_rep {xs : List PyData} (h1 : -100000 ≤ i) (h2 : i ≤ 100000) (h : xs.length * i.toNat ≤ 100000) : B2 X (binaryOp .Mult) (.list xs) (.int i) (.list (List.replicate i.toNat xs).flatten) := fun G H x y e rx ry Q q => by
  cases rx with
  | lst ha hr => cases ry with
    | int _ =>
      exact W2.of op_rep ⟨_, i, _, rfl, rfl, e _ _ ha, by omega, by omega, szl (by rw [hr.length]; exact h), fun p hp => newLst e hp (hr.rep _) q⟩
theorem b2_repT {xs : List PyData} (hne : xs ≠ []) (h1 : 2 ≤ i) (h2 : i ≤ 1000) (h : xs.length ≤ 1000) : B2 X (binaryOp .Mult) (.tuple xs) (.int i) (.tuple (List.replicate i.toNat xs).flatten) := fun G H x y e rx ry Q q => by
  cases rx with
  | tup ha hr => cases ry with
    | int _ =>
      refine W2.of op_repT ⟨_, i, _, rfl, rfl, SqT.of (e _ _ ha), fun z => ?_, h1, h2, by rw [hr.length]; exact h, fun p hp => ?_⟩
      · subst z
        cases hr
        exact hne rfl
      · exact newTup e hp (hr.rep _) q

/-! ### equality, membership, None -/
theorem b2_eq {k : Nat} (hX : Good X k) (h1 : SeqAt.shaped d1 = true) (h2 : SeqAt.shaped d2 = true) : B2 X (compareOp .Eq) d1 d2 (.bool (PyData.eqv d1 d2)) := fun G H x y e rx ry Q q =>
  W2.of (op_eqD hX.room.units) ⟨d1, d2, (rx.mono e).dp, (ry.mono e).dp, h1, h2, q _ G H (Gr.refl e) (.bl _)⟩
theorem b2_ne {k : Nat} (hX : Good X k) (h1 : SeqAt.shaped d1 = true) (h2 : SeqAt.shaped d2 = true) : B2 X (compareOp .NotEq) d1 d2 (.bool (!PyData.eqv d1 d2)) := fun G H x y e rx ry Q q =>
  W2.of (op_neD hX.room.units) ⟨d1, d2, (rx.mono e).dp, (ry.mono e).dp, h1, h2, q _ G H (Gr.refl e) (.bl _)⟩
theorem hu65 {k : Nat} (hX : Good X k) : X.A.units + 65 < cLine := by have := hX.room.un; omega
theorem b2_inL {k : Nat} {ds : List PyData} (hX : Good X k) (h1 : SeqAt.shaped d1 = true) (h2 : SeqAt.shaped (.list ds) = true) : B2 X (compareOp .In) d1 (.list ds) (.bool (ds.any fun z => PyData.eqv z d1)) := fun G H x y e rx ry Q q =>
  W2.of (op_inD (hu65 hX)) ⟨d1, ds, (rx.mono e).dp, (ry.mono e).dp, h1, h2, q _ G H (Gr.refl e) (.bl _)⟩
theorem b2_niL {k : Nat} {ds : List PyData} (hX : Good X k) (h1 : SeqAt.shaped d1 = true) (h2 : SeqAt.shaped (.list ds) = true) : B2 X (compareOp .NotIn) d1 (.list ds) (.bool (!ds.any fun z => PyData.eqv z d1)) := fun G H x y e rx ry Q q =>
  W2.of (op_notInD (hu65 hX)) ⟨d1, ds, (rx.mono e).dp, (ry.mono e).dp, h1, h2, q _ G H (Gr.refl e) (.bl _)⟩
def flatD : PyData → Bool
  | .none => true
  | .bool _ => true
  | .int _ => true
  | .str _ => true
  | _ => false
theorem Rp.flat {G : Hp} {v : V} (r : Rp G v d) (h : flatD d = true) : flatV v = true := by
  cases r <;> first | rfl | exact absurd h Bool.false_ne_true
theorem Rp.eqF {G : Hp} {v w : V} (r : Rp G v d1) (q : Rp G w d2) (h1 : flatD d1 = true) (h2 : flatD d2 = true) : eqV v w = PyData.eqv d1 d2 := by
  cases r <;> first
    | exact absurd h1 Bool.false_ne_true
    | (cases q <;> first
        | exact absurd h2 Bool.false_ne_true
        | simp [eqV, PyData.eqv])
theorem RpA.flat {G : Hp} : ∀ {vs : List V} {ds : List PyData}, RpA G vs ds → ds.all flatD = true → vs.all flatV = true
  | _, _, .nil, _ => rfl
  | _, _, .cons h t, e => by
    rw [List.all_cons, Bool.and_eq_true] at e ⊢
    exact ⟨h.flat e.1, RpA.flat t e.2⟩
theorem RpA.inF {G : Hp} {x : V} (rx : Rp G x d1) (h1 : flatD d1 = true) : ∀ {vs : List V} {ds : List PyData}, RpA G vs ds → ds.all flatD = true → inV x vs = ds.any fun z => PyData.eqv z d1
  | _, _, .nil, _ => rfl
  | _, _, .cons h t, e => by
    rw [List.all_cons, Bool.and_eq_true] at e
    have ih := RpA.inF rx h1 t e.2
    unfold inV at ih ⊢
    rw [List.any_cons, List.any_cons, ih, h.eqF rx e.1 h1]
theorem b2_inT {ds : List PyData} (h1 : flatD d1 = true) (h2 : ds.all flatD = true) : B2 X (compareOp .In) d1 (.tuple ds) (.bool (ds.any fun z => PyData.eqv z d1)) := fun G H x y e rx ry Q q => by
  cases ry with
  | tup ha hr =>
    rw [← hr.inF rx h1 h2] at q
    exact W2.of op_in_seq ⟨_, _, rfl, .inr (SqT.of (e _ _ ha)), rx.flat h1, hr.flat h2, q _ G H (Gr.refl e) (.bl _)⟩
theorem b2_niT {ds : List PyData} (h1 : flatD d1 = true) (h2 : ds.all flatD = true) : B2 X (compareOp .NotIn) d1 (.tuple ds) (.bool (!ds.any fun z => PyData.eqv z d1)) := fun G H x y e rx ry Q q => by
  cases ry with
  | tup ha hr =>
    rw [← hr.inF rx h1 h2] at q
    exact W2.of op_notIn_seq ⟨_, _, rfl, .inr (SqT.of (e _ _ ha)), rx.flat h1, hr.flat h2, q _ G H (Gr.refl e) (.bl _)⟩
def isNoneD : PyData → Bool
  | .none => true
  | _ => false
theorem Rp.non_iff {G : Hp} {v : V} (r : Rp G v d) : decide (v = .non) = isNoneD d := by
  cases r <;> first | rfl | exact decide_eq_false (fun z => by cases z)
theorem b2_isN : B2 X (compareOp .Is) d1 .none (.bool (isNoneD d1)) := fun G H x y e rx ry Q q => by
  cases ry
  rw [← rx.non_iff] at q
  exact W2.of op_isN ⟨rfl, q _ G H (Gr.refl e) (.bl _)⟩
theorem b2_notN : B2 X (compareOp .IsNot) d1 .none (.bool (!isNoneD d1)) := fun G H x y e rx ry Q q => by
  cases ry
  rw [← rx.non_iff] at q
  exact W2.of op_notN ⟨rfl, q _ G H (Gr.refl e) (.bl _)⟩
end

/-! ### slices -/
def cutL {α : Type} (xs : List α) (lo hi : Option Int) : List α := (xs.drop (HT.sIx xs.length 0 lo)).take (HT.sIx xs.length xs.length hi - HT.sIx xs.length 0 lo)
theorem cutL_whole {α : Type} {xs : List α} {lo hi : Option Int} (h : HT.sIx xs.length 0 lo = 0 ∧ HT.sIx xs.length xs.length hi = xs.length) : cutL xs lo hi = xs := by
  unfold cutL
  rw [h.1, h.2]
  simp
theorem RpA.cut {G : Hp} {vs : List V} {ds : List PyData} (h : RpA G vs ds) (lo hi : Option Int) : RpA G (cutV vs lo hi) (cutL ds lo hi) := by
  unfold cutV cutL
  rw [h.length]
  exact (h.drop _).take _
section
variable {X : Cx} {a : Expr} {ρ : List Sl} {p2 pos : Pos} {lo hi : Option Expr}
/-- an optional part of a slice -/
def Eo (X : Cx) (e : Option Expr) (ρ : List Sl) (o : Option Int) : Prop := match e, o with
  | none, none => True
  | some e, some i => E X e ρ (.int i)
  | _, _ => False
def WO (X : Cx) : Option Expr → TO
  | none => tNoPart
  | some e => tPart (WE X e)
theorem wo (X : Cx) : ∀ e : Option Expr, PO X e (WO X e)
  | none => po_none
  | some e => po_some (we e)
theorem Eo.go {e : Option Expr} {o : Option Int} (h : Eo X e ρ o) {G H : Hp} {σ : Sg} {n : Nat} (p : Pre none G σ ρ H n) (hn : n ≤ LIM) (Q : Option Int → Hp → Prop) (q : ∀ N H' n', Po none G H n 0 N H' n' → Q o H') : WO X e σ H Q := by
  cases e with
  | none => cases o with
    | none => exact q G H n (Po.refl p.ex p.tin)
    | some i => exact h.elim
  | some e => cases o with
    | none => exact h.elim
    | some i =>
      refine (show E X e ρ (.int i) from h) G σ H n p (by omega) _ fun v d N H' n' e1 o1 r1 => ?_
      subst e1
      cases r1
      exact ⟨i, rfl, q N H' n' o1⟩
theorem e_sliceL {ds : List PyData} {l u : Option Int} (h1 : E X a ρ (.list ds)) (hl : Eo X lo ρ l) (hu : Eo X hi ρ u) : E X (.Subscript a (.Slice lo hi none p2) pos) ρ (.list (cutL ds l u)) := fun G σ H n p hn Q q => by
  refine WE.of (pe_slice sl_list (we a) (wo X lo) (wo X hi)) ?_
  refine h1 G σ H n p (by omega) _ fun x d1 N1 H1 n1 e1 o1 r1 => ?_
  subst e1
  refine hl.go (p.next o1) (by have := o1.le; omega) _ fun N2 H2 n2 o2 => ?_
  refine hu.go ((p.next o1).next o2) (by have := o1.le; have := o2.le; omega) _ fun N3 H3 n3 o3 => ?_
  have o := (o1.trans o2).trans o3
  have r3 := (r1.mono o2.gr.gn).mono o3.gr.gn
  cases r3 with
  | lst ha hr =>
    refine ⟨_, _, rfl, SqL.of (o.gr.nh _ _ ha), fun q' hq => ?_⟩
    exact newLst o.gr.nh hq (hr.cut l u) fun v N H' g r => q _ _ _ _ n3 rfl ((o.trans (Po.pure (c := 0) o.tin g)).weak (by omega)) r
theorem e_sliceT {ds : List PyData} {l u : Option Int} (h1 : E X a ρ (.tuple ds)) (hl : Eo X lo ρ l) (hu : Eo X hi ρ u) : E X (.Subscript a (.Slice lo hi none p2) pos) ρ (.tuple (cutL ds l u)) := fun G σ H n p hn Q q => by
  refine WE.of (pe_slice sl_tupA (we a) (wo X lo) (wo X hi)) ?_
  refine h1 G σ H n p (by omega) _ fun x d1 N1 H1 n1 e1 o1 r1 => ?_
  subst e1
  refine hl.go (p.next o1) (by have := o1.le; omega) _ fun N2 H2 n2 o2 => ?_
  refine hu.go ((p.next o1).next o2) (by have := o1.le; have := o2.le; omega) _ fun N3 H3 n3 o3 => ?_
  have o := (o1.trans o2).trans o3
  have r3 := (r1.mono o2.gr.gn).mono o3.gr.gn
  cases r3 with
  | tup ha hr =>
    refine ⟨_, _, rfl, SqT.of (o.gr.nh _ _ ha), fun z => ?_, fun _ q' hq => ?_⟩
    · rw [hr.length] at z
      have e : cutL ds l u = ds := cutL_whole z
      rw [e] at q
      exact q _ _ N3 H3 n3 rfl (o.weak (by omega)) (.tup ha hr)
    · exact newTup o.gr.nh hq (hr.cut l u) fun v N H' g r => q _ _ _ _ n3 rfl ((o.trans (Po.pure (c := 0) o.tin g)).weak (by omega)) r
end

/-! ### own defs -/
/-- a def without effects: its arguments' data, its result's -/
def spD (F : List PyData → PyData → Prop) : L2.Sp := fun vs H Q _ => ∃ G ds d, Ex G H ∧ RpA G vs ds ∧ F ds d ∧ ∀ v N H', Gr none G H N H' → Rp N v d → Q v H'
/-- a def that draws at its first argument, at most c times -/
def spT (c : Nat) (F : List PyData → (PyData → Prop) → Prop) : L2.Sp := fun vs H Q _ => ∃ G a vs' ds P n, vs = .ref a :: vs' ∧ Ex G H ∧ TinOk (some a) G H n ∧ n + c ≤ LIM ∧ RpA G vs' ds ∧ F ds P ∧
  ∀ v d N H' n', P d → Po (some a) G H n c N H' n' → Rp N v d → Q v H'
structure Dn (P : Program) (w : World) (K : PySem.W.Frag) (mg : Str → Option Value) (base : Heap) (k : Nat) (x : Str) (ps : List Str) (sp : L2.Sp) : Prop where
  ex : ∃ f fd, FnOk P w K mg base CX0 k f fd ps sp ∧ mg x = some (.ref f) ∧ PySem.W.keepIn K (.ref f) = true ∧ Binds K fd ps []
section
variable {X : Cx} {T : Option Addr} {c c1 j k : Nat} {x : Str} {ps : List Str} {e : Expr} {es : List Expr} {ρ : List Sl} {p pos tpos : Pos} {d : PyData} {ds : List PyData} {P : PyData → Prop}
theorem ev_call {F : List PyData → PyData → Prop} {P1 : List PyData → Prop} (D : Dn X.prog X.w X.K X.mg X.base j x ps (spD F)) (hX : Good X k) (hj : j ≤ k) (hg : Gl X x) (ha : Ea X T c (e :: es) ρ P1) (hF : ∀ ds, P1 ds → ∃ d, P d ∧ F ds d)
    (hdb : (x == ("__debug__" : Str)) = false := by decide) (he : starEach (e :: es) X.env = (false, eval e X.env) :: starEach es X.env := by exact se_cons rfl) (hpl : (backTo pos (starEach es X.env)).any (·.1) = false := by rfl) :
    Ev X T c (.Call (.Name x p) (e :: es) [] pos) ρ P := fun G σ H n pr hn Q q => by
  obtain ⟨f, fd, FO, hm, hk, hb⟩ := D.ex
  refine WE.of (pe_call FO (hX.room.mono hj) hg hm hk hb .nil pass0 (wa _) hdb he hpl) ?_
  refine ha G σ H n pr hn _ fun vs ds' N H1 n1 e1 o1 r1 => ?_
  obtain ⟨d, hd, hFd⟩ := hF ds' e1
  refine ⟨N, ds', d, o1.gr.nh, by rw [List.append_nil]; exact r1, hFd, fun v N2 H2 g r => ?_⟩
  exact q v d N2 H2 n1 hd ((o1.trans (Po.pure (c := 0) o1.tin g)).weak (by omega)) r
theorem e_call {F : List PyData → PyData → Prop} (D : Dn X.prog X.w X.K X.mg X.base j x ps (spD F)) (hX : Good X k) (hj : j ≤ k) (hg : Gl X x) (ha : A X (e :: es) ρ ds) (hF : F ds d)
    (hdb : (x == ("__debug__" : Str)) = false := by decide) (he : starEach (e :: es) X.env = (false, eval e X.env) :: starEach es X.env := by exact se_cons rfl) (hpl : (backTo pos (starEach es X.env)).any (·.1) = false := by rfl) :
    E X (.Call (.Name x p) (e :: es) [] pos) ρ d := ev_call D hX hj hg ha (fun _ e1 => ⟨d, rfl, by rw [e1]; exact hF⟩) hdb he hpl
theorem e_call0 {F : List PyData → PyData → Prop} (D : Dn X.prog X.w X.K X.mg X.base j x ps (spD F)) (hX : Good X k) (hj : j ≤ k) (hg : Gl X x) (hF : F [] d) (hdb : (x == ("__debug__" : Str)) = false := by decide) :
    E X (.Call (.Name x p) [] [] pos) ρ d := fun G σ H n pr hn Q q => by
  obtain ⟨f, fd, FO, hm, hk, hb⟩ := D.ex
  refine WE.of (pe_call0 FO (hX.room.mono hj) hg hm hk hb .nil pass0 hdb) ?_
  refine ⟨G, [], d, pr.ex, .nil, hF, fun v N2 H2 g r => ?_⟩
  exact q v d N2 H2 n rfl (Po.pure pr.tin g) r
/-- f(tin, ..) -/
theorem ev_callT {F : List PyData → (PyData → Prop) → Prop} {P1 : List PyData → Prop} {y : Str} {i c2 : Nat} {a : Addr} (D : Dn X.prog X.w X.K X.mg X.base j x ps (spT c2 F)) (hX : Good X k) (hj : j ≤ k) (hg : Gl X x)
    (hN : X.N[i]? = some y) (hv : Vis X.env.scope y) (ht : ρ[i]? = some .tin) (hT : T = some a) (ha : Ea X T c1 es ρ P1) (hF : ∀ ds, P1 ds → F ds P) (hc : c1 + c2 ≤ c := by omega)
    (hd : (y == ("__debug__" : Str)) = false := by decide) (hcd : (y == ("__classdict__" : Str)) = false := by decide)
    (hdb : (x == ("__debug__" : Str)) = false := by decide) (he : starEach (.Name y tpos :: es) X.env = (false, eval (.Name y tpos) X.env) :: starEach es X.env := by exact se_cons rfl) (hpl : (backTo pos (starEach es X.env)).any (·.1) = false := by rfl) :
    Ev X T c (.Call (.Name x p) (.Name y tpos :: es) [] pos) ρ P := fun G σ H n pr hn Q q => by
  obtain ⟨f, fd, FO, hm, hk, hb⟩ := D.ex
  refine WE.of (pe_call FO (hX.room.mono hj) hg hm hk hb .nil pass0 (pa_cons (pe_var hN hv hd hcd) (wa es) he) hdb he hpl) ?_
  refine ⟨.ref a, pr.env.tinAt ht hT, ?_⟩
  refine ha G σ H n pr (by omega) _ fun vs ds' N H1 n1 e1 o1 r1 => ?_
  subst hT
  refine ⟨N, a, vs, ds', P, n1, by rw [List.append_nil], o1.gr.nh, o1.tin, by have := o1.le; omega, r1, hF ds' e1, fun v d' N2 H2 n2 hd' o2 r => ?_⟩
  exact q v d' N2 H2 n2 hd' ((o1.trans o2).weak hc) r

/-! ### built-in functions and types -/
variable {id : String}
theorem ev_callB {P1 : List PyData → Prop} (hg : Gl X x) (hm : X.mg x = none) (hv : bootBuiltins x = some (.builtin id)) (ha : Ea X T c (e :: es) ρ P1) (hc : ∀ ds, P1 ds → C1 X (.builtin id) ds P) (hn : x ≠ "__name__" := by decide) (hdb : (x == ("__debug__" : Str)) = false := by decide)
    (he : starEach (e :: es) X.env = (false, eval e X.env) :: starEach es X.env := by exact se_cons rfl) (hpl : (backTo pos (starEach es X.env)).any (·.1) = false := by rfl) : Ev X T c (.Call (.Name x p) (e :: es) [] pos) ρ P := fun G σ H n pr hn' Q q => by
  refine WE.of (pe_callB (wc _) hg hm hv (wa _) hn hdb he hpl) ?_
  refine ha G σ H n pr hn' _ fun vs ds' N H1 n1 e1 o1 r1 => ?_
  refine hc ds' e1 N H1 vs o1.gr.nh r1 Q fun v d N2 H2 hd g r => ?_
  exact q v d N2 H2 n1 hd ((o1.trans (Po.pure (c := 0) o1.tin g)).weak (by omega)) r
theorem e_callB (hg : Gl X x) (hm : X.mg x = none) (hv : bootBuiltins x = some (.builtin id)) (ha : A X (e :: es) ρ ds) (hc : C1 X (.builtin id) ds (fun z => z = d)) (hn : x ≠ "__name__" := by decide) (hdb : (x == ("__debug__" : Str)) = false := by decide)
    (he : starEach (e :: es) X.env = (false, eval e X.env) :: starEach es X.env := by exact se_cons rfl) (hpl : (backTo pos (starEach es X.env)).any (·.1) = false := by rfl) : E X (.Call (.Name x p) (e :: es) [] pos) ρ d :=
  ev_callB hg hm hv ha (fun _ e1 => by rw [e1]; exact hc) hn hdb he hpl
theorem ev_callTy {P1 : List PyData → Prop} (hg : Gl X x) (hm : X.mg x = none) (hv : bootBuiltins x = some (.type id)) (ha : Ea X T c (e :: es) ρ P1) (hc : ∀ ds, P1 ds → C1 X (.type id) ds P) (hn : x ≠ "__name__" := by decide) (hdb : (x == ("__debug__" : Str)) = false := by decide)
    (he : starEach (e :: es) X.env = (false, eval e X.env) :: starEach es X.env := by exact se_cons rfl) (hpl : (backTo pos (starEach es X.env)).any (·.1) = false := by rfl) : Ev X T c (.Call (.Name x p) (e :: es) [] pos) ρ P := fun G σ H n pr hn' Q q => by
  refine WE.of (pe_callTy (wc _) hg hm hv (wa _) hn hdb he hpl) ?_
  refine ha G σ H n pr hn' _ fun vs ds' N H1 n1 e1 o1 r1 => ?_
  refine hc ds' e1 N H1 vs o1.gr.nh r1 Q fun v d N2 H2 hd g r => ?_
  exact q v d N2 H2 n1 hd ((o1.trans (Po.pure (c := 0) o1.tin g)).weak (by omega)) r
theorem e_callTy (hg : Gl X x) (hm : X.mg x = none) (hv : bootBuiltins x = some (.type id)) (ha : A X (e :: es) ρ ds) (hc : C1 X (.type id) ds (fun z => z = d)) (hn : x ≠ "__name__" := by decide) (hdb : (x == ("__debug__" : Str)) = false := by decide)
    (he : starEach (e :: es) X.env = (false, eval e X.env) :: starEach es X.env := by exact se_cons rfl) (hpl : (backTo pos (starEach es X.env)).any (·.1) = false := by rfl) : E X (.Call (.Name x p) (e :: es) [] pos) ρ d :=
  ev_callTy hg hm hv ha (fun _ e1 => by rw [e1]; exact hc) hn hdb he hpl
end
section
variable {X : Cx} {k : Nat} {d : PyData} {ds : List PyData} {i j : Int}
theorem rpa1 {G : Hp} {vs : List V} (r : RpA G vs [d]) : ∃ v, vs = [v] ∧ Rp G v d := by
  cases r with
  | cons h t =>
    cases t
    exact ⟨_, rfl, h⟩
theorem rpa2 {G : Hp} {vs : List V} {d2 : PyData} (r : RpA G vs [d, d2]) : ∃ v w, vs = [v, w] ∧ Rp G v d ∧ Rp G w d2 := by
  cases r with
  | cons h t =>
    obtain ⟨w, rfl, hw⟩ := rpa1 t
    exact ⟨_, w, rfl, h, hw⟩
theorem c_lenL : C1 X (.builtin "len") [.list ds] (fun z => z = .int ds.length) := fun G H xs e r Q q => by
  obtain ⟨v, rfl, h⟩ := rpa1 r
  cases h with
  | lst ha hr => exact WC.of call_len_seq ⟨_, _, rfl, .inl (SqL.of (e _ _ ha)), by rw [hr.length]; exact q _ _ G H rfl (Gr.refl e) (.int _)⟩
theorem c_lenT : C1 X (.builtin "len") [.tuple ds] (fun z => z = .int ds.length) := fun G H xs e r Q q => by
  obtain ⟨v, rfl, h⟩ := rpa1 r
  cases h with
  | tup ha hr => exact WC.of call_len_seq ⟨_, _, rfl, .inr (SqT.of (e _ _ ha)), by rw [hr.length]; exact q _ _ G H rfl (Gr.refl e) (.int _)⟩
theorem c_tupleL : C1 X (.type "tuple") [.list ds] (fun z => z = .tuple ds) := fun G H xs e r Q q => by
  obtain ⟨v, rfl, h⟩ := rpa1 r
  cases h with
  | lst ha hr =>
    refine WC.of call_tuple_of ⟨_, _, rfl, .inl ⟨SqL.of (e _ _ ha), fun l hl => ?_⟩⟩
    exact newTup e hl hr fun v N H' g r => q _ _ _ _ rfl g r
theorem c_tupleT : C1 X (.type "tuple") [.tuple ds] (fun z => z = .tuple ds) := fun G H xs e r Q q => by
  obtain ⟨v, rfl, h⟩ := rpa1 r
  cases h with
  | tup ha hr => exact WC.of call_tuple_of ⟨_, _, rfl, .inr ⟨SqT.of (e _ _ ha), q _ _ G H rfl (Gr.refl e) (.tup ha hr)⟩⟩
theorem c_listL : C1 X (.type "list") [.list ds] (fun z => z = .list ds) := fun G H xs e r Q q => by
  obtain ⟨v, rfl, h⟩ := rpa1 r
  cases h with
  | lst ha hr =>
    refine WC.of call_list_of ⟨_, _, rfl, .inl (SqL.of (e _ _ ha)), fun l hl => ?_⟩
    exact newLst e hl hr fun v N H' g r => q _ _ _ _ rfl g r
theorem c_listT : C1 X (.type "list") [.tuple ds] (fun z => z = .list ds) := fun G H xs e r Q q => by
  obtain ⟨v, rfl, h⟩ := rpa1 r
  cases h with
  | tup ha hr =>
    refine WC.of call_list_of ⟨_, _, rfl, .inr (SqT.of (e _ _ ha)), fun l hl => ?_⟩
    exact newLst e hl hr fun v N H' g r => q _ _ _ _ rfl g r
theorem c_sum {ns : List Int} (hX : Good X k) : C1 X (.builtin "sum") [.list (ns.map .int)] (fun z => z = .int ns.sum) := fun G H xs e r Q q => by
  obtain ⟨v, rfl, h⟩ := rpa1 r
  cases h with
  | lst ha hr =>
    rw [hr.ofInts] at ha
    exact WC.of (cr_sum hX.calm) ⟨_, ns, rfl, SqL.of (e _ _ ha), q _ _ G H rfl (Gr.refl e) (.int _)⟩
/-- the greatest -/
def maxL : List Int → Int
  | [] => 0
  | [x] => x
  | x :: y :: r => max x (maxL (y :: r))
theorem maxL_mem : ∀ {ns : List Int}, ns ≠ [] → maxL ns ∈ ns
  | [], h => absurd rfl h
  | [x], _ => by simp [maxL]
  | x :: y :: r, _ => by
    have ih := maxL_mem (ns := y :: r) (by simp)
    show max x (maxL (y :: r)) ∈ _
    rcases Int.le_total x (maxL (y :: r)) with h | h
    · rw [Int.max_eq_right h]; exact List.mem_cons_of_mem _ ih
    · rw [Int.max_eq_left h]; exact List.mem_cons_self
theorem le_maxL : ∀ {ns : List Int} {x : Int}, x ∈ ns → x ≤ maxL ns
  | [], _, h => by simp at h
  | [y], x, h => by
    have : x = y := by simpa using h
    subst this
    exact Int.le_refl _
  | y :: z :: r, x, h => by
    show x ≤ max y (maxL (z :: r))
    rcases List.mem_cons.mp h with h | h
    · subst h; exact Int.le_max_left _ _
    · exact Int.le_trans (le_maxL h) (Int.le_max_right _ _)
theorem c_max {ns : List Int} (hX : Good X k) (hne : ns ≠ []) : C1 X (.builtin "max") [.list (ns.map .int)] (fun z => z = .int (maxL ns)) := fun G H xs e r Q q => by
  obtain ⟨v, rfl, h⟩ := rpa1 r
  cases h with
  | lst ha hr =>
    rw [hr.ofInts] at ha
    refine WC.of (cr_max hX.calm) ⟨_, ns, rfl, SqL.of (e _ _ ha), List.length_pos_iff.mpr hne, fun m hm hle => ?_⟩
    have em : m = maxL ns := Int.le_antisymm (le_maxL hm) (hle _ (maxL_mem hne))
    exact q _ _ G H rfl (Gr.refl e) (by rw [em]; exact .int _)
theorem c_max2 (hX : Good X k) : C1 X (.builtin "max") [.int i, .int j] (fun z => z = .int (max i j)) := fun G H xs e r Q q => by
  obtain ⟨v, w, rfl, h1, h2⟩ := rpa2 r
  cases h1
  cases h2
  refine WC.of (call_max2 hX.calm) ⟨i, j, rfl, ?_⟩
  have em : (if j > i then j else i) = max i j := by split <;> omega
  rw [em]
  exact q _ _ G H rfl (Gr.refl e) (.int _)
theorem c_min2 (hX : Good X k) : C1 X (.builtin "min") [.int i, .int j] (fun z => z = .int (min i j)) := fun G H xs e r Q q => by
  obtain ⟨v, w, rfl, h1, h2⟩ := rpa2 r
  cases h1
  cases h2
  refine WC.of (call_min2 hX.calm) ⟨i, j, rfl, ?_⟩
  have em : (if j < i then j else i) = min i j := by split <;> omega
  rw [em]
  exact q _ _ G H rfl (Gr.refl e) (.int _)
def absI (i : Int) : Int := if i < 0 then -i else i
theorem c_abs : C1 X (.builtin "abs") [.int i] (fun z => z = .int (absI i)) := fun G H xs e r Q q => by
  obtain ⟨v, rfl, h⟩ := rpa1 r
  cases h
  exact WC.of call_abs ⟨i, rfl, q _ _ G H rfl (Gr.refl e) (.int _)⟩
theorem c_all {bs : List Bool} (hX : Good X k) : C1 X (.builtin "all") [.list (bs.map .bool)] (fun z => z = .bool (bs.all id)) := fun G H xs e r Q q => by
  obtain ⟨v, rfl, h⟩ := rpa1 r
  cases h with
  | lst ha hr =>
    rw [hr.ofBools] at ha
    exact WC.of (cr_all hX.calm) ⟨_, bs, rfl, SqL.of (e _ _ ha), q _ _ G H rfl (Gr.refl e) (.bl _)⟩
theorem c_intI : C1 X (.type "int") [.int i] (fun z => z = .int i) := fun G H xs e r Q q => by
  obtain ⟨v, rfl, h⟩ := rpa1 r
  cases h
  exact WC.of call_int1 (.inl ⟨i, rfl, q _ _ G H rfl (Gr.refl e) (.int _)⟩)
theorem c_intB {b : Bool} : C1 X (.type "int") [.bool b] (fun z => z = .int (if b then 1 else 0)) := fun G H xs e r Q q => by
  obtain ⟨v, rfl, h⟩ := rpa1 r
  cases h
  exact WC.of call_int1 (.inr ⟨b, rfl, q _ _ G H rfl (Gr.refl e) (.int _)⟩)
theorem c_sorted {ns : List Int} (h64 : ns.length < 64) : C1 X (.builtin "sorted") [.list (ns.map .int)] (fun z => ∃ ms : List Int, z = .list (ms.map .int) ∧ ms.Perm ns ∧ ms.Pairwise (· ≤ ·)) := fun G H xs e r Q q => by
  obtain ⟨v, rfl, h⟩ := rpa1 r
  cases h with
  | lst ha hr =>
    rw [hr.ofInts] at ha
    refine WC.of cr_sorted ⟨_, ns, rfl, SqL.of (e _ _ ha), h64, fun ms p h1 h2 hp => ?_⟩
    exact newLst e hp (RpA.ints ms) fun v N H' g r => q _ _ _ _ ⟨ms, rfl, h1, h2⟩ g r
end

/-! ### isinstance -/
def tyD : PyData → String
  | .none => "NoneType"
  | .bool _ => "bool"
  | .int _ => "int"
  | .str _ => "str"
  | .list _ => "list"
  | .tuple _ => "tuple"
  | .dict _ => "dict"
theorem Rp.ty {K : PySem.W.Frag} {G H : Hp} {v : V} {d : PyData} (e : Ex G H) (r : Rp G v d) : TyX K H v (.type (tyD d)) := by
  cases r with
  | non => exact .base .non
  | bl b => exact .base (.bl b)
  | int i => exact .base (.int i)
  | str x => exact .base (.str x)
  | lst h _ => exact .base (.lst (e _ _ h))
  | tup h _ => exact .base (.tup (e _ _ h))
section
variable {X : Cx} {k : Nat} {d : PyData} {e : Expr} {ρ : List Sl} {p p2 p3 p4 pos tpos : Pos} {kk : Nat}
theorem e_isi {T : Str} {n : String} {b : Bool} (hX : Good X k) (hg : Gl X "isinstance") (h : E X e ρ d) (hgT : Gl X T) (hmT : X.mg T = none) (hvT : bootBuiltins T = some (.type n)) (hb : kitB (tyD d) n = some b) (hn : T ≠ "__name__" := by decide) (hdb : (T == ("__debug__" : Str)) = false := by decide)
    (hs : starEach (e :: [.Name T p2]) X.env = (false, eval e X.env) :: starEach [.Name T p2] X.env := by exact se_cons rfl) (hs2 : starEach [.Name T p2] X.env = (false, eval (.Name T p2) X.env) :: starEach [] X.env := by exact se_cons rfl) (hpl : (backTo pos (starEach [.Name T p2] X.env)).any (·.1) = false := by rfl) :
    E X (.Call (.Name "isinstance" p) [e, .Name T p2] [] pos) ρ (.bool b) := fun G σ H n' pr hn' Q q => by
  refine WE.of (pe_callB call_isi hg hX.bt.isinstance PyProof.Rows.boot_isinstance (pa_cons (we e) (pa_cons (pe_bltn (v := .ty n) hgT hmT hvT rfl hn hdb) pa_nil hs2) hs) (by decide) (by decide) hs hpl) ?_
  refine h G σ H n' pr hn' _ fun v d' N H1 n1 e1 o1 r1 => ?_
  subst e1
  exact ⟨v, .ty n, .type (tyD d'), .type n, b, rfl, .ty n, r1.ty o1.gr.nh, kit_ty hb, q _ _ N H1 n1 rfl o1 (.bl b)⟩
/-- isinstance(e, (T, U)) -/
theorem e_isi2 {T U : Str} {n m : String} {b1 b2 : Bool} (hX : Good X k) (hg : Gl X "isinstance") (h : E X e ρ d) (hgT : Gl X T) (hmT : X.mg T = none) (hvT : bootBuiltins T = some (.type n)) (hgU : Gl X U) (hmU : X.mg U = none) (hvU : bootBuiltins U = some (.type m))
    (hb : kitB (tyD d) n = some b1) (hb2 : kitB (tyD d) m = some b2) (hn : T ≠ "__name__" := by decide) (hdb : (T == ("__debug__" : Str)) = false := by decide) (hn2 : U ≠ "__name__" := by decide) (hdb2 : (U == ("__debug__" : Str)) = false := by decide)
    (hs : starEach (e :: [.Tuple [.Name T p2, .Name U p3] kk tpos]) X.env = (false, eval e X.env) :: starEach [.Tuple [.Name T p2, .Name U p3] kk tpos] X.env := by exact se_cons rfl)
    (hs2 : starEach [.Tuple [.Name T p2, .Name U p3] kk tpos] X.env = (false, eval (.Tuple [.Name T p2, .Name U p3] kk tpos) X.env) :: starEach [] X.env := by exact se_cons rfl)
    (hs3 : starEach [.Name T p2, .Name U p3] X.env = (false, eval (.Name T p2) X.env) :: starEach [.Name U p3] X.env := by exact se_cons rfl) (hs4 : starEach [.Name U p3] X.env = (false, eval (.Name U p3) X.env) :: starEach [] X.env := by exact se_cons rfl)
    (hpl : (backTo pos (starEach [.Tuple [.Name T p2, .Name U p3] kk tpos] X.env)).any (·.1) = false := by rfl) :
    E X (.Call (.Name "isinstance" p) [e, .Tuple [.Name T p2, .Name U p3] kk tpos] [] pos) ρ (.bool (b1 || b2)) := fun G σ H n' pr hn' Q q => by
  refine WE.of (pe_callB call_isiT hg hX.bt.isinstance PyProof.Rows.boot_isinstance (pa_cons (we e) (pa_cons (pe_tup (pa_cons (pe_bltn (v := .ty n) hgT hmT hvT rfl hn hdb) (pa_cons (pe_bltn (v := .ty m) hgU hmU hvU rfl hn2 hdb2) pa_nil hs4) hs3)) pa_nil hs2) hs) (by decide) (by decide) hs hpl) ?_
  refine h G σ H n' pr hn' _ fun v d' N H1 n1 e1 o1 r1 => ?_
  subst e1
  refine ⟨by show 2 ≤ sizeLine; decide, fun tp htp => ?_⟩
  have g : Gr none N H1 N (upd H1 tp (.tup [.ty n, .ty m])) := ⟨Ex.refl N, fun _ _ z => .inl z, fun a o z => (Ex.new htp) a o (o1.gr.nh a o z), fun a o _ z => (Ex.new htp) a o z, fun a o z => ⟨o, (Ex.new htp) a o z⟩⟩
  refine ⟨v, tp, [.ty n, .ty m], .type (tyD d'), [.type n, .type m], b1 || b2, rfl, upd_same, .cons (.ty n) (.cons (.ty m) .nil), r1.ty g.nh, ?_, ?_⟩
  · refine kitAny_cons (kit_ty hb) (fun z => ?_) (fun z => by rw [z, Bool.true_or])
    rw [z, Bool.false_or]
    refine kitAny_cons (kit_ty hb2) (fun z => ?_) (fun z => z)
    rw [z]
    rfl
  · exact q _ _ N _ n1 rfl ((o1.trans (Po.pure (c := 0) o1.tin g)).weak (by omega)) (.bl _)
end
end Pn

set_option Elab.async false
set_option linter.all false
set_option maxRecDepth 100000
set_option maxHeartbeats 4000000
/-! PnLc: what is walked, comprehensions. -/
namespace Pn
open PySem PySem.Spec PyProof.Rows L2

structure Walks (N : Hp) (J : It) (ds : List PyData) : Prop where
  go : ∀ H, Ex N H → ∀ i, i < ds.length → J.go i H
  stop : ∀ H, Ex N H → J.stop ds.length H
  yld : ∀ H, Ex N H → ∀ i d x H', ds[i]? = some d → J.yld i H x H' → ∃ N', Gr none N H N' H' ∧ Rp N' x d
def Ei (X : Cx) (tg : Expr) (T : Option Addr) (c : Nat) (iter : Expr) (ρ : List Sl) (P : List PyData → Prop) : Prop :=
  ∀ G σ H n, Pre T G σ ρ H n → n + c ≤ LIM → ∀ R : It → Hp → Prop, (∀ ds J N H' n', P ds → Po T G H n c N H' n' → Walks N J ds → R J H') → WI X tg iter σ H R
abbrev Ei0 (X : Cx) (tg iter : Expr) (ρ : List Sl) (ds : List PyData) : Prop := Ei X tg none 0 iter ρ (fun z => z = ds)
section
variable {K : PySem.W.Frag} {N : Hp}
theorem walks_list {a : Addr} {vs : List V} {ds : List PyData} (h : N a = some (.lst vs)) (r : RpA N vs ds) : Walks N (Itl K a) ds where
  go := fun H e i hi => by
    have hi' : i < vs.length := by rw [r.length]; exact hi
    exact ⟨vs, vs[i], SqL.of (e _ _ h), List.getElem?_eq_getElem hi'⟩
  stop := fun H e => ⟨vs, SqL.of (e _ _ h), by rw [r.length]; exact Nat.le_refl _⟩
  yld := fun H e i d x H' hd y => by
    obtain ⟨rfl, y⟩ := y
    obtain ⟨v, hv, rv⟩ := r.get hd
    have := y vs (SqL.of (e _ _ h))
    rw [hv] at this
    cases this
    exact ⟨N, Gr.refl e, rv⟩
theorem walks_tup {a : Addr} {vs : List V} {ds : List PyData} (h : N a = some (.tup vs)) (r : RpA N vs ds) : Walks N (Itt K a) ds where
  go := fun H e i hi => by
    have hi' : i < vs.length := by rw [r.length]; exact hi
    exact ⟨vs, vs[i], SqT.of (e _ _ h), List.getElem?_eq_getElem hi'⟩
  stop := fun H e => ⟨vs, SqT.of (e _ _ h), by rw [r.length]; exact Nat.le_refl _⟩
  yld := fun H e i d x H' hd y => by
    obtain ⟨rfl, y⟩ := y
    obtain ⟨v, hv, rv⟩ := r.get hd
    have := y vs (SqT.of (e _ _ h))
    rw [hv] at this
    cases this
    exact ⟨N, Gr.refl e, rv⟩
def rangeD (lo : Int) (n : Nat) : List PyData := (List.range n).map fun (i : Nat) => PyData.int (lo + (i : Int))
theorem rangeD_get {lo : Int} {n i : Nat} {d : PyData} (h : (rangeD lo n)[i]? = some d) : d = .int (lo + i) ∧ i < n := by
  unfold rangeD at h
  rw [List.getElem?_map] at h
  cases q : (List.range n)[i]? with
  | none => rw [q] at h; cases h
  | some j =>
    rw [q] at h
    obtain ⟨h1, h2⟩ := List.getElem?_eq_some_iff.mp q
    rw [List.getElem_range] at h2
    subst h2
    rw [List.length_range] at h1
    exact ⟨(Option.some.inj h).symm, h1⟩
theorem walks_range {lo : Int} {n : Nat} : Walks N (Itr lo n) (rangeD lo n) where
  go := fun H e i hi => by
    show i < n
    simpa [rangeD] using hi
  stop := fun H e => by show n ≤ (rangeD lo n).length; simp [rangeD]
  yld := fun H e i d x H' hd y => by
    obtain ⟨rfl, rfl⟩ := y
    obtain ⟨rfl, _⟩ := rangeD_get hd
    exact ⟨N, Gr.refl e, .int _⟩
def zipD : List PyData → List PyData → List PyData := List.zipWith fun a b => PyData.tuple [a, b]
theorem zipD_get {xs ys : List PyData} {i : Nat} {d : PyData} (h : (zipD xs ys)[i]? = some d) : ∃ x y, xs[i]? = some x ∧ ys[i]? = some y ∧ d = .tuple [x, y] := by
  unfold zipD at h
  rw [List.getElem?_zipWith] at h
  cases q : xs[i]? with
  | none => rw [q] at h; cases h
  | some x =>
    cases q2 : ys[i]? with
    | none => rw [q, q2] at h; cases h
    | some y =>
      rw [q, q2] at h
      exact ⟨x, y, rfl, rfl, (Option.some.inj h).symm⟩
theorem newPair {H H' : Hp} {T : Addr} {x y : V} {d e : PyData} (ex : Ex N H) (hT : H T = none) (rx : Rp N x d) (ry : Rp N y e) (hH : H' = upd H T (.tup [x, y])) : ∃ N', Gr none N H N' H' ∧ Rp N' (.ref T) (.tuple [d, e]) := by
  subst hH
  have g : Gr none N H (upd N T (.tup [x, y])) (upd H T (.tup [x, y])) := Gr.new ex hT
  exact ⟨_, g, .tup upd_same (.cons (rx.mono g.gn) (.cons (ry.mono g.gn) .nil))⟩
theorem walks_zipL {a b : Addr} {vs ws : List V} {ds es : List PyData} (h : N a = some (.lst vs)) (r : RpA N vs ds) (h' : N b = some (.lst ws)) (r' : RpA N ws es) : Walks N (Itz K a b) (zipD ds es) where
  go := fun H e i hi => by
    have hl : (zipD ds es).length = min ds.length es.length := by unfold zipD; exact List.length_zipWith
    have h1 : i < vs.length := by rw [r.length]; omega
    have h2 : i < ws.length := by rw [r'.length]; omega
    exact ⟨vs, ws, vs[i], ws[i], SqL.of (e _ _ h), SqL.of (e _ _ h'), List.getElem?_eq_getElem h1, List.getElem?_eq_getElem h2⟩
  stop := fun H e => by
    have hl : (zipD ds es).length = min ds.length es.length := by unfold zipD; exact List.length_zipWith
    refine ⟨vs, ws, SqL.of (e _ _ h), SqL.of (e _ _ h'), ?_⟩
    rw [r.length, r'.length, hl]
    omega
  yld := fun H e i d x H' hd y => by
    obtain ⟨d1, d2, e1, e2, rfl⟩ := zipD_get hd
    obtain ⟨T, x1, x2, rfl, hT, hH, f1, f2⟩ := y
    obtain ⟨v, hv, rv⟩ := r.get e1
    obtain ⟨w, hw, rw'⟩ := r'.get e2
    have g1 := f1 vs (SqL.of (e _ _ h))
    have g2 := f2 ws (SqL.of (e _ _ h'))
    rw [hv] at g1
    rw [hw] at g2
    cases g1
    cases g2
    exact newPair e hT rv rw' hH
theorem walks_zipT {a b : Addr} {vs ws : List V} {ds es : List PyData} (h : N a = some (.tup vs)) (r : RpA N vs ds) (h' : N b = some (.tup ws)) (r' : RpA N ws es) : Walks N (RZ.ItzT K a b) (zipD ds es) where
  go := fun H e i hi => by
    have hl : (zipD ds es).length = min ds.length es.length := by unfold zipD; exact List.length_zipWith
    have h1 : i < vs.length := by rw [r.length]; omega
    have h2 : i < ws.length := by rw [r'.length]; omega
    exact ⟨vs, ws, vs[i], ws[i], SqT.of (e _ _ h), SqT.of (e _ _ h'), List.getElem?_eq_getElem h1, List.getElem?_eq_getElem h2⟩
  stop := fun H e => by
    have hl : (zipD ds es).length = min ds.length es.length := by unfold zipD; exact List.length_zipWith
    refine ⟨vs, ws, SqT.of (e _ _ h), SqT.of (e _ _ h'), ?_⟩
    rw [r.length, r'.length, hl]
    omega
  yld := fun H e i d x H' hd y => by
    obtain ⟨d1, d2, e1, e2, rfl⟩ := zipD_get hd
    obtain ⟨T, x1, x2, rfl, hT, hH, f1, f2⟩ := y
    obtain ⟨v, hv, rv⟩ := r.get e1
    obtain ⟨w, hw, rw'⟩ := r'.get e2
    have g1 := f1 vs (SqT.of (e _ _ h))
    have g2 := f2 ws (SqT.of (e _ _ h'))
    rw [hv] at g1
    rw [hw] at g2
    cases g1
    cases g2
    exact newPair e hT rv rw' hH
def enumFrom : Nat → List PyData → List PyData
  | _, [] => []
  | n, d :: ds => .tuple [.int n, d] :: enumFrom (n + 1) ds
theorem enumFrom_get : ∀ {ds : List PyData} {n i : Nat} {d : PyData}, (enumFrom n ds)[i]? = some d → ∃ x, ds[i]? = some x ∧ d = .tuple [.int ((n + i : Nat) : Int), x]
  | [], _, _, _, h => by simp [enumFrom] at h
  | x :: ds, n, 0, d, h => by
    refine ⟨x, rfl, ?_⟩
    have h' : some (PyData.tuple [.int n, x]) = some d := h
    exact (Option.some.inj h').symm
  | x :: ds, n, i + 1, d, h => by
    obtain ⟨y, h1, h2⟩ := enumFrom_get (ds := ds) (n := n + 1) (i := i) (d := d) h
    exact ⟨y, h1, by rw [h2, show n + 1 + i = n + (i + 1) by omega]⟩
theorem enumFrom_length : ∀ (ds : List PyData) (n : Nat), (enumFrom n ds).length = ds.length
  | [], _ => rfl
  | x :: ds, n => congrArg (· + 1) (enumFrom_length ds (n + 1))
theorem walks_enum {a : Addr} {vs : List V} {ds : List PyData} (h : N a = some (.lst vs)) (r : RpA N vs ds) : Walks N (Ite K a) (enumFrom 0 ds) where
  go := fun H e i hi => by
    rw [enumFrom_length] at hi
    have hi' : i < vs.length := by rw [r.length]; exact hi
    exact ⟨vs, vs[i], SqL.of (e _ _ h), List.getElem?_eq_getElem hi'⟩
  stop := fun H e => ⟨vs, SqL.of (e _ _ h), by rw [r.length, enumFrom_length]; exact Nat.le_refl _⟩
  yld := fun H e i d x H' hd y => by
    obtain ⟨d1, e1, rfl⟩ := enumFrom_get hd
    obtain ⟨T, x1, rfl, hT, hH, f1⟩ := y
    obtain ⟨v, hv, rv⟩ := r.get e1
    have g1 := f1 vs (SqL.of (e _ _ h))
    rw [hv] at g1
    cases g1
    rw [Nat.zero_add]
    exact newPair e hT (.int _) rv hH
end
section
variable {X : Cx} {T : Option Addr} {c k : Nat} {tg e e2 : Expr} {ρ : List Sl} {P : List PyData → Prop} {ds es : List PyData} {p pos tpos : Pos}
theorem Ei.lift {iter : Expr} (h : Ei0 X tg iter ρ ds) : Ei X tg T c iter ρ (fun z => z = ds) := fun G σ H n pr hn R q =>
  h G σ H n pr.toNone (by omega) R fun ds J N H' n' e o wk => q ds J N H' n e (Po.pure pr.tin o.gr) wk
theorem ei_list (h : Ev X T c e ρ (fun z => ∃ ds, P ds ∧ z = .list ds)) : Ei X tg T c e ρ P := fun G σ H n pr hn R q => by
  refine WI.of (pi_list (we e)) ?_
  refine h G σ H n pr hn _ fun v d N H1 n1 e1 o1 r1 => ?_
  obtain ⟨ds, hp, rfl⟩ := e1
  cases r1 with
  | lst ha hr => exact ⟨_, rfl, ⟨_, SqL.of (o1.gr.nh _ _ ha)⟩, q ds _ N H1 n1 hp o1 (walks_list ha hr)⟩
theorem ei_tup (h : Ev X T c e ρ (fun z => ∃ ds, P ds ∧ z = .tuple ds)) : Ei X tg T c e ρ P := fun G σ H n pr hn R q => by
  refine WI.of (pi_tup (we e)) ?_
  refine h G σ H n pr hn _ fun v d N H1 n1 e1 o1 r1 => ?_
  obtain ⟨ds, hp, rfl⟩ := e1
  cases r1 with
  | tup ha hr => exact ⟨_, rfl, ⟨_, SqT.of (o1.gr.nh _ _ ha)⟩, q ds _ N H1 n1 hp o1 (walks_tup ha hr)⟩
theorem i_list (h : E X e ρ (.list ds)) : Ei0 X tg e ρ ds := ei_list (h.mono (fun z hz => ⟨ds, rfl, hz⟩) (Nat.le_refl _))
theorem i_tup (h : E X e ρ (.tuple ds)) : Ei0 X tg e ρ ds := ei_tup (h.mono (fun z hz => ⟨ds, rfl, hz⟩) (Nat.le_refl _))
theorem i_range1 {n : Int} (hX : Good X k) (hg : Gl X "range") (h : A X [e] ρ [.int n]) (h1 : -100000 ≤ n) (h2 : n ≤ 100000) (hs : starEach [e] X.env = [(false, eval e X.env)] := by rfl) : Ei0 X tg (.Call (.Name "range" p) [e] [] pos) ρ (rangeD 0 n.toNat) := fun G σ H n' pr hn R q => by
  refine WI.of (pi_range1 hg hX.bt.range (wa [e]) hs) ?_
  refine h G σ H n' pr hn _ fun vs ds N H1 n1 e1 o1 r1 => ?_
  subst e1
  obtain ⟨v, rfl, rv⟩ := rpa1 r1
  cases rv
  exact ⟨n, rfl, by omega, by omega, q _ _ N H1 n1 rfl o1 walks_range⟩
theorem i_range2 {m n : Int} (hX : Good X k) (hg : Gl X "range") (h : A X [e, e2] ρ [.int m, .int n]) (h1 : -100000 ≤ m) (h2 : m ≤ 100000) (h3 : -100000 ≤ n) (h4 : n ≤ 100000) (hs : starEach [e, e2] X.env = [(false, eval e X.env), (false, eval e2 X.env)] := by rfl) (hs2 : starEach [e2] X.env = [(false, eval e2 X.env)] := by rfl) :
    Ei0 X tg (.Call (.Name "range" p) [e, e2] [] pos) ρ (rangeD m (n - m).toNat) := fun G σ H n' pr hn R q => by
  refine WI.of (pi_range2 hg hX.bt.range (wa [e, e2]) hs hs2) ?_
  refine h G σ H n' pr hn _ fun vs ds N H1 n1 e1 o1 r1 => ?_
  subst e1
  obtain ⟨v, w, rfl, rv, rw'⟩ := rpa2 r1
  cases rv
  cases rw'
  exact ⟨m, n, rfl, ⟨by omega, by omega, by omega, by omega⟩, q _ _ N H1 n1 rfl o1 walks_range⟩
theorem i_zipL {elts : List Expr} {kk : Nat} (hX : Good X k) (hg : Gl X "zip") (h : A X [e, e2] ρ [.list ds, .list es]) (hs : starEach [e, e2] X.env = (false, eval e X.env) :: starEach [e2] X.env := by exact se_cons rfl) (hpl : (backTo pos (starEach [e2] X.env)).any (·.1) = false := by rfl) :
    Ei0 X (.Tuple elts kk tpos) (.Call (.Name "zip" p) [e, e2] [] pos) ρ (zipD ds es) := fun G σ H n' pr hn R q => by
  refine WI.of (pi_zip hg hX.bt.zip (wa [e, e2]) hs hpl) ?_
  refine h G σ H n' pr hn _ fun vs ds' N H1 n1 e1 o1 r1 => ?_
  subst e1
  obtain ⟨v, w, rfl, rv, rw'⟩ := rpa2 r1
  cases rv with
  | lst ha hr => cases rw' with
    | lst hb hs' => exact ⟨_, _, _, _, rfl, SqL.of (o1.gr.nh _ _ ha), SqL.of (o1.gr.nh _ _ hb), q _ _ N H1 n1 rfl o1 (walks_zipL ha hr hb hs')⟩
theorem i_zipT {elts : List Expr} {kk : Nat} (hX : Good X k) (hg : Gl X "zip") (h : A X [e, e2] ρ [.tuple ds, .tuple es]) (hs : starEach [e, e2] X.env = (false, eval e X.env) :: starEach [e2] X.env := by exact se_cons rfl) (hpl : (backTo pos (starEach [e2] X.env)).any (·.1) = false := by rfl) :
    Ei0 X (.Tuple elts kk tpos) (.Call (.Name "zip" p) [e, e2] [] pos) ρ (zipD ds es) := fun G σ H n' pr hn R q => by
  refine WI.of (RZ.pi_zipA hg hX.bt.zip (wa [e, e2]) hs hpl) ?_
  refine h G σ H n' pr hn _ fun vs ds' N H1 n1 e1 o1 r1 => ?_
  subst e1
  obtain ⟨v, w, rfl, rv, rw'⟩ := rpa2 r1
  cases rv with
  | tup ha hr => cases rw' with
    | tup hb hs' => exact ⟨_, _, _, _, rfl, .inr ⟨SqT.of (o1.gr.nh _ _ ha), SqT.of (o1.gr.nh _ _ hb), q _ _ N H1 n1 rfl o1 (walks_zipT ha hr hb hs')⟩⟩
theorem i_enumL {elts : List Expr} {kk : Nat} (hX : Good X k) (hg : Gl X "enumerate") (h : A X [e] ρ [.list ds]) (hs : starEach [e] X.env = [(false, eval e X.env)] := by rfl) :
    Ei0 X (.Tuple elts kk tpos) (.Call (.Name "enumerate" p) [e] [] pos) ρ (enumFrom 0 ds) := fun G σ H n' pr hn R q => by
  refine WI.of (pi_enum hg hX.bt.enumerate (wa [e]) hs) ?_
  refine h G σ H n' pr hn _ fun vs ds' N H1 n1 e1 o1 r1 => ?_
  subst e1
  obtain ⟨v, rfl, rv⟩ := rpa1 r1
  cases rv with
  | lst ha hr => exact ⟨_, _, rfl, SqL.of (o1.gr.nh _ _ ha), q _ _ N H1 n1 rfl o1 (walks_enum ha hr)⟩
/-- list(range(..)) -/
theorem e_listRange1 {n : Int} (hX : Good X k) (hg : Gl X "list") (hgr : Gl X "range") (h : E X e ρ (.int n)) (h1 : 0 ≤ n) (h2 : n ≤ 100000) (na : starEach [e] X.env = (false, eval e X.env) :: starEach [] X.env := by exact se_cons rfl)
    (na2 : starEach [.Call (.Name "range" p) [e] [] pos] X.env = (false, eval (.Call (.Name "range" p) [e] [] pos) X.env) :: starEach [] X.env := by exact se_cons rfl) {p2 pos2 : Pos} : E X (.Call (.Name "list" p2) [.Call (.Name "range" p) [e] [] pos] [] pos2) ρ (.list (rangeD 0 n.toNat)) := fun G σ H n' pr hn Q q => by
  refine WE.of (pe_listRg hX.calm hg hX.bt.list (prg_1 hgr hX.bt.range (we e) na) na2) ?_
  refine h G σ H n' pr hn _ fun v d N H1 n1 e1 o1 r1 => ?_
  subst e1
  cases r1
  refine ⟨n, rfl, RgOk.of_le (Int.le_refl 0) (by omega) (by omega) h1, fun l hl => ?_⟩
  have er : RpA N (rgV 0 n) (rangeD 0 n.toNat) := by
    unfold rgV rangeD
    rw [show n - 0 = n by omega]
    generalize List.range n.toNat = l
    induction l with
    | nil => exact .nil
    | cons a l ih => exact .cons (.int _) ih
  exact newLst o1.gr.nh hl er fun v N2 H2 g r => q _ _ _ _ n1 rfl ((o1.trans (Po.pure (c := 0) o1.tin g)).weak (by omega)) r
end

/-! ### targets -/
theorem wipe_get (σ : Sg) (i : Nat) : ∀ vs : List Nat, (wipe σ vs)[i]? = if i ∈ vs then σ[i]?.map (fun _ => none) else σ[i]?
  | [] => by simp [wipe]
  | v :: vs => by
    show ((wipe σ vs).set v none)[i]? = _
    have ih := wipe_get σ i vs
    by_cases z : v = i
    · subst z
      rw [List.getElem?_set]
      simp only [if_true]
      rw [wipe_length]
      by_cases h : v < σ.length
      · rw [if_pos h, if_pos List.mem_cons_self, List.getElem?_eq_getElem h]
        rfl
      · rw [if_neg h, if_pos List.mem_cons_self, List.getElem?_eq_none (by omega)]
        rfl
    · rw [List.getElem?_set_ne z, ih]
      by_cases h : i ∈ vs
      · rw [if_pos h, if_pos (List.mem_cons_of_mem _ h)]
      · rw [if_neg h, if_neg (by simp only [List.mem_cons, not_or]; exact ⟨fun e => z e.symm, h⟩)]
theorem wipe_set {σ : Sg} {j : Nat} {o : Option V} {vs : List Nat} (h : j ∈ vs) : wipe (σ.set j o) vs = wipe σ vs := by
  refine List.ext_getElem? fun i => ?_
  rw [wipe_get, wipe_get]
  by_cases z : i ∈ vs
  · rw [if_pos z, if_pos z]
    by_cases e : j = i
    · subst e
      rw [List.getElem?_set]
      simp only [if_true]
      by_cases hl : j < σ.length
      · rw [if_pos hl, List.getElem?_eq_getElem hl]
        rfl
      · rw [if_neg hl, List.getElem?_eq_none (by omega)]
    · rw [List.getElem?_set_ne e]
  · rw [if_neg z, if_neg z]
    have e : j ≠ i := fun q => z (q ▸ h)
    rw [List.getElem?_set_ne e]
theorem wipe_wipe {σ : Sg} {vs : List Nat} : wipe (wipe σ vs) vs = wipe σ vs := by
  refine List.ext_getElem? fun i => ?_
  rw [wipe_get, wipe_get]
  by_cases z : i ∈ vs
  · rw [if_pos z, if_pos z]
    cases σ[i]? <;> rfl
  · rw [if_neg z, if_neg z]
/-- a target takes a datum: what it does to the data -/
def GOk (g : TG) (own : List Nat) (d : PyData) (put : List Sl → List Sl) : Prop := ∀ T G σ ρ H v, EnvOk T G σ ρ → Ex G H → Rp G v d → ∀ Q : Sg → Hp → Prop, (∀ σ', EnvOk T G σ' (put ρ) → (∀ o, (∀ i ∈ own, i ∈ o) → wipe σ' o = wipe σ o) → Q σ' H) → g v σ H Q
theorem gok_name {j : Nat} {d : PyData} : GOk (gName j) [j] d (fun ρ => ρ.set j (.dat d)) := fun T G σ ρ H v e ex r Q q => q _ (e.set j r) fun o h => wipe_set (h j (by simp))
theorem gok_tup2 {K : PySem.W.Frag} {j l : Nat} {d1 d2 : PyData} : GOk (gTup K 2 (gCons (gName j) (gCons (gName l) gNil))) [j, l] (.tuple [d1, d2]) (fun ρ => (ρ.set j (.dat d1)).set l (.dat d2)) := fun T G σ ρ H v e ex r Q q => by
  cases r with
  | tup ha hr =>
    obtain ⟨v1, v2, rfl, r1, r2⟩ := rpa2 hr
    exact ⟨_, _, rfl, SqT.of (ex _ _ ha), rfl, v1, [v2], rfl, v2, [], rfl, rfl, q _ ((e.set j r1).set l r2) fun o h => by rw [wipe_set (h l (by simp)), wipe_set (h j (by simp))]⟩

/-! ### comprehensions -/
section
variable {X : Cx} {k : Nat} {ρ : List Sl} {elt tg iter : Expr} {ifs : List Expr} {scope : Scope} {own : List (Str × Nat)} {pos : Pos} {α : Type}
/-- the element's reading, whatever the block's place -/
def teB (X : Cx) (scope : Scope) (elt : Expr) : TE := fun σ H Q => ∀ (s : Shared) (H0 : Hp) (C : Addr) (cl : List (Str × Addr)) (fp : List Addr), WE (X.blk s H0 scope (compEnvC scope cl C X.env) fp) elt σ H Q
theorem lc_read (hX : Good X k) (enc : α → PyData) (xs : List α) (hl : xs.length ≤ 100000) (hi : Ei0 X tg iter ρ (xs.map enc)) (g : TG) (tt : TT) (js : List Nat) (put : α → List Sl → List Sl) (t : α → Bool) (f : α → PyData)
    (hgk : ∀ a ∈ xs, GOk g js (enc a) (put a)) (hjs : ∀ i ∈ js, i ∈ own.map (·.2))
    (htt : ∀ a ∈ xs, ∀ M σ' H', EnvOk none M σ' (put a (wipeS ρ (own.map (·.2)))) → Ex M H' → ∀ Q : Bool → Hp → Prop, (∀ M2 H2, Gr none M H' M2 H2 → Q (t a) H2) → tt σ' H' Q)
    (he : ∀ a ∈ xs, t a = true → ∀ (s : Shared) (H : Hp) (C : Addr) (cl : List (Str × Addr)) (fp : List Addr), E (X.blk s H scope (compEnvC scope cl C X.env) fp) elt (put a (wipeS ρ (own.map (·.2)))) (f a))
    (G : Hp) (σ : Sg) (H : Hp) (n : Nat) (pr : Pre none G σ ρ H n) (hn : n + 0 ≤ LIM) (Q : VK) (q : ∀ D N H' n', Po none G H n 0 N H' n' → H D = none → Rp N (.ref D) (.list ((xs.filter t).map f)) → Q (.ref D) H') :
    tLc (WI X tg iter) g tt (teB X scope elt) (own.map (·.2)) σ H Q := by
  refine hi G σ H n pr hn _ fun ds J N H1 n1 e1 o1 wk => ?_
  subst e1
  intro D hD
  have nD : N D = none := o1.gr.nh.back hD
  have hHD : H D = none := by
    cases w : H D with
    | none => rfl
    | some o => rw [o1.gr.ex D o w] at hD; cases hD
  refine ⟨fun i m Hc => m = xs.length - i ∧ i ≤ xs.length ∧ ∃ M vs, Gr none N H1 M Hc ∧ M D = none ∧ Hc D = some (.lst vs) ∧ RpA M vs (((xs.take i).filter t).map f), ⟨xs.length, rfl, Nat.zero_le _, N, [], ?_, nD, upd_same, .nil⟩, ?_⟩
  · exact ⟨Ex.refl N, fun _ _ z => .inl z, o1.gr.nh.mut nD, fun a o _ z => Ex.new hD a o z, fun a o z => ⟨o, Ex.new hD a o z⟩⟩
  · rintro i m Hc ⟨rfl, hi', M, vs, gr, mD, hcD, rv⟩
    by_cases hlt : i < xs.length
    · refine .inr ⟨wk.go Hc (gr.gn.trans gr.nh) i (by rw [List.length_map]; exact hlt), fun Hc => i + 1 ≤ xs.length ∧ ∃ M vs, Gr none N H1 M Hc ∧ M D = none ∧ Hc D = some (.lst vs) ∧ RpA M vs (((xs.take (i + 1)).filter t).map f), fun H' h' => ⟨xs.length - (i + 1), by omega, rfl, h'⟩, fun x H' y => ?_⟩
      have hxi : xs[i]? = some xs[i] := List.getElem?_eq_getElem hlt
      have hmem : xs[i] ∈ xs := List.getElem_mem hlt
      obtain ⟨N', gy, ry⟩ := wk.yld Hc (gr.gn.trans gr.nh) i (enc xs[i]) x H' (by rw [List.getElem?_map, hxi]; rfl) y
      obtain ⟨M2, gm, em⟩ := gy.more gr.gn gr.nh (fun _ z => nomatch z)
      have mD2 : M2 D = none := gm.none_of mD hcD
      have hD2 : H' D = some (.lst vs) := gm.ex D _ hcD
      have env2 : EnvOk none M2 (wipe σ (own.map (·.2))) (wipeS ρ (own.map (·.2))) := (pr.env.mono (o1.gr.gn.trans (gr.gn.trans gm.gn))).wipe _
      refine hgk xs[i] hmem none M2 _ _ H' x env2 gm.nh (ry.mono em) _ fun σ' env3 hw => ?_
      refine ⟨by rw [hw _ hjs, wipe_wipe], ?_⟩
      refine htt xs[i] hmem M2 σ' H' env3 gm.nh _ fun M3 H3 g3 => ?_
      have gr3 := (gr.trans gm).trans g3
      have mD3 : M3 D = none := g3.none_of mD2 hD2
      have hD3 : H3 D = some (.lst vs) := g3.ex D _ hD2
      have rv3 : RpA M3 vs (((xs.take i).filter t).map f) := rv.mono (gm.gn.trans g3.gn)
      have htake : xs.take (i + 1) = xs.take i ++ [xs[i]] := by rw [List.take_add_one, hxi]; rfl
      cases hta : t xs[i] with
      | false =>
        refine iteF ⟨hlt, M3, vs, gr3, mD3, hD3, ?_⟩
        rw [htake, List.filter_append, List.filter_cons, hta]
        simpa using rv3
      | true =>
        refine iteT fun s H0 C cl fp => ?_
        refine he xs[i] hmem hta s H0 C cl fp M3 σ' H3 0 ⟨env3.mono g3.gn, g3.nh, TinOk.none⟩ (Nat.zero_le _) _ fun v d M4 H4 n4 e4 o4 r4 => ?_
        subst e4
        have mD4 : M4 D = none := o4.gr.none_of mD3 hD3
        have hD4 : H4 D = some (.lst vs) := o4.gr.ex D _ hD3
        have gr4 := gr3.trans o4.gr
        refine ⟨vs, hD4, ?_, hlt, M4, vs ++ [v], ?_, mD4, upd_same, ?_⟩
        · rw [rv.length, List.length_map, sizeLine_eq]
          have h1 := List.length_filter_le t (xs.take i)
          have h2 := List.length_take_le i xs
          omega
        · exact ⟨gr4.gn, gr4.fr, gr4.nh.mut mD4, fun a o _ z => by rw [upd_ne (ne_of_none z hD)]; exact gr4.ex a o z, fun a o z => ⟨o, by rw [upd_ne (ne_of_none z hD)]; exact gr4.ex a o z⟩⟩
        · rw [htake, List.filter_append, List.filter_cons, hta, List.map_append]
          refine (rv3.mono o4.gr.gn).append ?_
          exact .cons r4 .nil
    · have ei : i = xs.length := by omega
      subst ei
      refine .inl ⟨by have := wk.stop Hc (gr.gn.trans gr.nh); rw [List.length_map] at this; exact this, ?_⟩
      rw [List.take_length] at rv
      have mn : Ex M (upd M D (.lst vs)) := Ex.new mD
      refine q D (upd M D (.lst vs)) Hc n1 ((o1.trans (Po.pure (c := 0) (N := upd M D (.lst vs)) (H' := Hc) o1.tin ⟨gr.gn.trans mn, fun a o z => ?_, fun a o z => ?_, gr.hh, gr.ht⟩)).weak (by omega)) hHD (.lst upd_same (rv.mono mn))
      · by_cases ea : a = D
        · subst ea
          exact .inr hD
        · rw [upd_ne ea] at z
          exact gr.fr a o z
      · by_cases ea : a = D
        · subst ea
          rw [upd_same] at z
          rw [← z]
          exact hcD
        · rw [upd_ne ea] at z
          exact gr.nh a o z
theorem e_lcCore (hX : Good X k) (ok : BlkOk X.N X.env.scope scope own) (enc : α → PyData) (xs : List α) (hl : xs.length ≤ 100000) (hi : Ei0 X tg iter ρ (xs.map enc)) (g : TG) (tt : TT) (js : List Nat) (put : α → List Sl → List Sl) (t : α → Bool) (f : α → PyData)
    (hg : ∀ (s : Shared) (H : Hp) (C : Addr) (cl : List (Str × Addr)) (fp : List Addr), PG (X.blk s H scope (compEnvC scope cl C X.env) fp) tg g) (hgk : ∀ a ∈ xs, GOk g js (enc a) (put a)) (hjs : ∀ i ∈ js, i ∈ own.map (·.2))
    (ht : ∀ (s : Shared) (H : Hp) (C : Addr) (cl : List (Str × Addr)) (fp : List Addr), PTs (X.blk s H scope (compEnvC scope cl C X.env) fp) ifs tt)
    (htt : ∀ a ∈ xs, ∀ M σ' H', EnvOk none M σ' (put a (wipeS ρ (own.map (·.2)))) → Ex M H' → ∀ Q : Bool → Hp → Prop, (∀ M2 H2, Gr none M H' M2 H2 → Q (t a) H2) → tt σ' H' Q)
    (he : ∀ a ∈ xs, t a = true → ∀ (s : Shared) (H : Hp) (C : Addr) (cl : List (Str × Addr)) (fp : List Addr), E (X.blk s H scope (compEnvC scope cl C X.env) fp) elt (put a (wipeS ρ (own.map (·.2)))) (f a))
    (hs : ∀ x, foldedSetIterable iter X.env x = pure x := by intro _; rfl) : E X (.ListComp elt [⟨tg, iter, ifs, 0⟩] scope pos) ρ (.list ((xs.filter t).map f)) := fun G σ H n pr hn Q q =>
  WE.of (pe_lc (te := teB X scope elt) hX.calm hX.nd (wi tg iter) ok hg ht (fun s H C cl fp => ⟨fun pins s' σ H' Q I h => (h s H C cl fp).go pins s' I⟩) hs)
    (lc_read (scope := scope) hX enc xs hl hi g tt js put t f hgk hjs htt he G σ H n pr hn Q fun D N H' n' o _ r => q _ _ N H' n' rfl o r)
/-- without tests -/
theorem e_lc0 (hX : Good X k) (ok : BlkOk X.N X.env.scope scope own) (enc : α → PyData) (xs : List α) (hl : xs.length ≤ 100000) (hi : Ei0 X tg iter ρ (xs.map enc)) (g : TG) (js : List Nat) (put : α → List Sl → List Sl) (f : α → PyData)
    (hg : ∀ (s : Shared) (H : Hp) (C : Addr) (cl : List (Str × Addr)) (fp : List Addr), PG (X.blk s H scope (compEnvC scope cl C X.env) fp) tg g) (hgk : ∀ a ∈ xs, GOk g js (enc a) (put a)) (hjs : ∀ i ∈ js, i ∈ own.map (·.2))
    (he : ∀ a ∈ xs, ∀ (s : Shared) (H : Hp) (C : Addr) (cl : List (Str × Addr)) (fp : List Addr), E (X.blk s H scope (compEnvC scope cl C X.env) fp) elt (put a (wipeS ρ (own.map (·.2)))) (f a))
    (hs : ∀ x, foldedSetIterable iter X.env x = pure x := by intro _; rfl) : E X (.ListComp elt [⟨tg, iter, [], 0⟩] scope pos) ρ (.list (xs.map f)) := by
  have h := e_lcCore (k := k) (pos := pos) (ifs := []) hX ok enc xs hl hi g tYes js put (fun _ => true) f hg hgk hjs (fun _ _ _ _ _ => pts_nil) (fun a ha M σ' H' ev ex Q q => q M H' (Gr.refl ex)) (fun a ha _ => he a ha) hs
  rw [List.filter_eq_self.mpr (fun _ _ => rfl)] at h
  exact h
/-- with one test -/
theorem e_lc1 {tst : Expr} (hX : Good X k) (ok : BlkOk X.N X.env.scope scope own) (enc : α → PyData) (xs : List α) (hl : xs.length ≤ 100000) (hi : Ei0 X tg iter ρ (xs.map enc)) (g : TG) (js : List Nat) (put : α → List Sl → List Sl) (t : α → Bool) (f : α → PyData)
    (hg : ∀ (s : Shared) (H : Hp) (C : Addr) (cl : List (Str × Addr)) (fp : List Addr), PG (X.blk s H scope (compEnvC scope cl C X.env) fp) tg g) (hgk : ∀ a ∈ xs, GOk g js (enc a) (put a)) (hjs : ∀ i ∈ js, i ∈ own.map (·.2))
    (ht : ∀ a ∈ xs, ∀ (s : Shared) (H : Hp) (C : Addr) (cl : List (Str × Addr)) (fp : List Addr), Eb (X.blk s H scope (compEnvC scope cl C X.env) fp) tst (put a (wipeS ρ (own.map (·.2)))) (t a))
    (he : ∀ a ∈ xs, t a = true → ∀ (s : Shared) (H : Hp) (C : Addr) (cl : List (Str × Addr)) (fp : List Addr), E (X.blk s H scope (compEnvC scope cl C X.env) fp) elt (put a (wipeS ρ (own.map (·.2)))) (f a))
    (hs : ∀ x, foldedSetIterable iter X.env x = pure x := by intro _; rfl) : E X (.ListComp elt [⟨tg, iter, [tst], 0⟩] scope pos) ρ (.list ((xs.filter t).map f)) :=
  e_lcCore hX ok enc xs hl hi g (fun σ H Q => ∀ (s : Shared) (H0 : Hp) (C : Addr) (cl : List (Str × Addr)) (fp : List Addr), WT (X.blk s H0 scope (compEnvC scope cl C X.env) fp) tst σ H Q) js put t f hg hgk hjs
    (fun s H C cl fp => pts_one ⟨fun pins s' σ H' Q I h => (h s H C cl fp).go pins s' I⟩)
    (fun a ha M σ' H' ev ex Q q s H0 C cl fp => ht a ha s H0 C cl fp M σ' H' 0 ⟨ev, ex, TinOk.none⟩ (Nat.zero_le _) _ fun b N H2 n' e o => by rw [e]; exact q N H2 o.gr) he hs
end
end Pn

set_option Elab.async false
set_option linter.all false
set_option maxRecDepth 100000
set_option maxHeartbeats 4000000
/-! PnSt: statements, defs. -/
namespace Pn
open PySem PySem.Spec PyProof.Rows L2

def Run (X : Cx) (T : Option Addr) (c : Nat) (ss : List Stmt) (ρ : List Sl) (Φ : List Sl → Prop) (R : PyData → Prop) : Prop := ∀ G σ H n, Pre T G σ ρ H n → n + c ≤ LIM → ∀ D : Ends,
  (∀ ρ' N σ' H' n', Φ ρ' → Pre T N σ' ρ' H' n' → Po T G H n c N H' n' → D.nx σ' H') → (∀ v d N H' n', R d → Rp N v d → Po T G H n c N H' n' → D.rt v H') → WSs X ss D σ H
section
variable {X : Cx} {T : Option Addr} {c c1 c2 c3 k : Nat} {e t : Expr} {ss rest body orelse : List Stmt} {ρ : List Sl} {Φ Φ1 : List Sl → Prop} {R P : PyData → Prop} {Pt : Bool → Prop} {pos pos' : Pos}
theorem Run.mono {Φ' : List Sl → Prop} {R' : PyData → Prop} (h : Run X T c1 ss ρ Φ R) (hΦ : ∀ ρ, Φ ρ → Φ' ρ) (hR : ∀ d, R d → R' d) (hc : c1 ≤ c) : Run X T c ss ρ Φ' R' := fun G σ H n p hn D q1 q2 =>
  h G σ H n p (by omega) D (fun ρ' N σ' H' n' hp pr o => q1 ρ' N σ' H' n' (hΦ _ hp) pr (o.weak hc)) (fun v d N H' n' hr r o => q2 v d N H' n' (hR _ hr) r (o.weak hc))
theorem run_nil (h : Φ ρ) : Run X T c [] ρ Φ R := fun G σ H n p hn D q1 q2 => WSs.of pss_nil (q1 ρ G σ H n h p (Po.refl p.ex p.tin))
theorem run_ret (h : Ev X T c e ρ R) : Run X T c (.Return (some e) pos :: rest) ρ Φ R := fun G σ H n p hn D q1 q2 =>
  WSs.of (pss_cons (ps_ret (we e)) pss_never) (h G σ H n p hn _ fun v d N H' n' hr o r => q2 v d N H' n' hr r o)
theorem run_asg {i : Nat} {x : Str} (hX : Good X k) (hi : X.N[i]? = some x) (h : Ev X T c1 e ρ P) (kk : ∀ d, P d → Run X T c2 rest (ρ.set i (.dat d)) Φ R) (hc : c1 + c2 ≤ c := by omega)
    (hx : Loc X.env.scope x := by first | exact .inl rfl | exact .inr rfl) (hs : swapsWith e (some (.Name x pos')) pos.line X.env = pure false := by rfl) (hf : X.fn x = true ∨ X.env.scope.names.lookup x = some .local := by first | exact .inl rfl | exact .inr rfl) :
    Run X T c (.Assign [.Name x pos'] e pos :: rest) ρ Φ R := fun G σ H n p hn D q1 q2 => by
  refine WSs.of (pss_cons (ps_set hX.nd hi hx (we e) hs hf) (wss rest)) ?_
  refine h G σ H n p (by omega) _ fun v d N H1 n1 e1 o1 r1 => ?_
  have p1 := p.next o1
  exact kk d e1 N _ H1 n1 ⟨p1.env.set i r1, p1.ex, p1.tin⟩ (by have := o1.le; omega) D (fun ρ' N2 σ' H2 n2 hp pr o => q1 ρ' N2 σ' H2 n2 hp pr ((o1.trans o).weak hc)) (fun v d N2 H2 n2 hr r o => q2 v d N2 H2 n2 hr r ((o1.trans o).weak hc))
theorem run_set {i : Nat} {x : Str} {d : PyData} (hX : Good X k) (hi : X.N[i]? = some x) (h : E X e ρ d) (kk : Run X T c rest (ρ.set i (.dat d)) Φ R)
    (hx : Loc X.env.scope x := by first | exact .inl rfl | exact .inr rfl) (hs : swapsWith e (some (.Name x pos')) pos.line X.env = pure false := by rfl) (hf : X.fn x = true ∨ X.env.scope.names.lookup x = some .local := by first | exact .inl rfl | exact .inr rfl) :
    Run X T c (.Assign [.Name x pos'] e pos :: rest) ρ Φ R := run_asg (c1 := 0) (c2 := c) hX hi h.lift (fun d' e1 => by rw [e1]; exact kk) (by omega) hx hs hf
theorem run_if (h : Et X T c1 t ρ Pt) (h1 : Pt true → Run X T c2 body ρ Φ1 R) (h2 : Pt false → Run X T c2 orelse ρ Φ1 R) (kk : ∀ ρ', Φ1 ρ' → Run X T c3 rest ρ' Φ R) (hc : c1 + c2 + c3 ≤ c := by omega) : Run X T c (.If t body orelse pos :: rest) ρ Φ R := fun G σ H n p hn D q1 q2 => by
  refine WSs.of (pss_cons (ps_if (wt t) (wss body) (wss orelse)) (wss rest)) ?_
  refine h G σ H n p (by omega) _ fun b N H1 n1 e1 o1 => ?_
  have fin : ∀ {ss : List Stmt}, Run X T c2 ss ρ Φ1 R → WSs X ss { D with nx := WSs X rest D } σ H1 := fun {ss} hr =>
    hr N σ H1 n1 (p.next o1) (by have := o1.le; omega) _ (fun ρ' N2 σ' H2 n2 hp pr o => kk ρ' hp N2 σ' H2 n2 pr (by have := o1.le; have := o.le; omega) D
        (fun ρ3 N3 σ3 H3 n3 hp3 pr3 o3 => q1 ρ3 N3 σ3 H3 n3 hp3 pr3 (((o1.trans o).trans o3).weak hc)) (fun v d N3 H3 n3 hr3 r3 o3 => q2 v d N3 H3 n3 hr3 r3 (((o1.trans o).trans o3).weak hc)))
      (fun v d N2 H2 n2 hr2 r2 o2 => q2 v d N2 H2 n2 hr2 r2 ((o1.trans o2).weak (by omega)))
  cases b with
  | true => exact iteT (fin (h1 e1))
  | false => exact iteF (fin (h2 e1))
/-- if test: return .. -/
theorem run_ifRet {b : Bool} (h : Eb X t ρ b) (h1 : b = true → Run X T c body ρ (fun _ => False) R) (h2 : b = false → Run X T c rest ρ Φ R) : Run X T c (.If t body [] pos :: rest) ρ Φ R := fun G σ H n p hn D q1 q2 => by
  refine WSs.of (pss_cons (ps_if (wt t) (wss body) pss_nil) (wss rest)) ?_
  refine h.lift (T := T) (c := 0) G σ H n p (by omega) _ fun b' N H1 n1 e1 o1 => ?_
  subst e1
  cases b' with
  | true => exact iteT (h1 rfl N σ H1 n1 (p.next o1) (by have := o1.le; omega) _ (fun ρ' N2 σ' H2 n2 hp _ _ => hp.elim) (fun v d N2 H2 n2 hr2 r2 o2 => q2 v d N2 H2 n2 hr2 r2 ((o1.trans o2).weak (by omega))))
  | false => exact iteF (h2 rfl N σ H1 n1 (p.next o1) (by have := o1.le; omega) D (fun ρ' N2 σ' H2 n2 hp pr o => q1 ρ' N2 σ' H2 n2 hp pr ((o1.trans o).weak (by omega))) (fun v d N2 H2 n2 hr2 r2 o2 => q2 v d N2 H2 n2 hr2 r2 ((o1.trans o2).weak (by omega))))
/-- a, b = x, y, plain local names -/
theorem run_par2 {i j : Nat} {x y : Str} {a b : Expr} {px py pt pt2 : Pos} {kt k2 : Nat} {Pa : List PyData → Prop} (hX : Good X k) (hi : X.N[i]? = some x) (hj : X.N[j]? = some y) (ha : Ea X T c1 [a, b] ρ Pa) (kk : ∀ ds, Pa ds → ∃ d1 d2, ds = [d1, d2] ∧ Run X T c2 rest ((ρ.set i (.dat d1)).set j (.dat d2)) Φ R) (hc : c1 + c2 ≤ c := by omega)
    (hij : i ≠ j := by decide) (hx : X.env.scope.names.lookup x = some .local := by rfl) (hy : X.env.scope.names.lookup y = some .local := by rfl) (hw : swappedStores [.Tuple [.Name x px, .Name y py] kt pt] (.Tuple [a, b] k2 pt2) X.env = pure (some [x, y]) := by rfl)
    (hs : swapsWithSole [.Tuple [.Name x px, .Name y py] kt pt] (.Tuple [a, b] k2 pt2) pos.line X.env = pure false := by rfl) : Run X T c (.Assign [.Tuple [.Name x px, .Name y py] kt pt] (.Tuple [a, b] k2 pt2) pos :: rest) ρ Φ R := fun G σ H n p hn D q1 q2 => by
  refine WSs.of (pss_cons (ps_par hX.calm hX.nd hi hj hij hx hy (wa [a, b]) hw hs) (wss rest)) ?_
  refine ha G σ H n p (by omega) _ fun vs ds N H1 n1 e1 o1 r1 => ?_
  obtain ⟨d1, d2, rfl, hk⟩ := kk ds e1
  obtain ⟨v, w, rfl, rv, rw'⟩ := rpa2 r1
  have p1 := p.next o1
  exact ⟨v, w, rfl, hk N _ H1 n1 ⟨(p1.env.set i rv).set j rw', p1.ex, p1.tin⟩ (by have := o1.le; omega) D (fun ρ' N2 σ' H2 n2 hp pr o => q1 ρ' N2 σ' H2 n2 hp pr ((o1.trans o).weak hc)) (fun v d N2 H2 n2 hr r o => q2 v d N2 H2 n2 hr r ((o1.trans o).weak hc))⟩
/-- target = e, any target -/
theorem run_tgt {g : TG} {tg : Expr} (hg : PG X tg g) (h : Ev X T c1 e ρ P) (kk : ∀ d, P d → ∃ js put, GOk g js d put ∧ Run X T c2 rest (put ρ) Φ R) (hc : c1 + c2 ≤ c := by omega) (hs : swapsWithSole [tg] e pos.line X.env = pure false := by rfl) (hw : swappedStores [tg] e X.env = pure none := by rfl)
    (h1 : (assignEach [tg] X.env).map (·.2) = [assign tg X.env] := by rfl) : Run X T c (.Assign [tg] e pos :: rest) ρ Φ R := fun G σ H n p hn D q1 q2 => by
  refine WSs.of (pss_cons (ps_asg (we e) hg hs hw h1) (wss rest)) ?_
  refine h G σ H n p (by omega) _ fun v d N H1 n1 e1 o1 r1 => ?_
  obtain ⟨js, put, hgk, hk⟩ := kk d e1
  have p1 := p.next o1
  refine hgk T N σ ρ H1 v p1.env p1.ex r1 _ fun σ' env' _ => ?_
  exact hk N σ' H1 n1 ⟨env', p1.ex, p1.tin⟩ (by have := o1.le; omega) D (fun ρ' N2 σ' H2 n2 hp pr o => q1 ρ' N2 σ' H2 n2 hp pr ((o1.trans o).weak hc)) (fun v d N2 H2 n2 hr r o => q2 v d N2 H2 n2 hr r ((o1.trans o).weak hc))
theorem rpa3 {G : Hp} {vs : List V} {d1 d2 d3 : PyData} (r : RpA G vs [d1, d2, d3]) : ∃ u v w, vs = [u, v, w] ∧ Rp G u d1 ∧ Rp G v d2 ∧ Rp G w d3 := by
  cases r with
  | cons h t =>
    obtain ⟨v, w, rfl, h1, h2⟩ := rpa2 t
    exact ⟨_, v, w, rfl, h, h1, h2⟩
theorem gok_tup3 {K : PySem.W.Frag} {j l m : Nat} {d1 d2 d3 : PyData} : GOk (gTup K 3 (gCons (gName j) (gCons (gName l) (gCons (gName m) gNil)))) [j, l, m] (.tuple [d1, d2, d3]) (fun ρ => ((ρ.set j (.dat d1)).set l (.dat d2)).set m (.dat d3)) := fun T G σ ρ H v e ex r Q q => by
  cases r with
  | tup ha hr =>
    obtain ⟨v1, v2, v3, rfl, r1, r2, r3⟩ := rpa3 hr
    exact ⟨_, _, rfl, SqT.of (ex _ _ ha), rfl, v1, _, rfl, v2, _, rfl, v3, [], rfl, rfl, q _ (((e.set j r1).set l r2).set m r3) fun o h => by rw [wipe_set (h m (by simp)), wipe_set (h l (by simp)), wipe_set (h j (by simp))]⟩
theorem gok_tup4 {K : PySem.W.Frag} {j l m i : Nat} {d1 d2 d3 d4 : PyData} : GOk (gTup K 4 (gCons (gName j) (gCons (gName l) (gCons (gName m) (gCons (gName i) gNil))))) [j, l, m, i] (.tuple [d1, d2, d3, d4]) (fun ρ => (((ρ.set j (.dat d1)).set l (.dat d2)).set m (.dat d3)).set i (.dat d4)) := fun T G σ ρ H v e ex r Q q => by
  cases r with
  | tup ha hr =>
    cases hr with
    | cons r1 hr =>
      obtain ⟨v2, v3, v4, rfl, r2, r3, r4⟩ := rpa3 hr
      exact ⟨_, _, rfl, SqT.of (ex _ _ ha), rfl, _, _, rfl, v2, _, rfl, v3, _, rfl, v4, [], rfl, rfl, q _ ((((e.set j r1).set l r2).set m r3).set i r4) fun o h => by rw [wipe_set (h i (by simp)), wipe_set (h m (by simp)), wipe_set (h l (by simp)), wipe_set (h j (by simp))]⟩
/-- y = [..] on one line, y a local: the comprehension's own store -/
theorem run_lc {α : Type} {i : Nat} {y : Str} {py spos : Pos} {elt tg iter : Expr} {scope : Scope} {own : List (Str × Nat)} (hX : Good X k) (hi' : X.N[i]? = some y) (ok : BlkOk X.N X.env.scope scope own) (enc : α → PyData) (xs : List α) (hl : xs.length ≤ 100000) (hi : Ei0 X tg iter ρ (xs.map enc)) (g : TG) (js : List Nat) (put : α → List Sl → List Sl) (f : α → PyData)
    (hg : ∀ (s : Shared) (H : Hp) (C : Addr) (cl : List (Str × Addr)) (fp : List Addr), PG (X.blk s H scope (compEnvC scope cl C X.env) fp) tg g) (hgk : ∀ a ∈ xs, GOk g js (enc a) (put a)) (hjs : ∀ i ∈ js, i ∈ own.map (·.2))
    (he : ∀ a ∈ xs, ∀ (s : Shared) (H : Hp) (C : Addr) (cl : List (Str × Addr)) (fp : List Addr), E (X.blk s H scope (compEnvC scope cl C X.env) fp) elt (put a (wipeS ρ (own.map (·.2)))) (f a))
    (kk : Run X T c rest (ρ.set i (.dat (.list (xs.map f)))) Φ R)
    (hyl : X.env.scope.names.lookup y = some .local := by rfl) (hsw : swapsWith (.ListComp elt [⟨tg, iter, [], 0⟩] scope pos) (some (.Name y py)) spos.line X.env = pure true := by exact sw_true rfl rfl rfl (by decide +kernel)) (hs : ∀ x, foldedSetIterable iter X.env x = pure x := by intro _; rfl) :
    Run X T c (.Assign [.Name y py] (.ListComp elt [⟨tg, iter, [], 0⟩] scope pos) spos :: rest) ρ Φ R := fun G σ H n p hn D q1 q2 => by
  refine WSs.of (pss_cons (ps_setLc (te := teB X scope elt) hX.calm hX.nd hi' hyl hsw (wi tg iter) ok hg (fun _ _ _ _ _ => pts_nil) (fun s H C cl fp => ⟨fun pins s' σ H' Q I h => (h s H C cl fp).go pins s' I⟩) hs) (wss rest)) ?_
  show tLc (WI X tg iter) g tYes (teB X scope elt) (own.map (·.2)) σ H (fun x H1 => WSs X rest D (σ.set i (some x)) H1)
  refine lc_read (scope := scope) hX enc xs hl hi g tYes js put (fun _ => true) f hgk hjs (fun a ha M σ' H' ev ex Q q => q M H' (Gr.refl ex)) (fun a ha _ => he a ha) G σ H n p.toNone (by omega) _ fun D' N H1 n1 o1 _ r1 => ?_
  rw [List.filter_eq_self.mpr (fun _ _ => rfl)] at r1
  have o1' : Po T G H n 0 N H1 n := Po.pure p.tin o1.gr
  have p1 := p.next o1'
  exact kk N _ H1 n ⟨p1.env.set i r1, p1.ex, p1.tin⟩ hn D (fun ρ' N2 σ' H2 n2 hp pr o => q1 ρ' N2 σ' H2 n2 hp pr ((o1'.trans o).weak (by omega))) (fun v d N2 H2 n2 hr r o => q2 v d N2 H2 n2 hr r ((o1'.trans o).weak (by omega)))
/-- for: I by the turn and the environment -/
theorem run_for {α : Type} {tg iter : Expr} {g : TG} {Pd : List PyData → Prop} (hX : Good X k) (hp : PassesOwn (model X.prog X.w) X.A X.env X.xe) (hg : PG X tg g) (hi : Ei X tg T c1 iter ρ Pd) (m : Nat)
    (kk : ∀ ds, Pd ds → ∃ (enc : α → PyData) (xs : List α) (js : List Nat) (put : α → List Sl → List Sl) (I : Nat → List Sl → Prop), ds = xs.map enc ∧ xs.length ≤ m ∧ (∀ a ∈ xs, GOk g js (enc a) (put a)) ∧ I 0 ρ ∧
      (∀ i a ρ', xs[i]? = some a → I i ρ' → Run X T c2 body (put a ρ') (I (i + 1)) R) ∧ ∀ ρ', I xs.length ρ' → Run X T c3 rest ρ' Φ R) (hc : c1 + m * c2 + c3 ≤ c)
    (hs : ∀ x, foldedSetIterable iter X.env x = pure x := by intro _; rfl) : Run X T c (.For tg iter body [] pos :: rest) ρ Φ R := fun G σ H n p hn D q1 q2 => by
  refine WSs.of (pss_cons (ps_for hp hX.calm (wi tg iter) hg (wss body) hs) (wss rest)) ?_
  refine hi G σ H n p (by omega) _ fun ds J N H1 n1 e1 o1 wk => ?_
  obtain ⟨enc, xs, js, put, I, rfl, hm, hgk, h0, hb, hd⟩ := kk ds e1
  refine ⟨fun i m σ' Hc => m = xs.length - i ∧ i ≤ xs.length ∧ ∃ ρ' M n', I i ρ' ∧ Pre T M σ' ρ' Hc n' ∧ Po T G H n (c1 + i * c2) M Hc n' ∧ Ex N M, ⟨xs.length, rfl, Nat.zero_le _, ρ, N, n1, h0, p.next o1, o1.weak (by omega), Ex.refl N⟩, ?_⟩
  rintro i _ σ' Hc ⟨rfl, hi', ρ', M, n', hI, pr, po, ex⟩
  by_cases hlt : i < xs.length
  · have hmul : (i + 1) * c2 ≤ m * c2 := Nat.mul_le_mul_right _ (by omega)
    have hs1 : (i + 1) * c2 = i * c2 + c2 := Nat.succ_mul _ _
    refine .inr ⟨wk.go Hc (ex.trans pr.ex) i (by rw [List.length_map]; exact hlt), fun σ2 H2 => i + 1 ≤ xs.length ∧ ∃ ρ' M n', I (i + 1) ρ' ∧ Pre T M σ2 ρ' H2 n' ∧ Po T G H n (c1 + (i + 1) * c2) M H2 n' ∧ Ex N M, fun σ2 H2 h' => ⟨xs.length - (i + 1), by omega, rfl, h'⟩, fun x H' y => ?_⟩
    have hxi : xs[i]? = some xs[i] := List.getElem?_eq_getElem hlt
    obtain ⟨N', gy, ry⟩ := wk.yld Hc (ex.trans pr.ex) i (enc xs[i]) x H' (by rw [List.getElem?_map, hxi]; rfl) y
    obtain ⟨M2, gm, em⟩ := gy.more ex pr.ex (fun _ z => nomatch z)
    have po2 : Po T M Hc n' 0 M2 H' n' := Po.pure pr.tin gm
    have pr2 := pr.next po2
    refine hgk xs[i] (List.getElem_mem hlt) T M2 σ' ρ' H' x pr2.env pr2.ex (ry.mono em) _ fun σ3 env3 _ => ?_
    refine hb i xs[i] ρ' hxi hI M2 σ3 H' n' ⟨env3, pr2.ex, pr2.tin⟩ (by have := po.le; omega) _ (fun ρ4 N4 σ4 H4 n4 hp4 pr4 o4 => ?_) (fun v d N4 H4 n4 hr4 r4 o4 => ?_)
    · exact ⟨hlt, ρ4, N4, n4, hp4, pr4, ((po.trans po2).trans o4).weak (by omega), (ex.trans gm.gn).trans o4.gr.gn⟩
    · exact q2 v d N4 H4 n4 hr4 r4 (((po.trans po2).trans o4).weak (by omega))
  · have ei : i = xs.length := by omega
    subst ei
    have hmul : xs.length * c2 ≤ m * c2 := Nat.mul_le_mul_right _ hm
    refine .inl ⟨by have := wk.stop Hc (ex.trans pr.ex); rw [List.length_map] at this; exact this, ?_⟩
    exact hd ρ' hI M σ' Hc n' pr (by have := po.le; omega) D (fun ρ4 N4 σ4 H4 n4 hp4 pr4 o4 => q1 ρ4 N4 σ4 H4 n4 hp4 pr4 ((po.trans o4).weak (by omega))) (fun v d N4 H4 n4 hr4 r4 o4 => q2 v d N4 H4 n4 hr4 r4 ((po.trans o4).weak (by omega)))
end

/-! ### defs -/
abbrev FnP (K : PySem.W.Frag) (x : Str) (st : Stmt) (f : Addr) (fd : FuncData) : Prop := FunD K x x (defArgs st) (defBody st) (defScope st) [] [] f fd
section
variable {P : Program} {w : World} {K : PySem.W.Frag} {mg : Str → Option Value} {base : Heap}
/-- the context of a def's body -/
abbrev cxD (P : Program) (w : World) (K : PySem.W.Frag) (mg : Str → Option Value) (base : Heap) (N : List Str) (x : Str) (sc : Scope) (f : Addr) (cdv : Value) (A : Around) (outer : List Env) (s : Shared) (H : Hp) (E : XK) : Cx := (cxOf CX0 P w K mg base N x sc f cdv A outer s H E).nox
/-- what a body may lean on -/
structure Bd (X : Cx) (P : Program) (w : World) (K : PySem.W.Frag) (mg : Str → Option Value) (base : Heap) (N : List Str) (sc : Scope) (k : Nat) : Prop where
  prog : X.prog = P
theorem fo_pure {x : Str} {st : Stmt} {f : Addr} {fd : FuncData} {N ps : List Str} {k : Nat} {F : List PyData → PyData → Prop} (hf : FnP K x st f fd) (hB : Bt mg) (S : FnScope N ps (defScope st))
    (hF : ∀ ds d, F ds d → ds.length = ps.length)
    (hrun : ∀ (cdv : Value) (A : Around) (outer : List Env) (s : Shared) (H : Hp) (E : XK), Good (cxD P w K mg base N x (defScope st) f cdv A outer s H E) k → ∀ ds d, F ds d →
      Run (cxD P w K mg base N x (defScope st) f cdv A outer s H E) none 0 (defBody st) (startS N.length ds) (fun _ => d = .none) (fun z => z = d)) : FnOk P w K mg base CX0 (k + 1) f fd ps (spD F) := by
  refine hf.ok S (fun vs H Q E h => ?_) (fun cdv A outer s H vs Q E hr h => ?_)
  · obtain ⟨G, ds, d, _, r, hFd, _⟩ := h
    rw [r.length]
    exact hF ds d hFd
  · obtain ⟨G, ds, d, ex, r, hFd, q⟩ := h
    have gd : Good (cxD P w K mg base N x (defScope st) f cdv A outer s H E) k := ⟨rfl, S.nd, hB, hr⟩
    refine ⟨_, (wss _).nox, hrun cdv A outer s H E gd ds d hFd G (L2.start N vs) H 0 ⟨EnvOk.start r, ex, TinOk.none⟩ (Nat.zero_le _) _ (fun ρ' N2 σ' H2 n2 hp pr o => ?_) (fun v d' N2 H2 n2 hr' r' o => ?_)⟩
    · exact q .non N2 H2 o.gr (by rw [hp]; exact .non)
    · rw [hr'] at r'
      exact q v N2 H2 o.gr r'
theorem dn_pure {x : Str} {st : Stmt} {f : Addr} {fd : FuncData} {N ps : List Str} {k : Nat} {F : List PyData → PyData → Prop} (hf : FnP K x st f fd) (hm : mg x = some (.ref f)) (hB : Bt mg) (S : FnScope N ps (defScope st)) (hb : Binds K fd ps [])
    (hF : ∀ ds d, F ds d → ds.length = ps.length)
    (hrun : ∀ (cdv : Value) (A : Around) (outer : List Env) (s : Shared) (H : Hp) (E : XK), Good (cxD P w K mg base N x (defScope st) f cdv A outer s H E) k → ∀ ds d, F ds d →
      Run (cxD P w K mg base N x (defScope st) f cdv A outer s H E) none 0 (defBody st) (startS N.length ds) (fun _ => d = .none) (fun z => z = d)) : Dn P w K mg base (k + 1) x ps (spD F) := ⟨f, fd, fo_pure hf hB S hF hrun, hm, hf.kp, hb⟩
theorem dn_draw {x : Str} {st : Stmt} {f : Addr} {fd : FuncData} {N ps : List Str} {k c : Nat} {F : List PyData → (PyData → Prop) → Prop} (hf : FnP K x st f fd) (hm : mg x = some (.ref f)) (hB : Bt mg) (S : FnScope N ps (defScope st)) (hb : Binds K fd ps [])
    (hF : ∀ ds R, F ds R → ds.length + 1 = ps.length)
    (hrun : ∀ (cdv : Value) (A : Around) (outer : List Env) (s : Shared) (H : Hp) (E : XK), Good (cxD P w K mg base N x (defScope st) f cdv A outer s H E) k → ∀ (a : Addr) ds R, F ds R →
      Run (cxD P w K mg base N x (defScope st) f cdv A outer s H E) (some a) c (defBody st) ((startS N.length (.none :: ds)).set 0 .tin) (fun _ => R .none) R) : Dn P w K mg base (k + 1) x ps (spT c F) := by
  refine ⟨f, fd, ?_, hm, hf.kp, hb⟩
  refine hf.ok S (fun vs H Q E h => ?_) (fun cdv A outer s H vs Q E hr h => ?_)
  · obtain ⟨G, a, vs', ds, R, n, rfl, _, _, _, r, hFd, _⟩ := h
    rw [List.length_cons, r.length]
    exact hF ds R hFd
  · obtain ⟨G, a, vs', ds, R, n, rfl, ex, tin, hn, r, hFd, q⟩ := h
    have gd : Good (cxD P w K mg base N x (defScope st) f cdv A outer s H E) k := ⟨rfl, S.nd, hB, hr⟩
    refine ⟨_, (wss _).nox, hrun cdv A outer s H E gd a ds R hFd G (L2.start N (.ref a :: vs')) H n ⟨EnvOk.startT r, ex, tin⟩ hn _ (fun ρ' N2 σ' H2 n2 hp pr o => ?_) (fun v d' N2 H2 n2 hr' r' o => ?_)⟩
    · exact q .non .none N2 H2 n2 hp o .non
    · exact q v d' N2 H2 n2 hr' o r'
end
end Pn

set_option Elab.async false
set_option linter.all false
set_option maxRecDepth 100000
set_option maxHeartbeats 4000000
/-! PnTop: the text's defs, their names by slots (printed by gen_top.py). -/
namespace Pn
open PySem PySem.Spec PyProof.Rows L2
def topS (i : Nat) : Stmt := PySem.Challenge.pw_stillpanes_k15_whole_presses_and_rows_be.main.body.getD i (.Pass ⟨0, 0, 0, 0⟩)
abbrev s_is_number : Stmt := topS 1
abbrev n_is_number : List Str := ["thing"]
abbrev p_is_number : List Str := ["thing"]
theorem sc_is_number : FnScope n_is_number p_is_number (defScope s_is_number) := ⟨rfl, rfl, rfl, by decide +kernel, rfl, by decide +kernel, by decide +kernel⟩
abbrev s_tuple_of : Stmt := topS 2
abbrev n_tuple_of : List Str := ["thing", "part"]
abbrev p_tuple_of : List Str := ["thing"]
theorem sc_tuple_of : FnScope n_tuple_of p_tuple_of (defScope s_tuple_of) := ⟨rfl, rfl, rfl, by decide +kernel, rfl, by decide +kernel, by decide +kernel⟩
abbrev s_is_tuple_of : Stmt := topS 3
abbrev n_is_tuple_of : List Str := ["thing", "many"]
abbrev p_is_tuple_of : List Str := ["thing", "many"]
theorem sc_is_tuple_of : FnScope n_is_tuple_of p_is_tuple_of (defScope s_is_tuple_of) := ⟨rfl, rfl, rfl, by decide +kernel, rfl, by decide +kernel, by decide +kernel⟩
abbrev s_exact_row : Stmt := topS 5
abbrev n_exact_row : List Str := ["layout", "group", "width", "pane"]
abbrev p_exact_row : List Str := ["layout", "group"]
theorem sc_exact_row : FnScope n_exact_row p_exact_row (defScope s_exact_row) := ⟨rfl, rfl, rfl, by decide +kernel, rfl, by decide +kernel, by decide +kernel⟩
abbrev s_bounds_by : Stmt := topS 6
abbrev n_bounds_by : List Str := ["parts", "wide", "off", "found", "own", "least", "most"]
abbrev p_bounds_by : List Str := ["parts", "wide", "off"]
theorem sc_bounds_by : FnScope n_bounds_by p_bounds_by (defScope s_bounds_by) := ⟨rfl, rfl, rfl, by decide +kernel, rfl, by decide +kernel, by decide +kernel⟩
abbrev s_table_of : Stmt := topS 7
abbrev n_table_of : List Str := ["layout", "split", "off", "group"]
abbrev p_table_of : List Str := ["layout", "split", "off"]
theorem sc_table_of : FnScope n_table_of p_table_of (defScope s_table_of) := ⟨rfl, rfl, rfl, by decide +kernel, rfl, by decide +kernel, by decide +kernel⟩
abbrev s_bare_in : Stmt := topS 8
abbrev n_bare_in : List Str := ["table", "number", "bounds", "width", "own"]
abbrev p_bare_in : List Str := ["table"]
theorem sc_bare_in : FnScope n_bare_in p_bare_in (defScope s_bare_in) := ⟨rfl, rfl, rfl, by decide +kernel, rfl, by decide +kernel, by decide +kernel⟩
abbrev s_must_in : Stmt := topS 9
abbrev n_must_in : List Str := ["table", "low", "high", "bounds"]
abbrev p_must_in : List Str := ["table", "low", "high"]
theorem sc_must_in : FnScope n_must_in p_must_in (defScope s_must_in) := ⟨rfl, rfl, rfl, by decide +kernel, rfl, by decide +kernel, by decide +kernel⟩
abbrev s_can_in : Stmt := topS 10
abbrev n_can_in : List Str := ["table", "low", "high", "bounds"]
abbrev p_can_in : List Str := ["table", "low", "high"]
theorem sc_can_in : FnScope n_can_in p_can_in (defScope s_can_in) := ⟨rfl, rfl, rfl, by decide +kernel, rfl, by decide +kernel, by decide +kernel⟩
abbrev s_off_in : Stmt := topS 11
abbrev n_off_in : List Str := ["layout", "group", "row", "wide", "width"]
abbrev p_off_in : List Str := ["layout", "group", "row"]
theorem sc_off_in : FnScope n_off_in p_off_in (defScope s_off_in) := ⟨rfl, rfl, rfl, by decide +kernel, rfl, by decide +kernel, by decide +kernel⟩
abbrev s_is_row_in : Stmt := topS 12
abbrev n_is_row_in : List Str := ["thing", "many", "width", "own"]
abbrev p_is_row_in : List Str := ["thing", "many"]
theorem sc_is_row_in : FnScope n_is_row_in p_is_row_in (defScope s_is_row_in) := ⟨rfl, rfl, rfl, by decide +kernel, rfl, by decide +kernel, by decide +kernel⟩
abbrev s_are_followed : Stmt := topS 13
abbrev n_are_followed : List Str := ["layout", "split", "row", "off", "thing", "own", "told", "line", "width", "group", "its"]
abbrev p_are_followed : List Str := ["layout", "split", "row", "off", "thing"]
theorem sc_are_followed : FnScope n_are_followed p_are_followed (defScope s_are_followed) := ⟨rfl, rfl, rfl, by decide +kernel, rfl, by decide +kernel, by decide +kernel⟩
abbrev s_is_press : Stmt := topS 14
abbrev n_is_press : List Str := ["layout", "split", "row", "off", "thing", "table", "line", "word", "low", "high", "grown", "own"]
abbrev p_is_press : List Str := ["layout", "split", "row", "off", "thing"]
theorem sc_is_press : FnScope n_is_press p_is_press (defScope s_is_press) := ⟨rfl, rfl, rfl, by decide +kernel, rfl, by decide +kernel, by decide +kernel⟩
abbrev s_box : Stmt := topS 16
abbrev n_box : List Str := ["_law_script", "_law_k", "_law_cell"]
abbrev p_box : List Str := ["_law_script", "_law_k"]
theorem sc_box : FnScope n_box p_box (defScope s_box) := ⟨rfl, rfl, rfl, by decide +kernel, rfl, by decide +kernel, by decide +kernel⟩
abbrev s_take : Stmt := topS 17
abbrev n_take : List Str := ["_law_tin", "_law_below", "_law_drawn", "_law_once", "_law_far", "_law_twice"]
abbrev p_take : List Str := ["_law_tin", "_law_below"]
theorem sc_take : FnScope n_take p_take (defScope s_take) := ⟨rfl, rfl, rfl, by decide +kernel, rfl, by decide +kernel, by decide +kernel⟩
abbrev s_cells : Stmt := topS 18
abbrev n_cells : List Str := ["_law_script", "_law_most", "_law_cells_here", "_law_k", "_law_cell", "_law_spot"]
abbrev p_cells : List Str := ["_law_script", "_law_most"]
theorem sc_cells : FnScope n_cells p_cells (defScope s_cells) := ⟨rfl, rfl, rfl, by decide +kernel, rfl, by decide +kernel, by decide +kernel⟩
abbrev s_of : Stmt := topS 19
abbrev n_of : List Str := ["_law_tin", "_law_goods"]
abbrev p_of : List Str := ["_law_tin", "_law_goods"]
theorem sc_of : FnScope n_of p_of (defScope s_of) := ⟨rfl, rfl, rfl, by decide +kernel, rfl, by decide +kernel, by decide +kernel⟩
abbrev s_pick : Stmt := topS 20
abbrev n_pick : List Str := ["_law_tin", "_law_goods", "_law_count", "_law_pool", "_law_found", "_law_turn"]
abbrev p_pick : List Str := ["_law_tin", "_law_goods", "_law_count"]
theorem sc_pick : FnScope n_pick p_pick (defScope s_pick) := ⟨rfl, rfl, rfl, by decide +kernel, rfl, by decide +kernel, by decide +kernel⟩
abbrev s_lists : Stmt := topS 21
abbrev n_lists : List Str := ["_law_matter", "_law_bit"]
abbrev p_lists : List Str := ["_law_matter"]
theorem sc_lists : FnScope n_lists p_lists (defScope s_lists) := ⟨rfl, rfl, rfl, by decide +kernel, rfl, by decide +kernel, by decide +kernel⟩
abbrev s_same : Stmt := topS 22
abbrev n_same : List Str := ["_law_got", "_law_due", "_law_mine", "_law_its"]
abbrev p_same : List Str := ["_law_got", "_law_due"]
theorem sc_same : FnScope n_same p_same (defScope s_same) := ⟨rfl, rfl, rfl, by decide +kernel, rfl, by decide +kernel, by decide +kernel⟩
abbrev s_thirds : Stmt := topS 23
abbrev n_thirds : List Str := []
abbrev p_thirds : List Str := []
theorem sc_thirds : FnScope n_thirds p_thirds (defScope s_thirds) := ⟨rfl, rfl, rfl, by decide +kernel, rfl, by decide +kernel, by decide +kernel⟩
abbrev s_deal : Stmt := topS 24
abbrev n_deal : List Str := ["_law_tin", "_law_panes", "_law_longest", "_law_parts", "_law_many", "_law_wide", "_law_size", "_law_few", "_law_rows", "_law_width", "_law_more", "_law_part", "_law_pane", "_law_own", "_law_bit"]
abbrev p_deal : List Str := ["_law_tin", "_law_panes", "_law_longest", "_law_parts"]
theorem sc_deal : FnScope n_deal p_deal (defScope s_deal) := ⟨rfl, rfl, rfl, by decide +kernel, rfl, by decide +kernel, by decide +kernel⟩
abbrev s_parted : Stmt := topS 25
abbrev n_parted : List Str := ["_law_tin", "_law_layout", "_law_most", "_law_lots", "_law_panes", "_law_pane", "_law_k"]
abbrev p_parted : List Str := ["_law_tin", "_law_layout", "_law_most"]
theorem sc_parted : FnScope n_parted p_parted (defScope s_parted) := ⟨rfl, rfl, rfl, by decide +kernel, rfl, by decide +kernel, by decide +kernel⟩
abbrev s_all_of : Stmt := topS 26
abbrev n_all_of : List Str := ["_law_deal_here", "_law_own"]
abbrev p_all_of : List Str := ["_law_deal_here"]
theorem sc_all_of : FnScope n_all_of p_all_of (defScope s_all_of) := ⟨rfl, rfl, rfl, by decide +kernel, rfl, by decide +kernel, by decide +kernel⟩
abbrev s_line : Stmt := topS 27
abbrev n_line : List Str := ["_law_tin", "_law_layout", "_law_group", "_law_found", "_law_near", "_law_width", "_law_lacks", "_law_step"]
abbrev p_line : List Str := ["_law_tin", "_law_layout", "_law_group"]
theorem sc_line : FnScope n_line p_line (defScope s_line) := ⟨rfl, rfl, rfl, by decide +kernel, rfl, by decide +kernel, by decide +kernel⟩
abbrev s_exact : Stmt := topS 28
abbrev n_exact : List Str := ["_law_layout", "_law_group", "_law_width", "_law_pane"]
abbrev p_exact : List Str := ["_law_layout", "_law_group"]
theorem sc_exact : FnScope n_exact p_exact (defScope s_exact) := ⟨rfl, rfl, rfl, by decide +kernel, rfl, by decide +kernel, by decide +kernel⟩
abbrev s_off : Stmt := topS 29
abbrev n_off : List Str := ["_law_layout", "_law_group", "_law_line_here", "_law_many", "_law_own"]
abbrev p_off : List Str := ["_law_layout", "_law_group", "_law_line_here"]
theorem sc_off : FnScope n_off p_off (defScope s_off) := ⟨rfl, rfl, rfl, by decide +kernel, rfl, by decide +kernel, by decide +kernel⟩
abbrev s_let : Stmt := topS 30
abbrev n_let : List Str := ["_law_layout", "_law_group", "_law_off_here", "_law_found", "_law_own", "_law_many"]
abbrev p_let : List Str := ["_law_layout", "_law_group", "_law_off_here"]
theorem sc_let : FnScope n_let p_let (defScope s_let) := ⟨rfl, rfl, rfl, by decide +kernel, rfl, by decide +kernel, by decide +kernel⟩
abbrev s_is_line : Stmt := topS 31
abbrev n_is_line : List Str := ["_law_thing", "_law_long", "_law_own", "_law_near", "_law_far"]
abbrev p_is_line : List Str := ["_law_thing", "_law_long"]
theorem sc_is_line : FnScope n_is_line p_is_line (defScope s_is_line) := ⟨rfl, rfl, rfl, by decide +kernel, rfl, by decide +kernel, by decide +kernel⟩
abbrev s_are_rows : Stmt := topS 32
abbrev n_are_rows : List Str := ["_law_layout", "_law_deal_here", "_law_line_here", "_law_off_here", "_law_thing", "_law_group", "_law_own", "_law_width"]
abbrev p_are_rows : List Str := ["_law_layout", "_law_deal_here", "_law_line_here", "_law_off_here", "_law_thing"]
theorem sc_are_rows : FnScope n_are_rows p_are_rows (defScope s_are_rows) := ⟨rfl, rfl, rfl, by decide +kernel, rfl, by decide +kernel, by decide +kernel⟩
abbrev s_is_press_by : Stmt := topS 33
abbrev n_is_press_by : List Str := ["_law_lets", "_law_line_here", "_law_thing", "_law_word", "_law_low", "_law_high", "_law_own"]
abbrev p_is_press_by : List Str := ["_law_lets", "_law_line_here", "_law_thing"]
theorem sc_is_press_by : FnScope n_is_press_by p_is_press_by (defScope s_is_press_by) := ⟨rfl, rfl, rfl, by decide +kernel, rfl, by decide +kernel, by decide +kernel⟩
abbrev s_some_rows : Stmt := topS 34
abbrev n_some_rows : List Str := ["_law_tin", "_law_layout", "_law_deal_here", "_law_line_here", "_law_off_here", "_law_lets", "_law_rows", "_law_width", "_law_goods", "_law_k", "_law_later", "_law_own", "_law_many", "_law_group", "_law_place"]
abbrev p_some_rows : List Str := ["_law_tin", "_law_layout", "_law_deal_here", "_law_line_here", "_law_off_here"]
theorem sc_some_rows : FnScope n_some_rows p_some_rows (defScope s_some_rows) := ⟨rfl, rfl, rfl, by decide +kernel, rfl, by decide +kernel, by decide +kernel⟩
abbrev s_bent_rows : Stmt := topS 35
abbrev n_bent_rows : List Str := ["_law_tin", "_law_rows", "_law_k", "_law_j", "_law_width", "_law_more", "_law_own", "_law_swapped", "_law_later", "_law_found", "_law_place", "_law_its", "_law_many"]
abbrev p_bent_rows : List Str := ["_law_tin", "_law_rows"]
theorem sc_bent_rows : FnScope n_bent_rows p_bent_rows (defScope s_bent_rows) := ⟨rfl, rfl, rfl, by decide +kernel, rfl, by decide +kernel, by decide +kernel⟩
abbrev s_right : Stmt := topS 36
abbrev n_right : List Str := ["_law_tin", "_law_layout", "_law_deal_here", "_law_line_here", "_law_soft", "_law_things", "_law_low", "_law_word", "_law_off_here", "_law_high"]
abbrev p_right : List Str := ["_law_tin"]
theorem sc_right : FnScope n_right p_right (defScope s_right) := ⟨rfl, rfl, rfl, by decide +kernel, rfl, by decide +kernel, by decide +kernel⟩
abbrev s_off_right : Stmt := topS 37
abbrev n_off_right : List Str := ["_law_tin", "_law_matter", "_law_soft", "_law_things", "_law_layout", "_law_deal_here", "_law_line_here", "_law_off_here", "_law_lets", "_law_due", "_law_own", "_law_others", "_law_rows", "_law_bents", "_law_group", "_law_its"]
abbrev p_off_right : List Str := ["_law_tin", "_law_matter", "_law_soft", "_law_things"]
theorem sc_off_right : FnScope n_off_right p_off_right (defScope s_off_right) := ⟨rfl, rfl, rfl, by decide +kernel, rfl, by decide +kernel, by decide +kernel⟩
abbrev s_by_hand_right : Stmt := topS 38
abbrev n_by_hand_right : List Str := ["_law_thirds_here", "_law_two", "_law_line_here", "_law_things", "_law_odd", "_law_got", "_law_due", "_law_still", "_law_off_here", "_law_own"]
abbrev p_by_hand_right : List Str := []
theorem sc_by_hand_right : FnScope n_by_hand_right p_by_hand_right (defScope s_by_hand_right) := ⟨rfl, rfl, rfl, by decide +kernel, rfl, by decide +kernel, by decide +kernel⟩
abbrev s_law : Stmt := topS 39
abbrev n_law : List Str := ["_law_script", "_law_cells_here", "_law_k"]
abbrev p_law : List Str := ["_law_script"]
theorem sc_law : FnScope n_law p_law (defScope s_law) := ⟨rfl, rfl, rfl, by decide +kernel, rfl, by decide +kernel, by decide +kernel⟩
end Pn

set_option Elab.async false
set_option linter.all false
set_option maxRecDepth 100000
set_option maxHeartbeats 4000000
/-! PnGen: the rules in short forms. -/
namespace Pn
open PySem PySem.Spec PyProof.Rows L2
section
variable {X : Cx} {k : Nat} {ρ : List Sl} {e a b elt tg iter tst : Expr} {d : PyData} {pos p p2 p3 tpos : Pos} {kk : Nat} {scope : Scope} {own : List (Str × Nat)} {α : Type}
theorem nm (i : Nat) {x : Str} (h : ρ[i]? = some (.dat d) := by rfl) (hN : X.N[i]? = some x := by rfl) (hv : Vis X.env.scope x := by first | exact Or.inl rfl | exact Or.inr (Or.inl rfl) | exact Or.inr (Or.inr rfl)) (hd : (x == ("__debug__" : Str)) = false := by decide) (hcd : (x == ("__classdict__" : Str)) = false := by decide) : E X (.Name x pos) ρ d := e_name hN hv h hd hcd
/-! ### kinds -/
def isIntD : PyData → Bool
  | .int _ => true
  | .bool _ => true
  | _ => false
def isBoolD : PyData → Bool
  | .bool _ => true
  | _ => false
def isStrD : PyData → Bool
  | .str _ => true
  | _ => false
def isListD : PyData → Bool
  | .list _ => true
  | _ => false
def isTupD : PyData → Bool
  | .tuple _ => true
  | _ => false
def isNumD : PyData → Bool
  | .int _ => true
  | _ => false
theorem kit_int : ∀ d : PyData, kitB (tyD d) "int" = some (isIntD d)
  | .none => (by decide +kernel : kitB "NoneType" "int" = some false)
  | .bool _ => (by decide +kernel : kitB "bool" "int" = some true)
  | .int _ => (by decide +kernel : kitB "int" "int" = some true)
  | .str _ => (by decide +kernel : kitB "str" "int" = some false)
  | .list _ => (by decide +kernel : kitB "list" "int" = some false)
  | .tuple _ => (by decide +kernel : kitB "tuple" "int" = some false)
  | .dict _ => (by decide +kernel : kitB "dict" "int" = some false)
theorem kit_bool : ∀ d : PyData, kitB (tyD d) "bool" = some (isBoolD d)
  | .none => (by decide +kernel : kitB "NoneType" "bool" = some false)
  | .bool _ => (by decide +kernel : kitB "bool" "bool" = some true)
  | .int _ => (by decide +kernel : kitB "int" "bool" = some false)
  | .str _ => (by decide +kernel : kitB "str" "bool" = some false)
  | .list _ => (by decide +kernel : kitB "list" "bool" = some false)
  | .tuple _ => (by decide +kernel : kitB "tuple" "bool" = some false)
  | .dict _ => (by decide +kernel : kitB "dict" "bool" = some false)
theorem kit_str : ∀ d : PyData, kitB (tyD d) "str" = some (isStrD d)
  | .none => (by decide +kernel : kitB "NoneType" "str" = some false)
  | .bool _ => (by decide +kernel : kitB "bool" "str" = some false)
  | .int _ => (by decide +kernel : kitB "int" "str" = some false)
  | .str _ => (by decide +kernel : kitB "str" "str" = some true)
  | .list _ => (by decide +kernel : kitB "list" "str" = some false)
  | .tuple _ => (by decide +kernel : kitB "tuple" "str" = some false)
  | .dict _ => (by decide +kernel : kitB "dict" "str" = some false)
theorem kit_list : ∀ d : PyData, kitB (tyD d) "list" = some (isListD d)
  | .none => (by decide +kernel : kitB "NoneType" "list" = some false)
  | .bool _ => (by decide +kernel : kitB "bool" "list" = some false)
  | .int _ => (by decide +kernel : kitB "int" "list" = some false)
  | .str _ => (by decide +kernel : kitB "str" "list" = some false)
  | .list _ => (by decide +kernel : kitB "list" "list" = some true)
  | .tuple _ => (by decide +kernel : kitB "tuple" "list" = some false)
  | .dict _ => (by decide +kernel : kitB "dict" "list" = some false)
theorem kit_tuple : ∀ d : PyData, kitB (tyD d) "tuple" = some (isTupD d)
  | .none => (by decide +kernel : kitB "NoneType" "tuple" = some false)
  | .bool _ => (by decide +kernel : kitB "bool" "tuple" = some false)
  | .int _ => (by decide +kernel : kitB "int" "tuple" = some false)
  | .str _ => (by decide +kernel : kitB "str" "tuple" = some false)
  | .list _ => (by decide +kernel : kitB "list" "tuple" = some false)
  | .tuple _ => (by decide +kernel : kitB "tuple" "tuple" = some true)
  | .dict _ => (by decide +kernel : kitB "dict" "tuple" = some false)
theorem isNum_eq (d : PyData) : (isIntD d && !isBoolD d) = isNumD d := by cases d <;> rfl
theorem e_isInt (hX : Good X k) (h : E X e ρ d) (hg : Gl X "isinstance" := by rfl) (hgT : Gl X "int" := by rfl) (hs : starEach (e :: [.Name "int" p2]) X.env = (false, eval e X.env) :: starEach [.Name "int" p2] X.env := by exact se_cons rfl) (hs2 : starEach [.Name "int" p2] X.env = (false, eval (.Name "int" p2) X.env) :: starEach [] X.env := by exact se_cons rfl) (hpl : (backTo pos (starEach [.Name "int" p2] X.env)).any (·.1) = false := by rfl) :
    E X (.Call (.Name "isinstance" p) [e, .Name "int" p2] [] pos) ρ (.bool (isIntD d)) := e_isi hX hg h hgT hX.bt.int PyProof.Rows.boot_int (kit_int d) (by decide) (by decide) hs hs2 hpl
theorem e_isBool (hX : Good X k) (h : E X e ρ d) (hg : Gl X "isinstance" := by rfl) (hgT : Gl X "bool" := by rfl) (hs : starEach (e :: [.Name "bool" p2]) X.env = (false, eval e X.env) :: starEach [.Name "bool" p2] X.env := by exact se_cons rfl) (hs2 : starEach [.Name "bool" p2] X.env = (false, eval (.Name "bool" p2) X.env) :: starEach [] X.env := by exact se_cons rfl) (hpl : (backTo pos (starEach [.Name "bool" p2] X.env)).any (·.1) = false := by rfl) :
    E X (.Call (.Name "isinstance" p) [e, .Name "bool" p2] [] pos) ρ (.bool (isBoolD d)) := e_isi hX hg h hgT hX.bt.bool PyProof.Rows.boot_bool (kit_bool d) (by decide) (by decide) hs hs2 hpl
theorem e_isStr (hX : Good X k) (h : E X e ρ d) (hg : Gl X "isinstance" := by rfl) (hgT : Gl X "str" := by rfl) (hs : starEach (e :: [.Name "str" p2]) X.env = (false, eval e X.env) :: starEach [.Name "str" p2] X.env := by exact se_cons rfl) (hs2 : starEach [.Name "str" p2] X.env = (false, eval (.Name "str" p2) X.env) :: starEach [] X.env := by exact se_cons rfl) (hpl : (backTo pos (starEach [.Name "str" p2] X.env)).any (·.1) = false := by rfl) :
    E X (.Call (.Name "isinstance" p) [e, .Name "str" p2] [] pos) ρ (.bool (isStrD d)) := e_isi hX hg h hgT hX.bt.str PyProof.Rows.boot_str (kit_str d) (by decide) (by decide) hs hs2 hpl
theorem e_isList (hX : Good X k) (h : E X e ρ d) (hg : Gl X "isinstance" := by rfl) (hgT : Gl X "list" := by rfl) (hs : starEach (e :: [.Name "list" p2]) X.env = (false, eval e X.env) :: starEach [.Name "list" p2] X.env := by exact se_cons rfl) (hs2 : starEach [.Name "list" p2] X.env = (false, eval (.Name "list" p2) X.env) :: starEach [] X.env := by exact se_cons rfl) (hpl : (backTo pos (starEach [.Name "list" p2] X.env)).any (·.1) = false := by rfl) :
    E X (.Call (.Name "isinstance" p) [e, .Name "list" p2] [] pos) ρ (.bool (isListD d)) := e_isi hX hg h hgT hX.bt.list PyProof.Rows.boot_list (kit_list d) (by decide) (by decide) hs hs2 hpl
theorem e_isTup (hX : Good X k) (h : E X e ρ d) (hg : Gl X "isinstance" := by rfl) (hgT : Gl X "tuple" := by rfl) (hs : starEach (e :: [.Name "tuple" p2]) X.env = (false, eval e X.env) :: starEach [.Name "tuple" p2] X.env := by exact se_cons rfl) (hs2 : starEach [.Name "tuple" p2] X.env = (false, eval (.Name "tuple" p2) X.env) :: starEach [] X.env := by exact se_cons rfl) (hpl : (backTo pos (starEach [.Name "tuple" p2] X.env)).any (·.1) = false := by rfl) :
    E X (.Call (.Name "isinstance" p) [e, .Name "tuple" p2] [] pos) ρ (.bool (isTupD d)) := e_isi hX hg h hgT hX.bt.tuple PyProof.Rows.boot_tuple (kit_tuple d) (by decide) (by decide) hs hs2 hpl

/-! ### built-in calls of one argument -/
theorem e_len (hX : Good X k) {ds : List PyData} (h : E X e ρ d) (hd : d = .list ds ∨ d = .tuple ds) (hg : Gl X "len" := by rfl) (hs : starEach [e] X.env = (false, eval e X.env) :: starEach [] X.env := by exact se_cons rfl) (hpl : (backTo pos (starEach [] X.env)).any (·.1) = false := by rfl) :
    E X (.Call (.Name "len" p) [e] [] pos) ρ (.int ds.length) := by
  rcases hd with rfl | rfl
  · exact e_callB hg hX.bt.len PySem.boot_len (a_cons h a_nil hs) c_lenL (by decide) (by decide) hs hpl
  · exact e_callB hg hX.bt.len PySem.boot_len (a_cons h a_nil hs) c_lenT (by decide) (by decide) hs hpl
theorem e_lenL (hX : Good X k) {ds : List PyData} (h : E X e ρ (.list ds)) (hg : Gl X "len" := by rfl) (hs : starEach [e] X.env = (false, eval e X.env) :: starEach [] X.env := by exact se_cons rfl) (hpl : (backTo pos (starEach [] X.env)).any (·.1) = false := by rfl) : E X (.Call (.Name "len" p) [e] [] pos) ρ (.int ds.length) := e_len hX h (.inl rfl) hg hs hpl
theorem e_lenT (hX : Good X k) {ds : List PyData} (h : E X e ρ (.tuple ds)) (hg : Gl X "len" := by rfl) (hs : starEach [e] X.env = (false, eval e X.env) :: starEach [] X.env := by exact se_cons rfl) (hpl : (backTo pos (starEach [] X.env)).any (·.1) = false := by rfl) : E X (.Call (.Name "len" p) [e] [] pos) ρ (.int ds.length) := e_len hX h (.inr rfl) hg hs hpl
theorem e_sum (hX : Good X k) {ns : List Int} (h : E X e ρ (.list (ns.map .int))) (hg : Gl X "sum" := by rfl) (hs : starEach [e] X.env = (false, eval e X.env) :: starEach [] X.env := by exact se_cons rfl) (hpl : (backTo pos (starEach [] X.env)).any (·.1) = false := by rfl) : E X (.Call (.Name "sum" p) [e] [] pos) ρ (.int ns.sum) :=
  e_callB hg hX.bt.sum PyProof.Rows.boot_sum (a_cons h a_nil hs) (c_sum hX) (by decide) (by decide) hs hpl
theorem e_max (hX : Good X k) {ns : List Int} (h : E X e ρ (.list (ns.map .int))) (hne : ns ≠ []) (hg : Gl X "max" := by rfl) (hs : starEach [e] X.env = (false, eval e X.env) :: starEach [] X.env := by exact se_cons rfl) (hpl : (backTo pos (starEach [] X.env)).any (·.1) = false := by rfl) : E X (.Call (.Name "max" p) [e] [] pos) ρ (.int (maxL ns)) :=
  e_callB hg hX.bt.max PyProof.Rows.boot_max (a_cons h a_nil hs) (c_max hX hne) (by decide) (by decide) hs hpl
theorem e_all (hX : Good X k) {bs : List Bool} (h : E X e ρ (.list (bs.map .bool))) (hg : Gl X "all" := by rfl) (hs : starEach [e] X.env = (false, eval e X.env) :: starEach [] X.env := by exact se_cons rfl) (hpl : (backTo pos (starEach [] X.env)).any (·.1) = false := by rfl) : E X (.Call (.Name "all" p) [e] [] pos) ρ (.bool (bs.all id)) :=
  e_callB hg hX.bt.all PyProof.Rows.boot_all (a_cons h a_nil hs) (c_all hX) (by decide) (by decide) hs hpl
theorem e_abs (hX : Good X k) {i : Int} (h : E X e ρ (.int i)) (hg : Gl X "abs" := by rfl) (hs : starEach [e] X.env = (false, eval e X.env) :: starEach [] X.env := by exact se_cons rfl) (hpl : (backTo pos (starEach [] X.env)).any (·.1) = false := by rfl) : E X (.Call (.Name "abs" p) [e] [] pos) ρ (.int (absI i)) :=
  e_callB hg hX.bt.abs PyProof.Rows.boot_abs (a_cons h a_nil hs) c_abs (by decide) (by decide) hs hpl
theorem e_max2 (hX : Good X k) {i j : Int} (h1 : E X a ρ (.int i)) (h2 : E X b ρ (.int j)) (hg : Gl X "max" := by rfl) (hs : starEach [a, b] X.env = (false, eval a X.env) :: starEach [b] X.env := by exact se_cons rfl) (hs2 : starEach [b] X.env = (false, eval b X.env) :: starEach [] X.env := by exact se_cons rfl) (hpl : (backTo pos (starEach [b] X.env)).any (·.1) = false := by rfl) : E X (.Call (.Name "max" p) [a, b] [] pos) ρ (.int (max i j)) :=
  e_callB hg hX.bt.max PyProof.Rows.boot_max (a_cons h1 (a_cons h2 a_nil hs2) hs) (c_max2 hX) (by decide) (by decide) hs hpl
theorem e_tupleL (hX : Good X k) {ds : List PyData} (h : E X e ρ (.list ds)) (hg : Gl X "tuple" := by rfl) (hs : starEach [e] X.env = (false, eval e X.env) :: starEach [] X.env := by exact se_cons rfl) (hpl : (backTo pos (starEach [] X.env)).any (·.1) = false := by rfl) : E X (.Call (.Name "tuple" p) [e] [] pos) ρ (.tuple ds) :=
  e_callTy hg hX.bt.tuple PyProof.Rows.boot_tuple (a_cons h a_nil hs) c_tupleL (by decide) (by decide) hs hpl
theorem e_listL (hX : Good X k) {ds : List PyData} (h : E X e ρ (.list ds)) (hg : Gl X "list" := by rfl) (hs : starEach [e] X.env = (false, eval e X.env) :: starEach [] X.env := by exact se_cons rfl) (hpl : (backTo pos (starEach [] X.env)).any (·.1) = false := by rfl) : E X (.Call (.Name "list" p) [e] [] pos) ρ (.list ds) :=
  e_callTy hg hX.bt.list PyProof.Rows.boot_list (a_cons h a_nil hs) c_listL (by decide) (by decide) hs hpl
theorem e_listT (hX : Good X k) {ds : List PyData} (h : E X e ρ (.tuple ds)) (hg : Gl X "list" := by rfl) (hs : starEach [e] X.env = (false, eval e X.env) :: starEach [] X.env := by exact se_cons rfl) (hpl : (backTo pos (starEach [] X.env)).any (·.1) = false := by rfl) : E X (.Call (.Name "list" p) [e] [] pos) ρ (.list ds) :=
  e_callTy hg hX.bt.list PyProof.Rows.boot_list (a_cons h a_nil hs) c_listT (by decide) (by decide) hs hpl
theorem e_intI (hX : Good X k) {i : Int} (h : E X e ρ (.int i)) (hg : Gl X "int" := by rfl) (hs : starEach [e] X.env = (false, eval e X.env) :: starEach [] X.env := by exact se_cons rfl) (hpl : (backTo pos (starEach [] X.env)).any (·.1) = false := by rfl) : E X (.Call (.Name "int" p) [e] [] pos) ρ (.int i) :=
  e_callTy hg hX.bt.int PyProof.Rows.boot_int (a_cons h a_nil hs) c_intI (by decide) (by decide) hs hpl
theorem e_intB (hX : Good X k) {i : Bool} (h : E X e ρ (.bool i)) (hg : Gl X "int" := by rfl) (hs : starEach [e] X.env = (false, eval e X.env) :: starEach [] X.env := by exact se_cons rfl) (hpl : (backTo pos (starEach [] X.env)).any (·.1) = false := by rfl) : E X (.Call (.Name "int" p) [e] [] pos) ρ (.int (if i then 1 else 0)) :=
  e_callTy hg hX.bt.int PyProof.Rows.boot_int (a_cons h a_nil hs) c_intB (by decide) (by decide) hs hpl

/-! ### comprehensions, the scope told -/
theorem sc_blk {sc : Scope} (h : X.env.scope = sc) {s : Shared} {H : Hp} {C : Addr} {cl : List (Str × Addr)} {fp : List Addr} : (X.blk s H scope (compEnvC scope cl C X.env) fp).env.scope = relS scope sc := by
  subst h
  rfl
/-- [elt for x in iter] -/
theorem e_lcN {Nn : List Str} {sc : Scope} {x : Str} {xp : Pos} (hX : Good X k) (j : Nat) (hN : X.N = Nn) (hsc : X.env.scope = sc) (enc : α → PyData) (xs : List α) (hl : xs.length ≤ 100000) (hi : Ei0 X (.Name x xp) iter ρ (xs.map enc)) (f : α → PyData)
    (he : ∀ a ∈ xs, ∀ (s : Shared) (H : Hp) (C : Addr) (cl : List (Str × Addr)) (fp : List Addr), E (X.blk s H scope (compEnvC scope cl C X.env) fp) elt ((wipeS ρ [j]).set j (.dat (enc a))) (f a))
    (hj : Nn[j]? = some x := by rfl) (ok : blkC Nn sc scope [(x, j)] = true := by decide +kernel)
    (hlo : scope.names.lookup x = some .local ∨ scope.names.lookup x = some .cell := by first | exact .inl rfl | exact .inr rfl)
    (hs : ∀ x, foldedSetIterable iter X.env x = pure x := by intro _; rfl) : E X (.ListComp elt [⟨.Name x xp, iter, [], 0⟩] scope pos) ρ (.list (xs.map f)) := by
  subst hN hsc
  refine e_lc0 (own := [(x, j)]) hX (blkOk_by ok) enc xs hl hi (gName j) [j] (fun a ρ => ρ.set j (.dat (enc a))) f (fun s H C cl fp => ?_) (fun a _ => gok_name) (fun i h => by simpa using h) he hs
  have hk : (relS scope X.env.scope).names.lookup x = some .local ∨ (relS scope X.env.scope).names.lookup x = some .cell := by
    rcases hlo with h | h
    · exact .inl (lookup_relS_keep (by decide) h)
    · exact .inr (lookup_relS_keep (by decide) h)
  refine pg_name hX.nd hj (show Loc (relS scope X.env.scope) x from hk) ?_
  rcases hlo with h | h
  · exact .inr (show (relS scope X.env.scope).names.lookup x = some .local from lookup_relS_keep (by decide) h)
  · exact .inl (by show (scope.names.lookup x == some .cell) = true; rw [h]; rfl)
/-- [elt for x in iter if tst] -/
theorem e_lcNI {Nn : List Str} {sc : Scope} {x : Str} {xp : Pos} (hX : Good X k) (j : Nat) (hN : X.N = Nn) (hsc : X.env.scope = sc) (enc : α → PyData) (xs : List α) (hl : xs.length ≤ 100000) (hi : Ei0 X (.Name x xp) iter ρ (xs.map enc)) (t : α → Bool) (f : α → PyData)
    (ht : ∀ a ∈ xs, ∀ (s : Shared) (H : Hp) (C : Addr) (cl : List (Str × Addr)) (fp : List Addr), Eb (X.blk s H scope (compEnvC scope cl C X.env) fp) tst ((wipeS ρ [j]).set j (.dat (enc a))) (t a))
    (he : ∀ a ∈ xs, t a = true → ∀ (s : Shared) (H : Hp) (C : Addr) (cl : List (Str × Addr)) (fp : List Addr), E (X.blk s H scope (compEnvC scope cl C X.env) fp) elt ((wipeS ρ [j]).set j (.dat (enc a))) (f a))
    (hj : Nn[j]? = some x := by rfl) (ok : blkC Nn sc scope [(x, j)] = true := by decide +kernel)
    (hlo : scope.names.lookup x = some .local ∨ scope.names.lookup x = some .cell := by first | exact .inl rfl | exact .inr rfl)
    (hs : ∀ x, foldedSetIterable iter X.env x = pure x := by intro _; rfl) : E X (.ListComp elt [⟨.Name x xp, iter, [tst], 0⟩] scope pos) ρ (.list ((xs.filter t).map f)) := by
  subst hN hsc
  refine e_lc1 (own := [(x, j)]) hX (blkOk_by ok) enc xs hl hi (gName j) [j] (fun a ρ => ρ.set j (.dat (enc a))) t f (fun s H C cl fp => ?_) (fun a _ => gok_name) (fun i h => by simpa using h) ht he hs
  have hk : (relS scope X.env.scope).names.lookup x = some .local ∨ (relS scope X.env.scope).names.lookup x = some .cell := by
    rcases hlo with h | h
    · exact .inl (lookup_relS_keep (by decide) h)
    · exact .inr (lookup_relS_keep (by decide) h)
  refine pg_name hX.nd hj (show Loc (relS scope X.env.scope) x from hk) ?_
  rcases hlo with h | h
  · exact .inr (show (relS scope X.env.scope).names.lookup x = some .local from lookup_relS_keep (by decide) h)
  · exact .inl (by show (scope.names.lookup x == some .cell) = true; rw [h]; rfl)
theorem pg_own {Y : Cx} {j : Nat} {x : Str} (nd : Y.N.Nodup) (hj : Y.N[j]? = some x) (hlo : Y.env.scope.names.lookup x = some .local ∨ Y.env.scope.names.lookup x = some .cell) (hf : Y.env.scope.names.lookup x = some .cell → Y.fn x = true) : PG Y (.Name x pos) (gName j) :=
  pg_name nd hj hlo (by
    rcases hlo with h | h
    · exact .inr h
    · exact .inl (hf h))
/-- [elt for x, y in iter if tst] -/
theorem e_lcTI {Nn : List Str} {sc : Scope} {x y : Str} {xp yp tp : Pos} {β γ : Type} (hX : Good X k) (j l : Nat) (hN : X.N = Nn) (hsc : X.env.scope = sc) (enc1 : β → PyData) (enc2 : γ → PyData) (xs : List (β × γ)) (hl : xs.length ≤ 100000) (hi : Ei0 X (.Tuple [.Name x xp, .Name y yp] kk tp) iter ρ (xs.map fun a => .tuple [enc1 a.1, enc2 a.2])) (t : β × γ → Bool) (f : β × γ → PyData)
    (ht : ∀ a ∈ xs, ∀ (s : Shared) (H : Hp) (C : Addr) (cl : List (Str × Addr)) (fp : List Addr), Eb (X.blk s H scope (compEnvC scope cl C X.env) fp) tst (((wipeS ρ [j, l]).set j (.dat (enc1 a.1))).set l (.dat (enc2 a.2))) (t a))
    (he : ∀ a ∈ xs, t a = true → ∀ (s : Shared) (H : Hp) (C : Addr) (cl : List (Str × Addr)) (fp : List Addr), E (X.blk s H scope (compEnvC scope cl C X.env) fp) elt (((wipeS ρ [j, l]).set j (.dat (enc1 a.1))).set l (.dat (enc2 a.2))) (f a))
    (hj : Nn[j]? = some x := by rfl) (hjl : Nn[l]? = some y := by rfl) (ok : blkC Nn sc scope [(x, j), (y, l)] = true := by decide +kernel)
    (hlo : scope.names.lookup x = some .local ∨ scope.names.lookup x = some .cell := by first | exact .inl rfl | exact .inr rfl) (hlo2 : scope.names.lookup y = some .local ∨ scope.names.lookup y = some .cell := by first | exact .inl rfl | exact .inr rfl)
    (hs : ∀ x, foldedSetIterable iter X.env x = pure x := by intro _; rfl) : E X (.ListComp elt [⟨.Tuple [.Name x xp, .Name y yp] kk tp, iter, [tst], 0⟩] scope pos) ρ (.list ((xs.filter t).map f)) := by
  subst hN hsc
  have hk : ∀ x, (scope.names.lookup x = some .local ∨ scope.names.lookup x = some .cell) → (relS scope X.env.scope).names.lookup x = some .local ∨ (relS scope X.env.scope).names.lookup x = some .cell := fun x h => by
    rcases h with h | h
    · exact .inl (lookup_relS_keep (by decide) h)
    · exact .inr (lookup_relS_keep (by decide) h)
  have hk2 : ∀ x, (scope.names.lookup x = some .local ∨ scope.names.lookup x = some .cell) → (relS scope X.env.scope).names.lookup x = some .cell → (scope.names.lookup x == some .cell) = true := fun x h q => by
    rcases h with h | h
    · have q2 : (relS scope X.env.scope).names.lookup x = some .local := lookup_relS_keep (by decide) h
      rw [q2] at q
      cases q
    · rw [h]
      rfl
  refine e_lc1 (own := [(x, j), (y, l)]) hX (blkOk_by ok) (fun a => .tuple [enc1 a.1, enc2 a.2]) xs hl hi (gTup X.K 2 (gCons (gName j) (gCons (gName l) gNil))) [j, l] (fun a ρ => (ρ.set j (.dat (enc1 a.1))).set l (.dat (enc2 a.2))) t f (fun s H C cl fp => ?_) (fun a _ => gok_tup2) (fun i h => by simpa using h) ht he hs
  exact pg_tup hX.calm (pgs_cons (pg_own hX.nd hj (hk x hlo) (hk2 x hlo)) (pgs_cons (pg_own hX.nd hjl (hk y hlo2) (hk2 y hlo2)) pgs_nil))
/-- [elt for x, y in iter] -/
theorem e_lcT {Nn : List Str} {sc : Scope} {x y : Str} {xp yp tp : Pos} {β γ : Type} (hX : Good X k) (j l : Nat) (hN : X.N = Nn) (hsc : X.env.scope = sc) (enc1 : β → PyData) (enc2 : γ → PyData) (xs : List (β × γ)) (hl : xs.length ≤ 100000) (hi : Ei0 X (.Tuple [.Name x xp, .Name y yp] kk tp) iter ρ (xs.map fun a => .tuple [enc1 a.1, enc2 a.2])) (f : β × γ → PyData)
    (he : ∀ a ∈ xs, ∀ (s : Shared) (H : Hp) (C : Addr) (cl : List (Str × Addr)) (fp : List Addr), E (X.blk s H scope (compEnvC scope cl C X.env) fp) elt (((wipeS ρ [j, l]).set j (.dat (enc1 a.1))).set l (.dat (enc2 a.2))) (f a))
    (hj : Nn[j]? = some x := by rfl) (hjl : Nn[l]? = some y := by rfl) (ok : blkC Nn sc scope [(x, j), (y, l)] = true := by decide +kernel)
    (hlo : scope.names.lookup x = some .local ∨ scope.names.lookup x = some .cell := by first | exact .inl rfl | exact .inr rfl) (hlo2 : scope.names.lookup y = some .local ∨ scope.names.lookup y = some .cell := by first | exact .inl rfl | exact .inr rfl)
    (hs : ∀ x, foldedSetIterable iter X.env x = pure x := by intro _; rfl) : E X (.ListComp elt [⟨.Tuple [.Name x xp, .Name y yp] kk tp, iter, [], 0⟩] scope pos) ρ (.list (xs.map f)) := by
  subst hN hsc
  have hk : ∀ x, (scope.names.lookup x = some .local ∨ scope.names.lookup x = some .cell) → (relS scope X.env.scope).names.lookup x = some .local ∨ (relS scope X.env.scope).names.lookup x = some .cell := fun x h => by
    rcases h with h | h
    · exact .inl (lookup_relS_keep (by decide) h)
    · exact .inr (lookup_relS_keep (by decide) h)
  have hk2 : ∀ x, (scope.names.lookup x = some .local ∨ scope.names.lookup x = some .cell) → (relS scope X.env.scope).names.lookup x = some .cell → (scope.names.lookup x == some .cell) = true := fun x h q => by
    rcases h with h | h
    · have q2 : (relS scope X.env.scope).names.lookup x = some .local := lookup_relS_keep (by decide) h
      rw [q2] at q
      cases q
    · rw [h]
      rfl
  refine e_lc0 (own := [(x, j), (y, l)]) hX (blkOk_by ok) (fun a => .tuple [enc1 a.1, enc2 a.2]) xs hl hi (gTup X.K 2 (gCons (gName j) (gCons (gName l) gNil))) [j, l] (fun a ρ => (ρ.set j (.dat (enc1 a.1))).set l (.dat (enc2 a.2))) f (fun s H C cl fp => ?_) (fun a _ => gok_tup2) (fun i h => by simpa using h) he hs
  exact pg_tup hX.calm (pgs_cons (pg_own hX.nd hj (hk x hlo) (hk2 x hlo)) (pgs_cons (pg_own hX.nd hjl (hk y hlo2) (hk2 y hlo2)) pgs_nil))
end

/-! ### equality of scalars -/
section
variable {X : Cx}
theorem b2_eqI {i j : Int} : B2 X (compareOp .Eq) (.int i) (.int j) (.bool (decide (i = j))) := fun G H x y e rx ry Q q => by
  cases rx
  cases ry
  refine W2.of op_eq ⟨rfl, ?_⟩
  rw [show decide (V.int i = V.int j) = decide (i = j) by rw [dec_int]; exact Bool.beq_eq_decide_eq i j]
  exact q _ G H (Gr.refl e) (.bl _)
theorem b2_neI {i j : Int} : B2 X (compareOp .NotEq) (.int i) (.int j) (.bool (!decide (i = j))) := fun G H x y e rx ry Q q => by
  cases rx
  cases ry
  refine W2.of op_ne ⟨rfl, ?_⟩
  rw [show decide (V.int i = V.int j) = decide (i = j) by rw [dec_int]; exact Bool.beq_eq_decide_eq i j]
  exact q _ G H (Gr.refl e) (.bl _)
theorem b2_eqS {a b : Str} : B2 X (compareOp .Eq) (.str a) (.str b) (.bool (decide (a = b))) := fun G H x y e rx ry Q q => by
  cases rx
  cases ry
  refine W2.of op_eq ⟨rfl, ?_⟩
  rw [show decide (V.str a = V.str b) = decide (a = b) by rw [dec_str]; exact Bool.beq_eq_decide_eq a b]
  exact q _ G H (Gr.refl e) (.bl _)
theorem b2_eqB {a b : Bool} : B2 X (compareOp .Eq) (.bool a) (.bool b) (.bool (decide (a = b))) := fun G H x y e rx ry Q q => by
  cases rx
  cases ry
  refine W2.of op_eq ⟨rfl, ?_⟩
  rw [show decide (V.bl a = V.bl b) = decide (a = b) by rw [dec_bl]; exact Bool.beq_eq_decide_eq a b]
  exact q _ G H (Gr.refl e) (.bl _)
theorem b2_neB {a b : Bool} : B2 X (compareOp .NotEq) (.bool a) (.bool b) (.bool (!decide (a = b))) := fun G H x y e rx ry Q q => by
  cases rx
  cases ry
  refine W2.of op_ne ⟨rfl, ?_⟩
  rw [show decide (V.bl a = V.bl b) = decide (a = b) by rw [dec_bl]; exact Bool.beq_eq_decide_eq a b]
  exact q _ G H (Gr.refl e) (.bl _)
theorem b2_eqIN {i : Int} : B2 X (compareOp .Eq) (.int i) .none (.bool false) := fun G H x y e rx ry Q q => by
  cases rx
  cases ry
  refine W2.of op_eq ⟨rfl, ?_⟩
  rw [show decide (V.int i = V.non) = false from decide_eq_false (fun z => by cases z)]
  exact q _ G H (Gr.refl e) (.bl _)
end
/-! ### data of integers -/
def tupI (ns : List Int) : PyData := .tuple (ns.map .int)
def lstI (ns : List Int) : PyData := .list (ns.map .int)
/-- a layout -/
def layD (S : Int) (rows : List (List Int)) : PyData := .tuple [.int S, .tuple (rows.map tupI)]
/-- a tuple of tuples of numbers -/
def tupII (gs : List (List Int)) : PyData := .tuple (gs.map tupI)
theorem bx_tupI {X : Cx} {ns : List Int} {i : Int} {z : Int} (h : atI ns i = some z) : BX X (tupI ns) (.int i) (.int z) := bx_tup (by
  unfold atI at h ⊢
  rw [List.length_map]
  cases q : ixN ns.length i with
  | none => rw [q] at h; cases h
  | some j =>
    rw [q] at h
    show (ns.map PyData.int)[j]? = some (.int z)
    rw [List.getElem?_map, show ns[j]? = some z from h]
    rfl)
theorem bx_lstI {X : Cx} {ns : List Int} {i : Int} {z : Int} (h : atI ns i = some z) : BX X (lstI ns) (.int i) (.int z) := bx_list (by
  unfold atI at h ⊢
  rw [List.length_map]
  cases q : ixN ns.length i with
  | none => rw [q] at h; cases h
  | some j =>
    rw [q] at h
    show (ns.map PyData.int)[j]? = some (.int z)
    rw [List.getElem?_map, show ns[j]? = some z from h]
    rfl)
theorem bx_mapT {X : Cx} {α : Type} {enc : α → PyData} {xs : List α} {i : Int} {z : α} (h : atI xs i = some z) : BX X (.tuple (xs.map enc)) (.int i) (enc z) := bx_tup (by
  unfold atI at h ⊢
  rw [List.length_map]
  cases q : ixN xs.length i with
  | none => rw [q] at h; cases h
  | some j =>
    rw [q] at h
    show (xs.map enc)[j]? = some (enc z)
    rw [List.getElem?_map, show xs[j]? = some z from h]
    rfl)
theorem bx_mapL {X : Cx} {α : Type} {enc : α → PyData} {xs : List α} {i : Int} {z : α} (h : atI xs i = some z) : BX X (.list (xs.map enc)) (.int i) (enc z) := bx_list (by
  unfold atI at h ⊢
  rw [List.length_map]
  cases q : ixN xs.length i with
  | none => rw [q] at h; cases h
  | some j =>
    rw [q] at h
    show (xs.map enc)[j]? = some (enc z)
    rw [List.getElem?_map, show xs[j]? = some z from h]
    rfl)
end Pn

set_option Elab.async false
set_option linter.all false
set_option maxRecDepth 100000
set_option maxHeartbeats 4000000
/-! PnOwn: bodies that hold lists of their own. -/
namespace Pn
open PySem PySem.Spec PyProof.Rows L2

theorem Gr.rebase {T : Option Addr} {G H N H' : Hp} (a : Gr T G H N H') : Gr T N H N H' := ⟨Ex.refl N, fun _ _ z => .inl z, a.nh, a.hh, a.ht⟩
theorem Gr.comb {T : Option Addr} {G H N H' N2 H2 : Hp} (a : Gr T G H N H') (b : Gr T N H N2 H2) : Gr T G H N2 H2 := ⟨a.gn.trans b.gn, fun x o z => by
  rcases b.fr x o z with h | h
  · exact a.fr x o h
  · exact .inr h, b.nh, b.hh, b.ht⟩
/-- what is held: the heap at the entry, what is known, the heap -/
abbrev Om := Hp → Hp → Hp → Prop
def Stb (T : Option Addr) (Ω : Om) : Prop := ∀ H0 N H N' H', Ω H0 N H → Gr T N H N' H' → Ω H0 N' H'
def RX (X : Cx) (T : Option Addr) (c : Nat) (ss : List Stmt) (ρ : List Sl) (Ω : Om) (Ψ : List Sl → Om) (R : PyData → Prop) : Prop :=
  ∀ G0 H0 n0 c0 N σ H n, Ω H0 N H → Pre T N σ ρ H n → Po T G0 H0 n0 c0 N H n → n0 + (c0 + c) ≤ LIM → ∀ D : Ends,
    (∀ ρ' N' σ' H' n', Ψ ρ' H0 N' H' → Pre T N' σ' ρ' H' n' → Po T G0 H0 n0 (c0 + c) N' H' n' → D.nx σ' H') →
    (∀ v d N' H' n', R d → Rp N' v d → Po T G0 H0 n0 (c0 + c) N' H' n' → D.rt v H') → WSs X ss D σ H
/-- a list of one's own at p -/
def Own (T : Option Addr) (p : Addr) (ds : List PyData) : Om := fun H0 N H => T ≠ some p ∧ H0 p = none ∧ N p = none ∧ ∃ vs, H p = some (.lst vs) ∧ RpA N vs ds
theorem Own.stb {T : Option Addr} {p : Addr} {ds : List PyData} : Stb T (Own T p ds) := fun H0 N H N' H' ⟨h1, h2, h3, vs, h4, h5⟩ g => ⟨h1, h2, g.none_of h3 h4, vs, g.hh p _ h1 h4, h5.mono g.gn⟩
section
variable {X : Cx} {T : Option Addr} {c c1 c2 c3 k : Nat} {e t : Expr} {ss rest body orelse : List Stmt} {ρ : List Sl} {Φ : List Sl → Prop} {Ω Ω' : Om} {Ψ : List Sl → Om} {R P : PyData → Prop} {pos pos' : Pos}
theorem rx_start (h : RX X T c ss ρ Ω Ψ R) (h0 : ∀ G H, Ω H G H) (hΦ : ∀ ρ' H0 N H, Ψ ρ' H0 N H → Φ ρ') : Run X T c ss ρ Φ R := fun G σ H n p hn D q1 q2 =>
  h G H n 0 G σ H n (h0 G H) p (Po.refl p.ex p.tin) (by omega) D (fun ρ' N' σ' H' n' s pr po => q1 ρ' N' σ' H' n' (hΦ _ _ _ _ s) pr (po.weak (by omega))) (fun v d N' H' n' hr r po => q2 v d N' H' n' hr r (po.weak (by omega)))
theorem rx_nil (h : ∀ H0 N H, Ω H0 N H → Ψ ρ H0 N H) : RX X T c [] ρ Ω Ψ R := fun G0 H0 n0 c0 N σ H n om pr po hn D q1 q2 => WSs.of pss_nil (q1 ρ N σ H n (h H0 N H om) pr (po.weak (by omega)))
theorem rx_pure {φ : Prop} (h : ∀ H0 N H, Ω H0 N H → φ) (kk : φ → RX X T c ss ρ Ω Ψ R) : RX X T c ss ρ Ω Ψ R := fun G0 H0 n0 c0 N σ H n om pr po hn D q1 q2 => kk (h H0 N H om) G0 H0 n0 c0 N σ H n om pr po hn D q1 q2
theorem rx_imp (h : ∀ H0 N H, Ω H0 N H → Ω' H0 N H) (kk : RX X T c ss ρ Ω' Ψ R) : RX X T c ss ρ Ω Ψ R := fun G0 H0 n0 c0 N σ H n om pr po hn D q1 q2 => kk G0 H0 n0 c0 N σ H n (h _ _ _ om) pr po hn D q1 q2
/-- nothing is held any more: on with what is known -/
theorem rx_run (h : Run X T c ss ρ (fun _ => False) R) : RX X T c ss ρ Ω Ψ R := fun G0 H0 n0 c0 N σ H n om pr po hn D q1 q2 =>
  h N σ H n pr (by have := po.le; omega) D (fun ρ' N' σ' H' n' f _ _ => f.elim) (fun v d N' H' n' hr r o => q2 v d N' H' n' hr r (po.trans o))
theorem rx_asg {i : Nat} {x : Str} (hX : Good X k) (hi : X.N[i]? = some x) (st : Stb T Ω) (h : Ev X T c1 e ρ P) (kk : ∀ d, P d → RX X T c2 rest (ρ.set i (.dat d)) Ω Ψ R) (hc : c1 + c2 ≤ c := by omega)
    (hx : Loc X.env.scope x := by first | exact .inl rfl | exact .inr rfl) (hs : swapsWith e (some (.Name x pos')) pos.line X.env = pure false := by rfl) (hf : X.fn x = true ∨ X.env.scope.names.lookup x = some .local := by first | exact .inl rfl | exact .inr rfl) :
    RX X T c (.Assign [.Name x pos'] e pos :: rest) ρ Ω Ψ R := fun G0 H0 n0 c0 N σ H n om pr po hn D q1 q2 => by
  refine WSs.of (pss_cons (ps_set hX.nd hi hx (we e) hs hf) (wss rest)) ?_
  refine h N σ H n pr (by have := po.le; omega) _ fun v d N1 H1 n1 e1 o1 r1 => ?_
  have p1 := pr.next o1
  exact kk d e1 G0 H0 n0 (c0 + c1) N1 _ H1 n1 (st _ _ _ _ _ om o1.gr) ⟨p1.env.set i r1, p1.ex, p1.tin⟩ (po.trans o1) (by omega) D (fun ρ' N' σ' H' n' s pr po => q1 ρ' N' σ' H' n' s pr (po.weak (by omega))) (fun v d N' H' n' hr r po => q2 v d N' H' n' hr r (po.weak (by omega)))
theorem rx_par2 {i j : Nat} {x y : Str} {a b : Expr} {px py pt pt2 : Pos} {kt k2 : Nat} {Pa : List PyData → Prop} (hX : Good X k) (hi : X.N[i]? = some x) (hj : X.N[j]? = some y) (st : Stb T Ω) (ha : Ea X T c1 [a, b] ρ Pa) (kk : ∀ ds, Pa ds → ∃ d1 d2, ds = [d1, d2] ∧ RX X T c2 rest ((ρ.set i (.dat d1)).set j (.dat d2)) Ω Ψ R) (hc : c1 + c2 ≤ c := by omega)
    (hij : i ≠ j := by decide) (hx : X.env.scope.names.lookup x = some .local := by rfl) (hy : X.env.scope.names.lookup y = some .local := by rfl) (hw : swappedStores [.Tuple [.Name x px, .Name y py] kt pt] (.Tuple [a, b] k2 pt2) X.env = pure (some [x, y]) := by rfl)
    (hs : swapsWithSole [.Tuple [.Name x px, .Name y py] kt pt] (.Tuple [a, b] k2 pt2) pos.line X.env = pure false := by rfl) : RX X T c (.Assign [.Tuple [.Name x px, .Name y py] kt pt] (.Tuple [a, b] k2 pt2) pos :: rest) ρ Ω Ψ R := fun G0 H0 n0 c0 N σ H n om pr po hn D q1 q2 => by
  refine WSs.of (pss_cons (ps_par hX.calm hX.nd hi hj hij hx hy (wa [a, b]) hw hs) (wss rest)) ?_
  refine ha N σ H n pr (by have := po.le; omega) _ fun vs ds N1 H1 n1 e1 o1 r1 => ?_
  obtain ⟨d1, d2, rfl, hk⟩ := kk ds e1
  obtain ⟨v, w, rfl, rv, rw'⟩ := rpa2 r1
  have p1 := pr.next o1
  exact ⟨v, w, rfl, hk G0 H0 n0 (c0 + c1) N1 _ H1 n1 (st _ _ _ _ _ om o1.gr) ⟨(p1.env.set i rv).set j rw', p1.ex, p1.tin⟩ (po.trans o1) (by omega) D (fun ρ' N' σ' H' n' s pr po => q1 ρ' N' σ' H' n' s pr (po.weak (by omega))) (fun v d N' H' n' hr r po => q2 v d N' H' n' hr r (po.weak (by omega)))⟩
/-- x = e, e a new list that x holds from now on -/
def Enew (X : Cx) (T : Option Addr) (c : Nat) (e : Expr) (ρ : List Sl) (P : List PyData → Prop) : Prop :=
  ∀ G σ H n, Pre T G σ ρ H n → n + c ≤ LIM → ∀ Q : VK, (∀ p vs ds N H' n', P ds → Po T G H n c N H' n' → H p = none → N p = none → T ≠ some p → H' p = some (.lst vs) → RpA N vs ds → Q (.ref p) H') → WE X e σ H Q
theorem TinOk.ne {G H : Hp} {n : Nat} {p : Addr} (t : TinOk T G H n) (h : H p = Option.none) : T ≠ some p := fun z => by
  obtain ⟨_, x, y, w, e, _⟩ := t p z
  rw [h] at e
  cases e
theorem enew_lst {es : List Expr} {Pa : List PyData → Prop} (h : Ea X T c es ρ Pa) (hl : ∀ ds, Pa ds → ds.length ≤ 1000) : Enew X T c (.List es pos) ρ Pa := fun G σ H n p hn Q q => by
  refine WE.of (pe_lst (wa es)) ?_
  refine h G σ H n p hn _ fun vs ds N H1 n1 e1 o1 r1 => ?_
  have hz : vs.length ≤ sizeLine := by rw [r1.length]; have := hl ds e1; rw [sizeLine_eq]; omega
  refine ⟨hz, fun l hl' => ?_⟩
  have hl0 : H l = none := by
    cases z : H l with
    | none => rfl
    | some o =>
      obtain ⟨o', e'⟩ := o1.gr.ht l o z
      rw [hl'] at e'
      cases e'
  have hN : N l = none := o1.gr.nh.back hl'
  have g : Gr T N H1 N (upd H1 l (.lst vs)) := ⟨Ex.refl N, fun _ _ z => .inl z, o1.gr.nh.mut hN, fun a o _ z => Ex.new hl' a o z, fun a o z => ⟨o, Ex.new hl' a o z⟩⟩
  refine q l vs ds N _ n1 e1 ⟨o1.gr.trans g, fun a ha => ?_, o1.le⟩ hl0 hN (o1.tin.ne hl') upd_same r1
  obtain ⟨z1, x, y, w, z2, z3⟩ := o1.tin a ha
  exact ⟨z1, x, y, w, g.nh.trans (Ex.refl _) |> fun _ => Ex.new hl' a _ z2, z3⟩
/-- .. from any expression that hands back a new list (given by its reading on values) -/
theorem enew_of {ds : List PyData} (h : ∀ G σ H n, Pre none G σ ρ H n → n ≤ LIM → ∀ Q : VK, (∀ p vs N H', Gr none G H N H' → H p = none → N p = none → H' p = some (.lst vs) → RpA N vs ds → Q (.ref p) H') → WE X e σ H Q) : Enew X T c e ρ (fun z => z = ds) := fun G σ H n p hn Q q =>
  h G σ H n p.toNone (by omega) Q fun q' vs N H' g h1 h2 h3 h4 => q q' vs ds N H' n rfl (Po.pure p.tin g) h1 h2 (p.tin.ne h1) h3 h4
theorem rx_own {i : Nat} {x : Str} {Pd : List PyData → Prop} (hX : Good X k) (hi : X.N[i]? = some x) (st : Stb T Ω) (h : Enew X T c1 e ρ Pd)
    (kk : ∀ ds, Pd ds → ∀ p, RX X T c2 rest (ρ.set i (.raw (.ref p))) (fun H0 N H => Ω H0 N H ∧ Own T p ds H0 N H) Ψ R) (hc : c1 + c2 ≤ c := by omega)
    (hx : Loc X.env.scope x := by first | exact .inl rfl | exact .inr rfl) (hs : swapsWith e (some (.Name x pos')) pos.line X.env = pure false := by rfl) (hf : X.fn x = true ∨ X.env.scope.names.lookup x = some .local := by first | exact .inl rfl | exact .inr rfl) :
    RX X T c (.Assign [.Name x pos'] e pos :: rest) ρ Ω Ψ R := fun G0 H0 n0 c0 N σ H n om pr po hn D q1 q2 => by
  refine WSs.of (pss_cons (ps_set hX.nd hi hx (we e) hs hf) (wss rest)) ?_
  refine h N σ H n pr (by have := po.le; omega) _ fun p vs ds N1 H1 n1 e1 o1 hp np tp hH r1 => ?_
  have p1 := pr.next o1
  have hp0 : H0 p = none := by
    cases z : H0 p with
    | none => rfl
    | some o =>
      obtain ⟨o', e'⟩ := po.gr.ht p o z
      rw [hp] at e'
      cases e'
  exact kk ds e1 p G0 H0 n0 (c0 + c1) N1 _ H1 n1 ⟨st _ _ _ _ _ om o1.gr, tp, hp0, np, vs, hH, r1⟩ ⟨p1.env.put i rfl, p1.ex, p1.tin⟩ (po.trans o1) (by omega) D (fun ρ' N' σ' H' n' s pr po => q1 ρ' N' σ' H' n' s pr (po.weak (by omega))) (fun v d N' H' n' hr r po => q2 v d N' H' n' hr r (po.weak (by omega)))

/-! ### what is held, known -/
/-- the list at p is known from now on -/
theorem own_view {p : Addr} {ds : List PyData} {i : Nat} {G0 H0 N H : Hp} {σ : Sg} {n n0 c0 : Nat} (hi : ρ[i]? = some (.raw (.ref p))) (ow : Own T p ds H0 N H) (pr : Pre T N σ ρ H n) (po : Po T G0 H0 n0 c0 N H n) :
    ∃ N2, Ex N N2 ∧ (∀ a, a ≠ p → N2 a = N a) ∧ Pre T N2 σ (ρ.set i (.dat (.list ds))) H n ∧ Po T G0 H0 n0 c0 N2 H n := by
  obtain ⟨tp, hp0, np, vs, hH, r⟩ := ow
  have ex : Ex N (upd N p (.lst vs)) := Ex.new np
  have tin : TinOk T (upd N p (.lst vs)) H n := fun a ha => by
    obtain ⟨z1, z2⟩ := pr.tin a ha
    have : a ≠ p := fun q => tp (by rw [ha, q])
    exact ⟨by rw [upd_ne this]; exact z1, z2⟩
  have nh : Ex (upd N p (.lst vs)) H := fun a o z => by
    by_cases q : a = p
    · subst q; rw [upd_same] at z; rw [hH]; exact z
    · rw [upd_ne q] at z; exact pr.ex a o z
  refine ⟨upd N p (.lst vs), ex, fun a q => upd_ne q, ⟨?_, nh, tin⟩, ⟨⟨po.gr.gn.trans ex, fun a o z => ?_, nh, po.gr.hh, po.gr.ht⟩, tin, po.le⟩⟩
  · have h1 := (pr.env.mono ex).set i (v := .ref p) (d := .list ds) (.lst upd_same (r.mono ex))
    have h2 := pr.env.rawAt hi
    have e : σ.set i (some (.ref p)) = σ := by
      refine List.ext_getElem? fun j => ?_
      by_cases q : i = j
      · subst q
        obtain ⟨hl, _⟩ := List.getElem?_eq_some_iff.mp h2
        rw [List.getElem?_set_self hl, h2]
      · rw [List.getElem?_set_ne q]
    rw [e] at h1
    exact h1
  · by_cases q : a = p
    · subst q; exact .inr hp0
    · rw [upd_ne q] at z; exact po.gr.fr a o z
theorem rx_freeze {p : Addr} {ds : List PyData} {i : Nat} (hi : ρ[i]? = some (.raw (.ref p))) (hΩ : ∀ H0 N H, Ω H0 N H → Own T p ds H0 N H) (h : Run X T c ss (ρ.set i (.dat (.list ds))) (fun _ => False) R) : RX X T c ss ρ Ω Ψ R := fun G0 H0 n0 c0 N σ H n om pr po hn D q1 q2 => by
  obtain ⟨N2, _, _, pr2, po2⟩ := own_view hi (hΩ _ _ _ om) pr po
  exact h N2 σ H n pr2 (by have := po.le; omega) D (fun ρ' N' σ' H' n' f _ _ => f.elim) (fun v d N' H' n' hr r o => q2 v d N' H' n' hr r (po2.trans o))
/-- a look at the list while it is held: what comes is a scalar -/
theorem own_peek {p : Addr} {ds : List PyData} {i : Nat} {G0 H0 N H : Hp} {σ : Sg} {n n0 c0 : Nat} (hi : ρ[i]? = some (.raw (.ref p))) (ow : Own T p ds H0 N H) (pr : Pre T N σ ρ H n) (po : Po T G0 H0 n0 c0 N H n) (hn : n + c1 ≤ LIM)
    (h : Ev X T c1 e (ρ.set i (.dat (.list ds))) P) (hP : ∀ d, P d → flatD d = true) (Q : VK) (q : ∀ v d N' H' n', P d → Po T N H n c1 N' H' n' → Rp N' v d → Q v H') : WE X e σ H Q := by
  obtain ⟨N2, e2, n2, pr2, po2⟩ := own_view hi ow pr po
  obtain ⟨tp, hp0, np, vs, hH, r⟩ := ow
  refine h N2 σ H n pr2 hn Q fun v d N3 H' n' hd o r3 => ?_
  have hn2 : ∀ a, a ≠ p → N2 a = N a := n2
  refine q v d (fun a => if a = p then none else N3 a) H' n' hd ⟨⟨fun a u z => ?_, fun a u z => ?_, fun a u z => ?_, o.gr.hh, o.gr.ht⟩, fun a ha => ?_, o.le⟩ ?_
  · have : a ≠ p := fun q => by rw [q, np] at z; cases z
    show (if a = p then none else N3 a) = some u
    rw [if_neg this]
    exact o.gr.gn a u (e2 a u z)
  · have z' : (if a = p then none else N3 a) = some u := z
    by_cases q : a = p
    · rw [if_pos q] at z'; cases z'
    · rw [if_neg q] at z'
      rcases o.gr.fr a u z' with y | y
      · rw [hn2 a q] at y; exact .inl y
      · exact .inr y
  · have z' : (if a = p then none else N3 a) = some u := z
    by_cases q : a = p
    · rw [if_pos q] at z'; cases z'
    · rw [if_neg q] at z'; exact o.gr.nh a u z'
  · obtain ⟨z1, z2⟩ := o.tin a ha
    have : a ≠ p := fun q => tp (by rw [ha, q])
    exact ⟨by show (if a = p then none else N3 a) = none; rw [if_neg this]; exact z1, z2⟩
  · have hf := hP d hd
    cases r3 with
    | non => exact .non
    | bl b => exact .bl b
    | int i => exact .int i
    | str x => exact .str x
    | lst _ _ => exact absurd hf Bool.false_ne_true
    | tup _ _ => exact absurd hf Bool.false_ne_true
theorem rx_asgPeek {p : Addr} {ds : List PyData} {i j : Nat} {x : Str} (hX : Good X k) (hi : X.N[i]? = some x) (hj : ρ[j]? = some (.raw (.ref p))) (hΩ : ∀ H0 N H, Ω H0 N H → Own T p ds H0 N H) (st : Stb T Ω) (h : Ev X T c1 e (ρ.set j (.dat (.list ds))) P) (hP : ∀ d, P d → flatD d = true) (kk : ∀ d, P d → RX X T c2 rest (ρ.set i (.dat d)) Ω Ψ R) (hc : c1 + c2 ≤ c := by omega)
    (hx : Loc X.env.scope x := by first | exact .inl rfl | exact .inr rfl) (hs : swapsWith e (some (.Name x pos')) pos.line X.env = pure false := by rfl) (hf : X.fn x = true ∨ X.env.scope.names.lookup x = some .local := by first | exact .inl rfl | exact .inr rfl) :
    RX X T c (.Assign [.Name x pos'] e pos :: rest) ρ Ω Ψ R := fun G0 H0 n0 c0 N σ H n om pr po hn D q1 q2 => by
  refine WSs.of (pss_cons (ps_set hX.nd hi hx (we e) hs hf) (wss rest)) ?_
  refine own_peek hj (hΩ _ _ _ om) pr po (by have := po.le; omega) h hP _ fun v d N1 H1 n1 e1 o1 r1 => ?_
  have p1 := pr.next o1
  exact kk d e1 G0 H0 n0 (c0 + c1) N1 _ H1 n1 (st _ _ _ _ _ om o1.gr) ⟨p1.env.set i r1, p1.ex, p1.tin⟩ (po.trans o1) (by omega) D (fun ρ' N' σ' H' n' s pr po => q1 ρ' N' σ' H' n' s pr (po.weak (by omega))) (fun v d N' H' n' hr r po => q2 v d N' H' n' hr r (po.weak (by omega)))

/-! ### append -/
/-- an element, as a datum or by a look at the list itself -/
def EvP (X : Cx) (T : Option Addr) (c : Nat) (e : Expr) (ρ : List Sl) (i : Nat) (ds : List PyData) (P : PyData → Prop) : Prop := Ev X T c e ρ P ∨ (Ev X T c e (ρ.set i (.dat (.list ds))) P ∧ ∀ d, P d → flatD d = true)
theorem EvP.go {p : Addr} {ds : List PyData} {i : Nat} {G0 H0 N H : Hp} {σ : Sg} {n n0 c0 : Nat} (h : EvP X T c1 e ρ i ds P) (hi : ρ[i]? = some (.raw (.ref p))) (ow : Own T p ds H0 N H) (pr : Pre T N σ ρ H n) (po : Po T G0 H0 n0 c0 N H n) (hn : n + c1 ≤ LIM)
    (Q : VK) (q : ∀ v d N' H' n', P d → Po T N H n c1 N' H' n' → Rp N' v d → Q v H') : WE X e σ H Q := by
  rcases h with h | ⟨h, hP⟩
  · exact h N σ H n pr hn Q q
  · exact own_peek hi ow pr po hn h hP Q q
theorem own_upd {p : Addr} {ds : List PyData} {vs : List V} {G0 H0 N H : Hp} {σ : Sg} {n n0 c0 : Nat} (tp : T ≠ some p) (hp0 : H0 p = none) (np : N p = none) (hH : ∃ o, H p = some o) (pr : Pre T N σ ρ H n) (po : Po T G0 H0 n0 c0 N H n) (r : RpA N vs ds) :
    Own T p ds H0 N (upd H p (.lst vs)) ∧ Pre T N σ ρ (upd H p (.lst vs)) n ∧ Po T G0 H0 n0 c0 N (upd H p (.lst vs)) n := by
  have ex : Ex N (upd H p (.lst vs)) := pr.ex.mut np
  have tin : TinOk T N (upd H p (.lst vs)) n := fun a ha => by
    obtain ⟨z1, x, y, w, z2, z3⟩ := pr.tin a ha
    have : a ≠ p := fun q => tp (by rw [ha, q])
    exact ⟨z1, x, y, w, by rw [upd_ne this]; exact z2, z3⟩
  refine ⟨⟨tp, hp0, np, vs, upd_same, r⟩, ⟨pr.env, ex, tin⟩, ⟨⟨po.gr.gn, po.gr.fr, ex, fun a o t z => ?_, fun a o z => ?_⟩, tin, po.le⟩⟩
  · rw [upd_ne (ne_of_none z hp0)]; exact po.gr.hh a o t z
  · obtain ⟨o', e'⟩ := po.gr.ht a o z
    exact ⟨o', by rw [upd_ne (ne_of_none z hp0)]; exact e'⟩
theorem rx_append {p : Addr} {ds : List PyData} {i : Nat} {x : Str} {np apos cpos spos : Pos} (hi : X.N[i]? = some x) (hρ : ρ[i]? = some (.raw (.ref p))) (hΩ : ∀ H0 N H, Ω H0 N H → Own T p ds H0 N H) (st : Stb T Ω) (h : EvP X T c1 e ρ i ds P) (hlen : ds.length < 100000)
    (hΩ' : ∀ d H0 N H N' vs v, P d → Ω H0 N H → Gr T N H N H → H p = some (.lst vs) → N' = N → Rp N v d → Own T p (ds ++ [d]) H0 N (upd H p (.lst (vs ++ [v]))) → Ω' H0 N (upd H p (.lst (vs ++ [v]))) ∨ True)
    (kk : ∀ d, P d → RX X T c2 rest ρ (fun H0 N H => (∃ vs v H1, H = upd H1 p (.lst (vs ++ [v])) ∧ H1 p = some (.lst vs) ∧ Ω H0 N H1 ∧ Rp N v d) ∧ Own T p (ds ++ [d]) H0 N H) Ψ R) (hc : c1 + c2 ≤ c := by omega)
    (hv : Vis X.env.scope x := by first | exact Or.inl rfl | exact Or.inr (Or.inl rfl) | exact Or.inr (Or.inr rfl)) (hd : (x == ("__debug__" : Str)) = false := by decide) (hcd : (x == ("__classdict__" : Str)) = false := by decide)
    (hbase : attributeBase (.Name x np) "append" X.env (eval (.Name x np) X.env) = eval (.Name x np) X.env := by rfl)
    (hfew : ((backTo cpos (starEach [e] X.env)).all (fun x => !x.1) && (backToKw cpos (keywordEach [] X.env)).all (fun x => x.1.isSome) && decide ([e].length + ([] : List Keyword).length + (if ([] : List Keyword).isEmpty then 0 else 1) < 30)) = true := by rfl)
    (hline : (apos.endLine == cpos.line) = true := by rfl) (hs : starEach [e] X.env = (false, eval e X.env) :: starEach [] X.env := by exact se_cons rfl) (hplain : (backTo cpos (starEach [] X.env)).any (·.1) = false := by rfl)
    (hsw : swapsWith (.Call (.Attribute (.Name x np) "append" apos) [e] [] cpos) none spos.line X.env = pure false := by rfl) :
    RX X T c (.Expr (.Call (.Attribute (.Name x np) "append" apos) [e] [] cpos) spos :: rest) ρ Ω Ψ R := fun G0 H0 n0 c0 N σ H n om pr po hn D q1 q2 => by
  have ow := hΩ _ _ _ om
  obtain ⟨tp, hp0, hnp, vs, hH, r⟩ := id ow
  refine WSs.of (pss_cons (ps_expr (pe_bm PySem.F.plainAttrs_list PySem.F.slot_list_append PySem.F.type_list_append mt_append (pe_var hi hv hd hcd) (pa_cons (we e) pa_nil hs) hbase hfew hline hs hplain) hsw) (wss rest)) ?_
  refine ⟨.ref p, pr.env.rawAt hρ, .inl ⟨rfl, _, SqL.of hH⟩, ?_⟩
  refine h.go hρ ow pr po (by have := po.le; omega) _ fun v d N1 H1 n1 e1 o1 r1 => ?_
  have p1 := pr.next o1
  have po1 := po.trans o1
  have hH1 : H1 p = some (.lst vs) := o1.gr.hh p _ tp hH
  have np1 : N1 p = none := o1.gr.none_of hnp hH
  have r1' := (r.mono o1.gr.gn).append (.cons r1 .nil : RpA N1 [v] [d])
  have om1 : Ω H0 N1 H1 := st _ _ _ _ _ om o1.gr
  obtain ⟨ow2, pr2, po2⟩ := own_upd tp hp0 np1 ⟨_, hH1⟩ p1 po1 r1'
  refine ⟨p, vs, v, rfl, rfl, hH1, ?_, ?_⟩
  · rw [r.length, sizeLine_eq]; omega
  · exact kk d e1 G0 H0 n0 (c0 + c1) N1 σ _ n1 ⟨⟨vs, v, H1, rfl, hH1, om1, r1⟩, ow2⟩ pr2 po2 (by omega) D (fun ρ' N' σ' H' n' s pr po => q1 ρ' N' σ' H' n' s pr (po.weak (by omega))) (fun v d N' H' n' hr r po => q2 v d N' H' n' hr r (po.weak (by omega)))
/-- .. where nothing else is held -/
theorem rx_append1 {p : Addr} {ds : List PyData} {i : Nat} {x : Str} {np apos cpos spos : Pos} (hi : X.N[i]? = some x) (hρ : ρ[i]? = some (.raw (.ref p))) (h : EvP X T c1 e ρ i ds P) (hlen : ds.length < 100000)
    (kk : ∀ d, P d → RX X T c2 rest ρ (Own T p (ds ++ [d])) Ψ R) (hc : c1 + c2 ≤ c := by omega)
    (hv : Vis X.env.scope x := by first | exact Or.inl rfl | exact Or.inr (Or.inl rfl) | exact Or.inr (Or.inr rfl)) (hd : (x == ("__debug__" : Str)) = false := by decide) (hcd : (x == ("__classdict__" : Str)) = false := by decide)
    (hbase : attributeBase (.Name x np) "append" X.env (eval (.Name x np) X.env) = eval (.Name x np) X.env := by rfl)
    (hfew : ((backTo cpos (starEach [e] X.env)).all (fun x => !x.1) && (backToKw cpos (keywordEach [] X.env)).all (fun x => x.1.isSome) && decide ([e].length + ([] : List Keyword).length + (if ([] : List Keyword).isEmpty then 0 else 1) < 30)) = true := by rfl)
    (hline : (apos.endLine == cpos.line) = true := by rfl) (hs : starEach [e] X.env = (false, eval e X.env) :: starEach [] X.env := by exact se_cons rfl) (hplain : (backTo cpos (starEach [] X.env)).any (·.1) = false := by rfl)
    (hsw : swapsWith (.Call (.Attribute (.Name x np) "append" apos) [e] [] cpos) none spos.line X.env = pure false := by rfl) :
    RX X T c (.Expr (.Call (.Attribute (.Name x np) "append" apos) [e] [] cpos) spos :: rest) ρ (Own T p ds) Ψ R :=
  rx_append (Ω' := fun _ _ _ => True) hi hρ (fun _ _ _ h => h) Own.stb h hlen (fun _ _ _ _ _ _ _ _ _ _ _ _ _ _ => .inr True.intro) (fun d hd => rx_imp (fun _ _ _ h => h.2) (kk d hd)) hc hv hd hcd hbase hfew hline hs hplain hsw

/-! ### for -/
theorem rx_for {α : Type} {tg iter : Expr} {g : TG} {Pd : List PyData → Prop} (hX : Good X k) (hp : PassesOwn (model X.prog X.w) X.A X.env X.xe) (hg : PG X tg g) (st : Stb T Ω) (hi : Ei X tg T c1 iter ρ Pd) (m : Nat)
    (kk : ∀ ds, Pd ds → ∃ (enc : α → PyData) (xs : List α) (js : List Nat) (put : α → List Sl → List Sl) (I : Nat → List Sl → Om), ds = xs.map enc ∧ xs.length ≤ m ∧ (∀ a ∈ xs, GOk g js (enc a) (put a)) ∧ (∀ i ρ', Stb T (I i ρ')) ∧ (∀ H0 N H, Ω H0 N H → I 0 ρ H0 N H) ∧
      (∀ i a ρ', xs[i]? = some a → RX X T c2 body (put a ρ') (I i ρ') (I (i + 1)) R) ∧ ∀ ρ', RX X T c3 rest ρ' (I xs.length ρ') Ψ R) (hc : c1 + m * c2 + c3 ≤ c)
    (hs : ∀ x, foldedSetIterable iter X.env x = pure x := by intro _; rfl) : RX X T c (.For tg iter body [] pos :: rest) ρ Ω Ψ R := fun G0 H0 n0 c0 N σ H n om pr0 po0 hn D q1 q2 => by
  refine WSs.of (pss_cons (ps_for hp hX.calm (wi tg iter) hg (wss body) hs) (wss rest)) ?_
  refine hi N σ H n pr0 (by have := po0.le; omega) _ fun ds J N1 H1 n1 e1 o1 wk => ?_
  obtain ⟨enc, xs, js, put, I, rfl, hm, hgk, hst, h0, hb, hd⟩ := kk ds e1
  refine ⟨fun i m σ' Hc => m = xs.length - i ∧ i ≤ xs.length ∧ ∃ ρ' M n', I i ρ' H0 M Hc ∧ Pre T M σ' ρ' Hc n' ∧ Po T G0 H0 n0 (c0 + (c1 + i * c2)) M Hc n' ∧ Ex N1 M, ⟨xs.length, rfl, Nat.zero_le _, ρ, N1, n1, h0 _ _ _ (st _ _ _ _ _ om o1.gr), pr0.next o1, (po0.trans o1).weak (by omega), Ex.refl N1⟩, ?_⟩
  rintro i _ σ' Hc ⟨rfl, hi', ρ', M, n', hI, pr, po, ex⟩
  by_cases hlt : i < xs.length
  · have hmul : (i + 1) * c2 ≤ m * c2 := Nat.mul_le_mul_right _ (by omega)
    have hs1 : (i + 1) * c2 = i * c2 + c2 := Nat.succ_mul _ _
    refine .inr ⟨wk.go Hc (ex.trans pr.ex) i (by rw [List.length_map]; exact hlt), fun σ2 H2 => i + 1 ≤ xs.length ∧ ∃ ρ' M n', I (i + 1) ρ' H0 M H2 ∧ Pre T M σ2 ρ' H2 n' ∧ Po T G0 H0 n0 (c0 + (c1 + (i + 1) * c2)) M H2 n' ∧ Ex N1 M, fun σ2 H2 h' => ⟨xs.length - (i + 1), by omega, rfl, h'⟩, fun x H' y => ?_⟩
    have hxi : xs[i]? = some xs[i] := List.getElem?_eq_getElem hlt
    obtain ⟨N', gy, ry⟩ := wk.yld Hc (ex.trans pr.ex) i (enc xs[i]) x H' (by rw [List.getElem?_map, hxi]; rfl) y
    obtain ⟨M2, gm, em⟩ := gy.more ex pr.ex (fun _ z => nomatch z)
    have po2 : Po T M Hc n' 0 M2 H' n' := Po.pure pr.tin gm
    have pr2 := pr.next po2
    refine hgk xs[i] (List.getElem_mem hlt) T M2 σ' ρ' H' x pr2.env pr2.ex (ry.mono em) _ fun σ3 env3 _ => ?_
    have po3 : Po T G0 H0 n0 (c0 + (c1 + i * c2)) M2 H' n' := (po.trans po2).weak (by omega)
    refine hb i xs[i] ρ' hxi M2 H0 n0 (c0 + (c1 + i * c2)) M2 σ3 H' n' (hst i ρ' _ _ _ _ _ hI gm.lift) ⟨env3, pr2.ex, pr2.tin⟩ ⟨po3.gr.rebase, po3.tin, po3.le⟩ (by omega) _ (fun ρ4 N4 σ4 H4 n4 hp4 pr4 o4 => ?_) (fun v d N4 H4 n4 hr4 r4 o4 => ?_)
    · exact ⟨hlt, ρ4, N4, n4, hp4, pr4, ⟨po3.gr.comb o4.gr, o4.tin, by have := o4.le; omega⟩, (ex.trans gm.gn).trans o4.gr.gn⟩
    · exact q2 v d N4 H4 n4 hr4 r4 ⟨po3.gr.comb o4.gr, o4.tin, by have := o4.le; omega⟩
  · have ei : i = xs.length := by omega
    subst ei
    have hmul : xs.length * c2 ≤ m * c2 := Nat.mul_le_mul_right _ hm
    refine .inl ⟨by have := wk.stop Hc (ex.trans pr.ex); rw [List.length_map] at this; exact this, ?_⟩
    exact hd ρ' G0 H0 n0 (c0 + (c1 + xs.length * c2)) M σ' Hc n' hI pr po (by omega) D (fun ρ4 N4 σ4 H4 n4 hp4 pr4 o4 => q1 ρ4 N4 σ4 H4 n4 hp4 pr4 (o4.weak (by omega))) (fun v d N4 H4 n4 hr4 r4 o4 => q2 v d N4 H4 n4 hr4 r4 (o4.weak (by omega)))
end
end Pn

set_option Elab.async false
set_option linter.all false
set_option maxRecDepth 100000
set_option maxHeartbeats 4000000
/-! PnA: the program's small defs. -/
namespace Pn
open PySem PySem.Spec PyProof.Rows L2

/-! ### what they give -/
def F_is_number : List PyData → PyData → Prop := fun ds r => ∃ d, ds = [d] ∧ r = .bool (isNumD d)
def lenTupD (d : PyData) (n : Int) : Bool := match d with
  | .tuple ds => decide ((ds.length : Int) = n)
  | _ => false
def F_is_tuple_of : List PyData → PyData → Prop := fun ds r => ∃ d n, ds = [d, .int n] ∧ r = .bool (lenTupD d n)
mutual
def tupOf : PyData → PyData
  | .list ds => .tuple (tupOfL ds)
  | .tuple ds => .tuple (tupOfL ds)
  | d => d
def tupOfL : List PyData → List PyData
  | [] => []
  | d :: ds => tupOf d :: tupOfL ds
end
theorem tupOfL_map : ∀ ds : List PyData, tupOfL ds = ds.map tupOf
  | [] => by simp [tupOfL]
  | d :: ds => by simp [tupOfL, tupOfL_map ds]
theorem tupOf_list (ds : List PyData) : tupOf (.list ds) = .tuple (ds.map tupOf) := by rw [tupOf, tupOfL_map]
theorem tupOf_tuple (ds : List PyData) : tupOf (.tuple ds) = .tuple (ds.map tupOf) := by rw [tupOf, tupOfL_map]
/-- not deeper than n, no list longer than the line -/
def Flat : Nat → PyData → Prop
  | 0, d => flatD d = true
  | n + 1, .list ds => ds.length ≤ 1000 ∧ ∀ d ∈ ds, Flat n d
  | n + 1, .tuple ds => ds.length ≤ 1000 ∧ ∀ d ∈ ds, Flat n d
  | _ + 1, d => flatD d = true
theorem Flat.list {n : Nat} {ds : List PyData} (h : Flat n (.list ds)) : ∃ m, n = m + 1 ∧ ds.length ≤ 1000 ∧ ∀ d ∈ ds, Flat m d := by
  cases n with
  | zero => exact absurd (show flatD (.list ds) = true from h) Bool.false_ne_true
  | succ m => exact ⟨m, rfl, h⟩
theorem Flat.tuple {n : Nat} {ds : List PyData} (h : Flat n (.tuple ds)) : ∃ m, n = m + 1 ∧ ds.length ≤ 1000 ∧ ∀ d ∈ ds, Flat m d := by
  cases n with
  | zero => exact absurd (show flatD (.tuple ds) = true from h) Bool.false_ne_true
  | succ m => exact ⟨m, rfl, h⟩
def F_tuple_of (n : Nat) : List PyData → PyData → Prop := fun ds r => ∃ d, ds = [d] ∧ Flat n d ∧ r = tupOf d

section
variable {P : Program} {w : World} {K : PySem.W.Frag} {mg : Str → Option Value} {base : Heap} {f : Addr} {fd : FuncData}
theorem dn_is_number (hB : Bt mg) (hf : FnP K "is_number" s_is_number f fd) (hm : mg "is_number" = some (.ref f)) : Dn P w K mg base 1 "is_number" p_is_number (spD F_is_number) := by
  refine dn_pure hf hm hB sc_is_number (hf.bindsN fun _ _ _ _ _ _ us hl => match us, hl with | [_], _ => rfl) (fun ds d h => ?_) (fun cdv A outer s H E gd ds r h => ?_)
  · obtain ⟨d, rfl, _⟩ := h
    rfl
  · obtain ⟨d, rfl, rfl⟩ := h
    refine run_ret (Ev.to (e_and (e_isInt gd (nm 0)) fun _ => e_one (e_not (e_isBool gd (nm 0)))) ?_)
    rw [isNum_eq]
theorem dn_is_tuple_of (hB : Bt mg) (hf : FnP K "is_tuple_of" s_is_tuple_of f fd) (hm : mg "is_tuple_of" = some (.ref f)) : Dn P w K mg base 1 "is_tuple_of" p_is_tuple_of (spD F_is_tuple_of) := by
  refine dn_pure hf hm hB sc_is_tuple_of (hf.bindsN fun _ _ _ _ _ _ us hl => match us, hl with | [_, _], _ => rfl) (fun ds d h => ?_) (fun cdv A outer s H E gd ds r h => ?_)
  · obtain ⟨d, n, rfl, _⟩ := h
    rfl
  · obtain ⟨d, n, rfl, rfl⟩ := h
    cases d with
    | tuple ds => exact run_ret (Ev.to (e_and (e_isTup gd (nm 0)) fun _ => e_one (e_cmp (e_lenT gd (nm 0)) (nm 1) (b2_eqI))) (by rfl))
    | _ => exact run_ret (Ev.to (e_and (u := false) (e_isTup gd (nm 0)) fun h => by cases h) (by rfl))
theorem dn_tuple_of (hB : Bt mg) (hf : FnP K "tuple_of" s_tuple_of f fd) (hm : mg "tuple_of" = some (.ref f)) : ∀ n, Dn P w K mg base (n + 1) "tuple_of" p_tuple_of (spD (F_tuple_of n)) := by
  intro n
  induction n with
  | zero =>
    refine dn_pure hf hm hB sc_tuple_of (hf.bindsN fun _ _ _ _ _ _ us hl => match us, hl with | [_], _ => rfl) (fun ds d h => ?_) (fun cdv A outer s H E gd ds r h => ?_)
    · obtain ⟨d, rfl, _⟩ := h
      rfl
    · obtain ⟨d, rfl, hd, rfl⟩ := h
      refine run_ifRet (b := false) (eb_val (Ev.to (e_isi2 gd (by rfl) (nm 0) (by rfl) gd.bt.list PyProof.Rows.boot_list (by rfl) gd.bt.tuple PyProof.Rows.boot_tuple (kit_list d) (kit_tuple d)) ?_)) (fun h => by cases h) fun _ => ?_
      · cases d <;> first | rfl | exact absurd hd Bool.false_ne_true
      · refine run_ret (Ev.to (nm 0) ?_)
        cases d <;> first | rfl | exact absurd hd Bool.false_ne_true
  | succ n ih =>
    refine dn_pure hf hm hB sc_tuple_of (hf.bindsN fun _ _ _ _ _ _ us hl => match us, hl with | [_], _ => rfl) (fun ds d h => ?_) (fun cdv A outer s H E gd ds r h => ?_)
    · obtain ⟨d, rfl, _⟩ := h
      rfl
    · obtain ⟨d, rfl, hd, rfl⟩ := h
      refine run_ifRet (b := isListD d || isTupD d) (eb_val (e_isi2 gd (by rfl) (nm 0) (by rfl) gd.bt.list PyProof.Rows.boot_list (by rfl) gd.bt.tuple PyProof.Rows.boot_tuple (kit_list d) (kit_tuple d))) (fun h => ?_) fun h => ?_
      · have key : ∃ ds, (d = .list ds ∨ d = .tuple ds) ∧ ds.length ≤ 1000 ∧ (∀ d ∈ ds, Flat n d) ∧ tupOf d = .tuple (ds.map tupOf) := by
          cases d with
          | list ds =>
            obtain ⟨m, em, hl, hall⟩ := hd.list
            cases em
            exact ⟨ds, .inl rfl, hl, hall, tupOf_list ds⟩
          | tuple ds =>
            obtain ⟨m, em, hl, hall⟩ := hd.tuple
            cases em
            exact ⟨ds, .inr rfl, hl, hall, tupOf_tuple ds⟩
          | _ => cases h
        obtain ⟨ds, hd', hl, hall, e⟩ := key
        rw [e]
        refine run_ret (e_tupleL gd (e_lcN (Nn := n_tuple_of) (sc := defScope s_tuple_of) gd 1 rfl rfl id ds (by omega) ?_ tupOf fun a ha s H C cl fp => ?_))
        · rw [List.map_id]
          rcases hd' with rfl | rfl
          · exact i_list (nm 0)
          · exact i_tup (nm 0)
        · exact e_call ih gd.blk (Nat.le_refl _) (by rfl) (a_cons (nm 1) a_nil) ⟨a, rfl, hall a ha, rfl⟩
      · refine run_ret (Ev.to (nm 0) ?_)
        cases d <;> first | rfl | cases h
end
end Pn

set_option Elab.async false
set_option linter.all false
set_option maxRecDepth 100000
set_option maxHeartbeats 4000000
/-! PnB: the program's defs over layouts. -/
namespace Pn
open PySem PySem.Spec PyProof.Rows L2

/-! ### plain -/
structure Lay (S : Int) (rows : List (List Int)) (L : Nat) : Prop where
  S1 : 1 ≤ S
  S2 : S ≤ 1000
  ne : rows ≠ []
  nb : rows.length ≤ 1000
  len : ∀ r ∈ rows, r.length = L
  L1 : 1 ≤ L
  L2 : L ≤ 1000
def Grp (rows : List (List Int)) (g : List Int) : Prop := g.length ≤ 1000 ∧ ∀ p ∈ g, 0 ≤ p ∧ p < rows.length
def exAt (rows : List (List Int)) (g : List Int) (w : Nat) : Int := (g.map fun p => (rows.getD p.toNat []).getD w 0).sum
def exRow (rows : List (List Int)) (L : Nat) (g : List Int) : List Int := (List.range L).map (exAt rows g)
abbrev Bd1 := Option (Int × Int)
def bnd (S off own : Int) : Bd1 := if max 0 (0 - (off - own) / S) ≤ (own + off) / S then some (max 0 (0 - (off - own) / S), (own + off) / S) else none
def bndD : Bd1 → PyData
  | none => .none
  | some (a, b) => .tuple [.int a, .int b]
def bounds (S off : Int) (wide : List Int) : List Bd1 := some (0, 0) :: (wide.drop 1).map (bnd S off)
def tbl (S off : Int) (rows : List (List Int)) (L : Nat) (split : List (List Int)) : List (List Bd1) := split.map fun g => bounds S off (exRow rows L g)
def bsD (b : List Bd1) : PyData := .list (b.map bndD)
def tblD (t : List (List Bd1)) : PyData := .list (t.map bsD)
theorem exRow_length (rows : List (List Int)) (L : Nat) (g : List Int) : (exRow rows L g).length = L := by simp [exRow]
theorem bounds_length {S off : Int} {wide : List Int} (h : 1 ≤ wide.length) : (bounds S off wide).length = wide.length := by
  simp [bounds]
  omega

/-! ### list lemmas -/
theorem atI_in {α : Type} {xs : List α} {i : Int} (d : α) (h0 : 0 ≤ i) (h1 : i < xs.length) : atI xs i = some (xs.getD i.toNat d) := by
  have e : i = ((i.toNat : Nat) : Int) := by omega
  rw [e]
  rw [atI_nat (v := xs.getD i.toNat d)]
  · rfl
  · rw [List.getD_eq_getElem?_getD, List.getElem?_eq_getElem (by omega)]
    rfl
theorem cutL_from {α : Type} (xs : List α) (k : Nat) : cutL xs (some (k : Int)) none = xs.drop k := by
  unfold cutL
  rw [HT.sIx_nat, HT.sIx_none]
  rcases Nat.le_total k xs.length with h | h
  · rw [Nat.min_eq_left h]
    exact List.take_of_length_le (by rw [List.length_drop]; exact Nat.le_refl _)
  · rw [Nat.min_eq_right h, List.drop_eq_nil_of_le h]
    simp
theorem cutL_to {α : Type} (xs : List α) (k : Nat) : cutL xs none (some (k : Int)) = xs.take k := by
  unfold cutL
  rw [HT.sIx_nat, HT.sIx_none]
  rcases Nat.le_total k xs.length with h | h
  · rw [Nat.min_eq_left h]
    simp
  · rw [Nat.min_eq_right h, List.take_of_length_le h]
    simp
theorem rangeD0 (n : Nat) : rangeD 0 n = (List.range n).map fun (i : Nat) => PyData.int (i : Int) := by
  unfold rangeD
  exact List.map_congr_left fun i _ => by rw [Int.zero_add]
theorem Stb.and {T : Option Addr} {φ : Prop} {Ω : Om} (h : Stb T Ω) : Stb T (fun H0 N H => φ ∧ Ω H0 N H) := fun H0 N H N' H' ⟨a, b⟩ g => ⟨a, h _ _ _ _ _ b g⟩
theorem Stb.triv {T : Option Addr} : Stb T (fun _ _ _ => True) := fun _ _ _ _ _ _ _ => True.intro
section
variable {X : Cx} {k : Nat} {ρ : List Sl} {tg e e2 : Expr} {p pos tpos : Pos}
/-- range(n), n a length -/
theorem i_rangeN {n : Nat} (hX : Good X k) (h : E X e ρ (.int (n : Int))) (hn : n ≤ 100000) (hg : Gl X "range" := by rfl) (hs : starEach [e] X.env = [(false, eval e X.env)] := by rfl) (hs1 : starEach [e] X.env = (false, eval e X.env) :: starEach [] X.env := by exact se_cons rfl) :
    Ei0 X tg (.Call (.Name "range" p) [e] [] pos) ρ ((List.range n).map fun (i : Nat) => PyData.int (i : Int)) := by
  rw [← rangeD0]
  exact i_range1 (n := (n : Int)) hX hg (a_cons h a_nil hs1) (by omega) (by omega) hs
/-- range(1, n) -/
theorem i_range1N {n : Nat} (hX : Good X k) (h1 : E X e ρ (.int 1)) (h : E X e2 ρ (.int (n : Int))) (hn : n ≤ 100000) (hg : Gl X "range" := by rfl) (hs : starEach [e, e2] X.env = [(false, eval e X.env), (false, eval e2 X.env)] := by rfl) (hs2 : starEach [e2] X.env = [(false, eval e2 X.env)] := by rfl)
    (hs3 : starEach [e, e2] X.env = (false, eval e X.env) :: starEach [e2] X.env := by exact se_cons rfl) (hs4 : starEach [e2] X.env = (false, eval e2 X.env) :: starEach [] X.env := by exact se_cons rfl) :
    Ei0 X tg (.Call (.Name "range" p) [e, e2] [] pos) ρ ((List.range (n - 1)).map fun (i : Nat) => PyData.int ((i : Int) + 1)) := by
  have e : (List.range (n - 1)).map (fun (i : Nat) => PyData.int ((i : Int) + 1)) = rangeD 1 ((n : Int) - 1).toNat := by
    unfold rangeD
    rw [show ((n : Int) - 1).toNat = n - 1 by omega]
    exact List.map_congr_left fun i _ => by rw [Int.add_comm]
  rw [e]
  exact i_range2 (m := 1) (n := (n : Int)) hX hg (a_cons h1 (a_cons h a_nil hs4) hs3) (by omega) (by omega) (by omega) (by omega) hs hs2
end

/-! ### promises -/
def F_exact_row : List PyData → PyData → Prop := fun ds r => ∃ S rows L g, ds = [layD S rows, tupI g] ∧ Lay S rows L ∧ Grp rows g ∧ r = lstI (exRow rows L g)
def F_bounds_by : List PyData → PyData → Prop := fun ds r => ∃ S wide off, ds = [.int S, lstI wide, .int off] ∧ 1 ≤ S ∧ S ≤ 1000 ∧ wide.length ≤ 1000 ∧ r = bsD (bounds S off wide)
def F_table_of : List PyData → PyData → Prop := fun ds r => ∃ S rows L split off, ds = [layD S rows, tupII split, .int off] ∧ Lay S rows L ∧ split.length ≤ 1000 ∧ (∀ g ∈ split, Grp rows g) ∧ r = tblD (tbl S off rows L split)

section
variable {P : Program} {w : World} {K : PySem.W.Frag} {mg : Str → Option Value} {base : Heap} {f : Addr} {fd : FuncData}
/-- layout[1][pane][width] and the widths, in a context where the layout stands at slot 0 -/
theorem rows_at {X : Cx} {ρ : List Sl} {S : Int} {rows : List (List Int)} {L : Nat} {p : Int} {w : Nat} {e1 e2 e3 : Expr} {p1 p2 p3 pc : Pos} {kc : Nat} (hL : Lay S rows L) (h1 : E X e1 ρ (layD S rows)) (h2 : E X e2 ρ (.int p)) (h3 : E X e3 ρ (.int (w : Int)))
    (hp : 0 ≤ p ∧ p < rows.length) (hw : w < L) (hs2 : PlainIx e2 := by exact fun _ _ => rfl) (hs3 : PlainIx e3 := by exact fun _ _ => rfl) :
    E X (.Subscript (.Subscript (.Subscript e1 (.Constant (.int 1) kc pc) p1) e2 p2) e3 p3) ρ (.int ((rows.getD p.toNat []).getD w 0)) := by
  have hm : rows.getD p.toNat [] ∈ rows := by
    rw [List.getD_eq_getElem?_getD, List.getElem?_eq_getElem (show p.toNat < rows.length by omega)]
    exact List.getElem_mem _
  refine e_ix (e_ix (e_ix h1 e_int (d := .tuple (rows.map tupI)) (bx_tup rfl)) h2 (bx_mapT (enc := tupI) (atI_in [] hp.1 hp.2)) hs2) h3 (bx_tupI ?_) hs3
  have := atI_in (xs := rows.getD p.toNat []) (i := (w : Int)) 0 (by omega) (by rw [hL.len _ hm]; omega)
  rw [this]
  rfl
theorem len_widths {X : Cx} {k : Nat} {ρ : List Sl} {S : Int} {rows : List (List Int)} {L : Nat} {e1 : Expr} {p1 p2 p3 p4 pc pc2 : Pos} {kc kc2 : Nat} (hX : Good X k) (hL : Lay S rows L) (h1 : E X e1 ρ (layD S rows)) (hg : Gl X "len" := by rfl)
    (hs : starEach [.Subscript (.Subscript e1 (.Constant (.int 1) kc pc) p1) (.Constant (.int 0) kc2 pc2) p2] X.env = (false, eval (.Subscript (.Subscript e1 (.Constant (.int 1) kc pc) p1) (.Constant (.int 0) kc2 pc2) p2) X.env) :: starEach [] X.env := by exact se_cons rfl) :
    E X (.Call (.Name "len" p3) [.Subscript (.Subscript e1 (.Constant (.int 1) kc pc) p1) (.Constant (.int 0) kc2 pc2) p2] [] p4) ρ (.int (L : Int)) := by
  have hl : 0 < rows.length := List.length_pos_iff.mpr hL.ne
  have hm : rows.getD 0 [] ∈ rows := by
    rw [List.getD_eq_getElem?_getD, List.getElem?_eq_getElem hl]
    exact List.getElem_mem _
  have h := e_lenT (ds := (rows.getD 0 []).map PyData.int) (p := p3) (pos := p4) hX (e_ix (e_ix h1 e_int (d := .tuple (rows.map tupI)) (bx_tup rfl)) e_int (bx_mapT (enc := tupI) (atI_in [] (by omega) (show (0 : Int) < rows.length by omega)))) hg hs
  rw [List.length_map, hL.len _ hm] at h
  exact h
theorem dn_exact_row (hB : Bt mg) (hf : FnP K "exact_row" s_exact_row f fd) (hm : mg "exact_row" = some (.ref f)) : Dn P w K mg base 1 "exact_row" p_exact_row (spD F_exact_row) := by
  refine dn_pure hf hm hB sc_exact_row (hf.bindsN fun _ _ _ _ _ _ us hl => match us, hl with | [_, _], _ => rfl) (fun ds d h => ?_) (fun cdv A0 outer s H X0 gd ds r h => ?_)
  · obtain ⟨S, rows, L, g, rfl, _⟩ := h
    rfl
  · obtain ⟨S, rows, L, g, rfl, hL, hg, rfl⟩ := h
    refine run_ret (Ev.to (e_lcN (Nn := n_exact_row) (sc := defScope s_exact_row) gd 2 rfl rfl (fun (i : Nat) => .int (i : Int)) (List.range L) (by have := hL.L2; simp; omega) (i_rangeN gd (len_widths gd hL (nm 0)) (by have := hL.L2; omega)) (fun i => .int (exAt rows g i)) fun i hi s H C cl fp => ?_) ?_)
    · have hi' : i < L := List.mem_range.mp hi
      refine e_sum gd.blk (Ev.to (e_lcN (Nn := n_exact_row) gd.blk 3 rfl (sc_blk (sc := defScope s_exact_row) rfl) PyData.int g (by have := hg.1; omega) (i_tup (nm 1)) (fun p => .int ((rows.getD p.toNat []).getD i 0)) fun p hp s2 H2 C2 cl2 fp2 => ?_) ?_)
      · exact rows_at hL (nm 0) (nm 3) (nm 2) (hg.2 p hp) hi'
      · rw [List.map_map]
        rfl
    · unfold lstI exRow
      rw [List.map_map]
      rfl
theorem dn_bounds_by (hB : Bt mg) (hf : FnP K "bounds_by" s_bounds_by f fd) (hm : mg "bounds_by" = some (.ref f)) : Dn P w K mg base 1 "bounds_by" p_bounds_by (spD F_bounds_by) := by
  refine dn_pure hf hm hB sc_bounds_by (hf.bindsN fun _ _ _ _ _ _ us hl => match us, hl with | [_, _, _], _ => rfl) (fun ds d h => ?_) (fun cdv A0 outer s H X0 gd ds r h => ?_)
  · obtain ⟨S, wide, off, rfl, _⟩ := h
    rfl
  · obtain ⟨S, wide, off, rfl, hS, hS2, hw, rfl⟩ := h
    refine rx_start (Ω := fun _ _ _ => True) (Ψ := fun _ _ _ _ => False) ?_ (fun _ _ => True.intro) (fun _ _ _ _ h => h.elim)
    refine rx_own (c1 := 0) (c2 := 0) (i := 3) gd rfl Stb.triv (enew_lst (a_cons (e_tup (a_cons e_int (a_cons e_int a_nil))) a_nil) (fun ds e => by rw [e]; decide)) fun ds e p => ?_
    subst e
    refine rx_imp (Ω' := Own none p [.tuple [.int 0, .int 0]]) (fun _ _ _ h => h.2) ?_
    refine rx_for (α := Int) (c1 := 0) (c2 := 0) (c3 := 0) (Pd := fun z => z = cutL (wide.map PyData.int) (some 1) none) gd .never (pg_name (i := 4) gd.nd rfl (.inl rfl)) Own.stb (i_list (e_sliceL (nm 1) (l := some 1) (u := none) (by exact e_int) (by exact True.intro))) wide.length (fun ds e => ?_) (by omega)
    subst e
    refine ⟨PyData.int, wide.drop 1, [4], fun a ρ => ρ.set 4 (.dat (.int a)), fun i ρ' H0 N H => (∃ a b c, ρ' = [.dat (.int S), .dat (lstI wide), .dat (.int off), .raw (.ref p), a, b, c]) ∧ Own none p (((bounds S off wide).take (i + 1)).map bndD) H0 N H, ?_, by rw [List.length_drop]; omega, fun _ _ => gok_name, fun _ _ => Own.stb.and, fun _ _ _ h => ⟨⟨_, _, _, rfl⟩, h⟩, fun i a ρ' ha => ?_, fun ρ' => ?_⟩
    · rw [show (some 1 : Option Int) = some ((1 : Nat) : Int) from rfl, cutL_from, List.map_drop]
    · refine rx_pure (fun _ _ _ h => h.1) fun ⟨x, y, z, hρ⟩ => ?_
      subst hρ
      refine rx_imp (fun _ _ _ h => h.2) ?_
      refine rx_par2 (c1 := 0) (c2 := 0) (i := 5) (j := 6) gd rfl rfl Own.stb (a_cons (e_max2 gd e_int (e_bin e_int (e_bin (e_bin (nm 2) (nm 4) b2_sub) (nm 0) (b2_fdiv ⟨by omega, by omega⟩)) b2_sub)) (a_cons (e_bin (e_bin (nm 4) (nm 2) b2_add) (nm 0) (b2_fdiv ⟨by omega, by omega⟩)) a_nil)) fun ds e => ⟨_, _, e, ?_⟩
      refine rx_append1 (i := 3) (c1 := 0) (c2 := 0) (P := fun z => z = bndD (bnd S off a)) rfl rfl (.inl (e_if (eb_cmp (nm 5) (nm 6) b2_le) (fun h => Ev.to (e_tup (a_cons (nm 5) (a_cons (nm 6) a_nil))) ?_) (fun h => Ev.to e_non ?_))) ?_ fun d hd => rx_nil fun _ _ _ h => ⟨⟨_, _, _, rfl⟩, ?_⟩
      · unfold bnd
        rw [if_pos (of_decide_eq_true h)]
        rfl
      · unfold bnd
        rw [if_neg (of_decide_eq_false h)]
        rfl
      · rw [List.length_map, List.length_take]
        have : (wide.drop 1)[i]?.isSome := by rw [ha]; rfl
        have h2 : i < (wide.drop 1).length := by
          obtain ⟨h, _⟩ := List.getElem?_eq_some_iff.mp ha
          exact h
        rw [List.length_drop] at h2
        omega
      · subst hd
        have e : (bounds S off wide)[i + 1]? = some (bnd S off a) := by
          show ((wide.drop 1).map (bnd S off))[i]? = _
          rw [List.getElem?_map, ha]
          rfl
        rw [List.take_add_one, e, List.map_append]
        exact h
    · refine rx_pure (fun _ _ _ h => h.1) fun ⟨x, y, z, hρ⟩ => ?_
      subst hρ
      refine rx_imp (fun _ _ _ h => h.2) ?_
      refine rx_freeze (p := p) (i := 3) rfl (fun _ _ _ h => h) (run_ret (Ev.to (nm 3) ?_))
      rw [List.take_of_length_le (by simp [bounds])]
      rfl
end
end Pn

set_option Elab.async false
set_option linter.all false
set_option maxRecDepth 100000
set_option maxHeartbeats 4000000
/-! PnC: tables, sums over tables, offs. -/
namespace Pn
open PySem PySem.Spec PyProof.Rows L2

/-! ### defs whose result is one of several -/
def spS (F : List PyData → (PyData → Prop) → Prop) : L2.Sp := fun vs H Q _ => ∃ G ds Pd, Ex G H ∧ RpA G vs ds ∧ F ds Pd ∧ ∀ v d N H', Pd d → Gr none G H N H' → Rp N v d → Q v H'
section
variable {P : Program} {w : World} {K : PySem.W.Frag} {mg : Str → Option Value} {base : Heap}
theorem dn_pureS {x : Str} {st : Stmt} {f : Addr} {fd : FuncData} {N ps : List Str} {k : Nat} {F : List PyData → (PyData → Prop) → Prop} (hf : FnP K x st f fd) (hm : mg x = some (.ref f)) (hB : Bt mg) (S : FnScope N ps (defScope st)) (hb : Binds K fd ps [])
    (hF : ∀ ds d, F ds d → ds.length = ps.length)
    (hrun : ∀ (cdv : Value) (A : Around) (outer : List Env) (s : Shared) (H : Hp) (E : XK), Good (cxD P w K mg base N x (defScope st) f cdv A outer s H E) k → ∀ ds Pd, F ds Pd →
      Run (cxD P w K mg base N x (defScope st) f cdv A outer s H E) none 0 (defBody st) (startS N.length ds) (fun _ => Pd .none) Pd) : Dn P w K mg base (k + 1) x ps (spS F) := by
  refine ⟨f, fd, ?_, hm, hf.kp, hb⟩
  refine hf.ok S (fun vs H Q E h => ?_) (fun cdv A outer s H vs Q E hr h => ?_)
  · obtain ⟨G, ds, d, _, r, hFd, _⟩ := h
    rw [r.length]
    exact hF ds d hFd
  · obtain ⟨G, ds, Pd, ex, r, hFd, q⟩ := h
    have gd : Good (cxD P w K mg base N x (defScope st) f cdv A outer s H E) k := ⟨rfl, S.nd, hB, hr⟩
    refine ⟨_, (wss _).nox, hrun cdv A outer s H E gd ds Pd hFd G (L2.start N vs) H 0 ⟨EnvOk.start r, ex, TinOk.none⟩ (Nat.zero_le _) _ (fun ρ' N2 σ' H2 n2 hp pr o => ?_) (fun v d' N2 H2 n2 hr' r' o => ?_)⟩
    · exact q .non .none N2 H2 hp o.gr .non
    · exact q v d' N2 H2 hr' o.gr r'
end
section
variable {X : Cx} {T : Option Addr} {c j k : Nat} {x : Str} {ps : List Str} {e : Expr} {es : List Expr} {ρ : List Sl} {p pos : Pos} {ds : List PyData} {P : PyData → Prop}
theorem ev_callS {F : List PyData → (PyData → Prop) → Prop} (D : Dn X.prog X.w X.K X.mg X.base j x ps (spS F)) (hX : Good X k) (hj : j ≤ k) (hg : Gl X x) (ha : A X (e :: es) ρ ds) (hF : F ds P)
    (hdb : (x == ("__debug__" : Str)) = false := by decide) (he : starEach (e :: es) X.env = (false, eval e X.env) :: starEach es X.env := by exact se_cons rfl) (hpl : (backTo pos (starEach es X.env)).any (·.1) = false := by rfl) :
    Ev X T c (.Call (.Name x p) (e :: es) [] pos) ρ P := fun G σ H n pr hn Q q => by
  obtain ⟨f, fd, FO, hm, hk, hb⟩ := D.ex
  refine WE.of (pe_call FO (hX.room.mono hj) hg hm hk hb .nil pass0 (wa _) hdb he hpl) ?_
  refine ha.lift (T := T) (c := c) G σ H n pr hn _ fun vs ds' N H1 n1 e1 o1 r1 => ?_
  subst e1
  refine ⟨N, _, P, o1.gr.nh, by rw [List.append_nil]; exact r1, hF, fun v d N2 H2 hd g r => ?_⟩
  exact q v d N2 H2 n1 hd ((o1.trans (Po.pure (c := 0) o1.tin g)).weak (by omega)) r
end
def enumL {α : Type} : Nat → List α → List (Nat × α)
  | _, [] => []
  | n, a :: as => (n, a) :: enumL (n + 1) as
theorem enumL_map {α : Type} (enc : α → PyData) : ∀ (xs : List α) (n : Nat), enumFrom n (xs.map enc) = (enumL n xs).map fun p => PyData.tuple [.int (p.1 : Int), enc p.2]
  | [], _ => rfl
  | a :: as, n => by
    show PyData.tuple [.int n, enc a] :: enumFrom (n + 1) (as.map enc) = _
    rw [enumL_map enc as (n + 1)]
    rfl
theorem enumL_length {α : Type} : ∀ (xs : List α) (n : Nat), (enumL n xs).length = xs.length
  | [], _ => rfl
  | a :: as, n => congrArg (· + 1) (enumL_length as (n + 1))
theorem enumL_get {α : Type} : ∀ {xs : List α} {n i : Nat} {p : Nat × α}, (enumL n xs)[i]? = some p → xs[i]? = some p.2 ∧ p.1 = n + i
  | [], _, _, _, h => by simp [enumL] at h
  | a :: as, n, 0, p, h => by
    have e : (n, a) = p := Option.some.inj h
    subst e
    exact ⟨rfl, rfl⟩
  | a :: as, n, i + 1, p, h => by
    obtain ⟨h1, h2⟩ := enumL_get (xs := as) (n := n + 1) (i := i) (p := p) h
    exact ⟨h1, by omega⟩

/-! ### plain -/
def bare (t : List (List Bd1)) : Bool := t.any fun b => b.any Option.isNone
def at1 (b : List Bd1) (i : Nat) : Int × Int := (b.getD i none).getD (0, 0)
def mustIn (t : List (List Bd1)) (lo hi : Nat) : Int := (t.map fun b => max 0 ((at1 b hi).1 - (at1 b lo).2)).sum
def canIn (t : List (List Bd1)) (lo hi : Nat) : Int := (t.map fun b => max 0 ((at1 b hi).2 - (at1 b lo).1)).sum
def offI (S : Int) (rows : List (List Int)) (L : Nat) (g row : List Int) : Int := maxL ((List.range L).map fun w => absI (row.getD w 0 * S - exAt rows g w))
def TbOk (t : List (List Bd1)) (L : Nat) : Prop := t.length ≤ 1000 ∧ L ≤ 1000 ∧ ∀ b ∈ t, b.length = L
def F_bare_in : List PyData → (PyData → Prop) → Prop := fun ds Pd => ∃ t L, ds = [tblD t] ∧ TbOk t L ∧ Pd = fun z => isNoneD z = !bare t
def F_must_in : List PyData → PyData → Prop := fun ds r => ∃ t L lo hi, ds = [tblD t, .int (lo : Nat), .int (hi : Nat)] ∧ TbOk t L ∧ bare t = false ∧ lo < L ∧ hi < L ∧ r = .int (mustIn t lo hi)
def F_can_in : List PyData → PyData → Prop := fun ds r => ∃ t L lo hi, ds = [tblD t, .int (lo : Nat), .int (hi : Nat)] ∧ TbOk t L ∧ bare t = false ∧ lo < L ∧ hi < L ∧ r = .int (canIn t lo hi)
def F_off_in : List PyData → PyData → Prop := fun ds r => ∃ S rows L g row, ds = [layD S rows, tupI g, tupI row] ∧ Lay S rows L ∧ Grp rows g ∧ row.length = L ∧ r = .int (offI S rows L g row)
theorem at1_some {t : List (List Bd1)} {L : Nat} (h : TbOk t L) (hb : bare t = false) {b : List Bd1} (hm : b ∈ t) {i : Nat} (hi : i < L) : b.getD i none = some (at1 b i) := by
  have hl : i < b.length := by rw [h.2.2 b hm]; exact hi
  have e : b.getD i none = b[i] := by rw [List.getD_eq_getElem?_getD, List.getElem?_eq_getElem hl]; rfl
  unfold at1
  rw [e]
  have hn : (b[i]).isNone = false := by
    unfold bare at hb
    rw [List.any_eq_false] at hb
    have h1 := hb b hm
    rw [Bool.not_eq_true, List.any_eq_false] at h1
    have h2 := h1 b[i] (List.getElem_mem hl)
    rwa [Bool.not_eq_true] at h2
  cases q : b[i] with
  | none => rw [q] at hn; cases hn
  | some pr => rfl
section
variable {P : Program} {w : World} {K : PySem.W.Frag} {mg : Str → Option Value} {base : Heap} {f : Addr} {fd : FuncData}
theorem dn_table_of (hB : Bt mg) (D1 : Dn P w K mg base 1 "exact_row" p_exact_row (spD F_exact_row)) (D2 : Dn P w K mg base 1 "bounds_by" p_bounds_by (spD F_bounds_by)) (hf : FnP K "table_of" s_table_of f fd) (hm : mg "table_of" = some (.ref f)) : Dn P w K mg base 2 "table_of" p_table_of (spD F_table_of) := by
  refine dn_pure hf hm hB sc_table_of (hf.bindsN fun _ _ _ _ _ _ us hl => match us, hl with | [_, _, _], _ => rfl) (fun ds d h => ?_) (fun cdv A0 outer s H X0 gd ds r h => ?_)
  · obtain ⟨S, rows, L, split, off, rfl, _⟩ := h
    rfl
  · obtain ⟨S, rows, L, split, off, rfl, hL, hs, hg, rfl⟩ := h
    refine run_ret (Ev.to (e_lcN (Nn := n_table_of) (sc := defScope s_table_of) gd 3 rfl rfl tupI split (by omega) (i_tup (nm 1)) (fun g => bsD (bounds S off (exRow rows L g))) fun g hgm s H C cl fp => ?_) ?_)
    · refine e_call D2 gd.blk (Nat.le_refl _) (by rfl) (a_cons (e_ix (nm 0) e_int (bx_tup rfl)) (a_cons (e_call D1 gd.blk (Nat.le_refl _) (by rfl) (a_cons (nm 0) (a_cons (nm 3) a_nil)) ⟨S, rows, L, g, rfl, hL, hg g hgm, rfl⟩) (a_cons (nm 2) a_nil))) ⟨S, exRow rows L g, off, rfl, hL.S1, hL.S2, by rw [exRow_length]; exact hL.L2, rfl⟩
    · unfold tblD tbl
      rw [List.map_map]
      rfl
theorem dn_bare_in (hB : Bt mg) (hf : FnP K "bare_in" s_bare_in f fd) (hm : mg "bare_in" = some (.ref f)) : Dn P w K mg base 1 "bare_in" p_bare_in (spS F_bare_in) := by
  refine dn_pureS hf hm hB sc_bare_in (hf.bindsN fun _ _ _ _ _ _ us hl => match us, hl with | [_], _ => rfl) (fun ds d h => ?_) (fun cdv A0 outer s H X0 gd ds r h => ?_)
  · obtain ⟨t, L, rfl, _⟩ := h
    rfl
  · obtain ⟨t, L, rfl, ht, rfl⟩ := h
    refine run_for (α := Nat × List Bd1) (c1 := 0) (c2 := 0) (c3 := 0) (Pd := fun z => z = enumFrom 0 (t.map bsD)) gd .never (pg_tup gd.calm (pgs_cons (pg_name (i := 1) gd.nd rfl (.inl rfl)) (pgs_cons (pg_name (i := 2) gd.nd rfl (.inl rfl)) pgs_nil))) (i_enumL gd (by rfl) (a_cons (nm 0) a_nil)) t.length (fun ds e => ?_) (by omega)
    subst e
    refine ⟨fun p => .tuple [.int (p.1 : Int), bsD p.2], enumL 0 t, [1, 2], fun p ρ => (ρ.set 1 (.dat (.int (p.1 : Int)))).set 2 (.dat (bsD p.2)), fun i ρ' => (∃ a b c d, ρ' = [.dat (tblD t), a, b, c, d]) ∧ bare (t.take i) = false, enumL_map bsD t 0, by rw [enumL_length]; exact Nat.le_refl _, fun _ _ => gok_tup2, ⟨⟨_, _, _, _, rfl⟩, rfl⟩, fun i a ρ' ha hI => ?_, fun ρ' hI => ?_⟩
    · obtain ⟨⟨x1, x2, x3, x4, rfl⟩, hb⟩ := hI
      obtain ⟨hti, _⟩ := enumL_get ha
      obtain ⟨n, b⟩ := a
      refine run_for (α := Nat × Bd1) (c1 := 0) (c2 := 0) (c3 := 0) (Pd := fun z => z = enumFrom 0 (b.map bndD)) gd .never (pg_tup gd.calm (pgs_cons (pg_name (i := 3) gd.nd rfl (.inl rfl)) (pgs_cons (pg_name (i := 4) gd.nd rfl (.inl rfl)) pgs_nil))) (i_enumL gd (by rfl) (a_cons (nm 2) a_nil)) b.length (fun ds e => ?_) (by omega)
      subst e
      refine ⟨fun p => .tuple [.int (p.1 : Int), bndD p.2], enumL 0 b, [3, 4], fun p ρ => (ρ.set 3 (.dat (.int (p.1 : Int)))).set 4 (.dat (bndD p.2)), fun i ρ' => (∃ c d, ρ' = [.dat (tblD t), .dat (.int (n : Int)), .dat (bsD b), c, d]) ∧ (b.take i).any Option.isNone = false, enumL_map bndD b 0, by rw [enumL_length]; exact Nat.le_refl _, fun _ _ => gok_tup2, ⟨⟨_, _, rfl⟩, rfl⟩, fun j o ρ2 ho hJ => ?_, fun ρ2 hJ => ?_⟩
      · obtain ⟨⟨y1, y2, rfl⟩, hj⟩ := hJ
        obtain ⟨hbj, _⟩ := enumL_get ho
        obtain ⟨m, o⟩ := o
        refine run_ifRet (b := isNoneD (bndD o)) (eb_cmp (nm 4) e_non b2_isN) (fun h => ?_) fun h => run_nil ⟨⟨_, _, rfl⟩, ?_⟩
        · refine run_ret (Ev.mono (e_tup (a_cons e_str (a_cons (nm 1) (a_cons (nm 3) a_nil)))) (fun z hz => ?_) (Nat.le_refl _))
          subst hz
          have hbare : bare t = true := by
            unfold bare
            refine List.any_eq_true.mpr ⟨b, List.mem_of_getElem? hti, List.any_eq_true.mpr ⟨o, List.mem_of_getElem? hbj, ?_⟩⟩
            cases o with
            | none => rfl
            | some pr => cases h
          rw [hbare]
          rfl
        · rw [List.take_add_one, hbj, List.any_append, hj]
          cases o with
          | none => cases h
          | some pr => rfl
      · obtain ⟨⟨y1, y2, rfl⟩, hj⟩ := hJ
        rw [enumL_length, List.take_length] at hj
        refine run_nil ⟨⟨_, _, _, _, rfl⟩, ?_⟩
        unfold bare at hb ⊢
        rw [List.take_add_one, hti, List.any_append, hb]
        show (false || ([b].any fun b => b.any Option.isNone)) = false
        rw [List.any_cons, hj]
        rfl
    · obtain ⟨⟨x1, x2, x3, x4, rfl⟩, hb⟩ := hI
      rw [enumL_length, List.take_length] at hb
      refine run_ret (Ev.mono e_non (fun z hz => ?_) (Nat.le_refl _))
      subst hz
      rw [hb]
      rfl
theorem dn_must_in (hB : Bt mg) (hf : FnP K "must_in" s_must_in f fd) (hm : mg "must_in" = some (.ref f)) : Dn P w K mg base 1 "must_in" p_must_in (spD F_must_in) := by
  refine dn_pure hf hm hB sc_must_in (hf.bindsN fun _ _ _ _ _ _ us hl => match us, hl with | [_, _, _], _ => rfl) (fun ds d h => ?_) (fun cdv A0 outer s H X0 gd ds r h => ?_)
  · obtain ⟨t, L, lo, hi, rfl, _⟩ := h
    rfl
  · obtain ⟨t, L, lo, hi, rfl, ht, hb, h1, h2, rfl⟩ := h
    refine run_ret (e_sum gd (Ev.to (e_lcN (Nn := n_must_in) (sc := defScope s_must_in) gd 3 rfl rfl bsD t (by have := ht.1; omega) (i_list (nm 0)) (fun b => .int (max 0 ((at1 b hi).1 - (at1 b lo).2))) fun b hbm s H C cl fp => ?_) ?_))
    · have hl := ht.2.2 b hbm
      refine e_max2 gd.blk e_int (e_bin (e_ix (e_ix (nm 3) (nm 2) (d := .tuple [.int (at1 b hi).1, .int (at1 b hi).2]) ?_) e_int (bx_tup rfl)) (e_ix (e_ix (nm 3) (nm 1) (d := .tuple [.int (at1 b lo).1, .int (at1 b lo).2]) ?_) e_int (bx_tup rfl)) b2_sub)
      · exact bx_mapL (enc := bndD) (xs := b) (i := (hi : Int)) (z := some (at1 b hi)) (by rw [atI_in none (by omega) (by omega), ← at1_some ht hb hbm h2]; rfl)
      · exact bx_mapL (enc := bndD) (xs := b) (i := (lo : Int)) (z := some (at1 b lo)) (by rw [atI_in none (by omega) (by omega), ← at1_some ht hb hbm h1]; rfl)
    · rw [List.map_map]
      rfl
theorem dn_can_in (hB : Bt mg) (hf : FnP K "can_in" s_can_in f fd) (hm : mg "can_in" = some (.ref f)) : Dn P w K mg base 1 "can_in" p_can_in (spD F_can_in) := by
  refine dn_pure hf hm hB sc_can_in (hf.bindsN fun _ _ _ _ _ _ us hl => match us, hl with | [_, _, _], _ => rfl) (fun ds d h => ?_) (fun cdv A0 outer s H X0 gd ds r h => ?_)
  · obtain ⟨t, L, lo, hi, rfl, _⟩ := h
    rfl
  · obtain ⟨t, L, lo, hi, rfl, ht, hb, h1, h2, rfl⟩ := h
    refine run_ret (e_sum gd (Ev.to (e_lcN (Nn := n_can_in) (sc := defScope s_can_in) gd 3 rfl rfl bsD t (by have := ht.1; omega) (i_list (nm 0)) (fun b => .int (max 0 ((at1 b hi).2 - (at1 b lo).1))) fun b hbm s H C cl fp => ?_) ?_))
    · have hl := ht.2.2 b hbm
      refine e_max2 gd.blk e_int (e_bin (e_ix (e_ix (nm 3) (nm 2) (d := .tuple [.int (at1 b hi).1, .int (at1 b hi).2]) ?_) e_int (bx_tup rfl)) (e_ix (e_ix (nm 3) (nm 1) (d := .tuple [.int (at1 b lo).1, .int (at1 b lo).2]) ?_) e_int (bx_tup rfl)) b2_sub)
      · exact bx_mapL (enc := bndD) (xs := b) (i := (hi : Int)) (z := some (at1 b hi)) (by rw [atI_in none (by omega) (by omega), ← at1_some ht hb hbm h2]; rfl)
      · exact bx_mapL (enc := bndD) (xs := b) (i := (lo : Int)) (z := some (at1 b lo)) (by rw [atI_in none (by omega) (by omega), ← at1_some ht hb hbm h1]; rfl)
    · rw [List.map_map]
      rfl
theorem dn_off_in (hB : Bt mg) (D1 : Dn P w K mg base 1 "exact_row" p_exact_row (spD F_exact_row)) (hf : FnP K "off_in" s_off_in f fd) (hm : mg "off_in" = some (.ref f)) : Dn P w K mg base 2 "off_in" p_off_in (spD F_off_in) := by
  refine dn_pure hf hm hB sc_off_in (hf.bindsN fun _ _ _ _ _ _ us hl => match us, hl with | [_, _, _], _ => rfl) (fun ds d h => ?_) (fun cdv A0 outer s H X0 gd ds r h => ?_)
  · obtain ⟨S, rows, L, g, row, rfl, _⟩ := h
    rfl
  · obtain ⟨S, rows, L, g, row, rfl, hL, hg, hr, rfl⟩ := h
    refine run_set (i := 3) gd rfl (e_call D1 gd (Nat.le_refl _) (by rfl) (a_cons (nm 0) (a_cons (nm 1) a_nil)) ⟨S, rows, L, g, rfl, hL, hg, rfl⟩) ?_
    have hlen : ((exRow rows L g).map PyData.int).length = L := by rw [List.length_map, exRow_length]
    refine run_ret (e_max gd (Ev.to (e_lcN (Nn := n_off_in) (sc := defScope s_off_in) gd 4 rfl rfl (fun (i : Nat) => .int (i : Int)) (List.range L) (by have := hL.L2; simp; omega) (i_rangeN gd (Ev.to (e_lenL gd (ds := (exRow rows L g).map PyData.int) (nm 3)) (by rw [hlen])) (by have := hL.L2; omega)) (fun w => .int (absI (row.getD w 0 * S - exAt rows g w))) fun i hi s H C cl fp => ?_) ?_) ?_)
    · have hi' : i < L := List.mem_range.mp hi
      refine e_abs gd.blk (e_bin (e_bin (e_ix (nm 2) (nm 4) (bx_tupI (z := row.getD i 0) ?_)) (e_ix (nm 0) e_int (bx_tup rfl)) (b2_mul (.inr ⟨by have := hL.S1; omega, by have := hL.S2; omega⟩))) (e_ix (nm 3) (nm 4) (bx_lstI (ns := exRow rows L g) (z := exAt rows g i) ?_)) b2_sub)
      · rw [atI_in 0 (by omega) (by omega)]
        rfl
      · refine atI_nat ?_
        unfold exRow
        rw [List.getElem?_map, List.getElem?_range hi']
        rfl
    · rw [List.map_map]
      rfl
    · intro h
      have := congrArg List.length h
      rw [List.length_map, List.length_range] at this
      have := hL.L1
      simp at *
      omega
end
end Pn

set_option Elab.async false
set_option linter.all false
set_option maxRecDepth 100000
set_option maxHeartbeats 4000000
/-! PnD: rows that follow, presses. -/
namespace Pn
open PySem PySem.Spec PyProof.Rows L2

/-! ### plain -/
def intOf : PyData → Int
  | .int i => i
  | _ => 0
def itemsOf : PyData → List PyData
  | .tuple ds => ds
  | _ => []
def intsOf (d : PyData) : List Int := (itemsOf d).map intOf
theorem ints_of_nums : ∀ {ds : List PyData}, ds.all isNumD = true → ds = (ds.map intOf).map PyData.int
  | [], _ => rfl
  | d :: ds, h => by
    rw [List.all_cons, Bool.and_eq_true] at h
    cases d with
    | int i =>
      show PyData.int i :: ds = PyData.int i :: _
      rw [← ints_of_nums h.2]
    | _ => exact absurd h.1 Bool.false_ne_true
def step01 (z : Int) : Bool := decide (z = 0) || decide (z = 1)
def stepsB (ns : List Int) (n : Nat) : Bool := (List.range (n - 1)).all fun i => step01 (ns.getD (i + 1) 0 - ns.getD i 0)
/-- a row of so many widths -/
def rowB (d : PyData) (n : Nat) : Bool := match d with
  | .tuple ds => decide (ds.length = n) && (ds.all isNumD && (decide ((ds.map intOf).getD 0 0 = 0) && stepsB (ds.map intOf) n))
  | _ => false
theorem rowB_tup {ds : List PyData} {n : Nat} : rowB (.tuple ds) n = (decide (ds.length = n) && (ds.all isNumD && (decide ((ds.map intOf).getD 0 0 = 0) && stepsB (ds.map intOf) n))) := rfl
def F_is_row_in : List PyData → PyData → Prop := fun ds r => ∃ d n, ds = [d, .int (n : Nat)] ∧ 1 ≤ n ∧ n ≤ 1000 ∧ r = .bool (rowB d n)
theorem rowB_tuple {d : PyData} {n : Nat} (h : rowB d n = true) : ∃ ns : List Int, d = tupI ns ∧ ns.length = n ∧ intsOf d = ns := by
  cases d with
  | tuple ds =>
    unfold rowB at h
    simp only [Bool.and_eq_true, decide_eq_true_eq] at h
    refine ⟨ds.map intOf, ?_, by rw [List.length_map]; exact h.1, rfl⟩
    unfold tupI
    rw [← ints_of_nums h.2.1]
  | _ => exact absurd h Bool.false_ne_true
/-- rows that follow -/
def folB (S : Int) (rows : List (List Int)) (L : Nat) (split : List (List Int)) (line : List Int) (off : Int) (thing : PyData) : Bool := match thing with
  | .tuple ts => decide (ts.length = split.length) && (ts.all (fun t => rowB t L) && (((split.zip ts).all fun p => decide (offI S rows L p.1 (intsOf p.2) ≤ off)) && (List.range L).all fun w => decide ((ts.map fun t => (intsOf t).getD w 0).sum = line.getD w 0)))
  | _ => false
def F_are_followed : List PyData → PyData → Prop := fun ds r => ∃ a b c S rows L split line off thing, ds = [a, b, c, .int off, thing] ∧ Flat 4 a ∧ Flat 4 b ∧ Flat 4 c ∧ tupOf a = layD S rows ∧ tupOf b = tupII split ∧ tupOf c = tupI line ∧ Lay S rows L ∧ split.length ≤ 1000 ∧ (∀ g ∈ split, Grp rows g) ∧ line.length = L ∧
  r = .bool (folB S rows L split line off thing)
def sBare : Str := "bare"
def sMore : Str := "more"
def sFewer : Str := "fewer"
def pressB (t : List (List Bd1)) (line : List Int) (w : Str) (lo hi : Int) : Bool :=
  if w = sBare then decide (0 ≤ lo) && decide (lo < t.length) && (decide (0 ≤ hi) && decide (hi < line.length) && ((t.getD lo.toNat []).getD hi.toNat none).isNone)
  else if w = sMore ∨ w = sFewer then
    (if bare t then false else if 0 ≤ lo ∧ lo < hi ∧ hi < line.length then
      (if w = sMore then decide (line.getD hi.toNat 0 - line.getD lo.toNat 0 < mustIn t lo.toNat hi.toNat) else decide (canIn t lo.toNat hi.toNat < line.getD hi.toNat 0 - line.getD lo.toNat 0)) else false)
  else false
def pressD (t : List (List Bd1)) (line : List Int) : PyData → Bool
  | .tuple [.str w, .int lo, .int hi] => pressB t line w lo hi
  | _ => false
def F_is_press : List PyData → PyData → Prop := fun ds r => ∃ a b c S rows L split line off thing, ds = [a, b, c, .int off, thing] ∧ Flat 4 a ∧ Flat 4 b ∧ Flat 4 c ∧ tupOf a = layD S rows ∧ tupOf b = tupII split ∧ tupOf c = tupI line ∧ Lay S rows L ∧ split.length ≤ 1000 ∧ (∀ g ∈ split, Grp rows g) ∧ line.length = L ∧
  r = .bool (pressD (tbl S off rows L split) line thing)
theorem zipD_map {α β : Type} (f : α → PyData) (g : β → PyData) (xs : List α) (ys : List β) : zipD (xs.map f) (ys.map g) = (xs.zip ys).map fun p => PyData.tuple [f p.1, g p.2] := by
  unfold zipD
  rw [List.zipWith_map, List.zip, List.map_zipWith]
/-! ### a op b op c op d, as a test -/
theorem eb_chain3 {X : Cx} {a b cc dd : Expr} {ρ : List Sl} {d1 d2 d3 d4 : PyData} {t u v : Bool} {op1 op2 op3 : CmpOp} {pos : Pos} (h1 : E X a ρ d1) (h2 : E X b ρ d2) (h3 : t = true → E X cc ρ d3) (h4 : t = true → u = true → E X dd ρ d4) (o1 : B2 X (compareOp op1) d1 d2 (.bool t)) (o2 : t = true → B2 X (compareOp op2) d2 d3 (.bool u)) (o3 : t = true → u = true → B2 X (compareOp op3) d3 d4 (.bool v))
    (hm : lastMarks [op1, op2, op3] [b, cc, dd] = false := by with_unfolding_all rfl) : Eb X (.Compare a [op1, op2, op3] [b, cc, dd] pos) ρ (t && (u && v)) := fun G σ H n p hn Q q => ⟨fun pins s I => by
  have see : ∀ {e : Expr} {d : PyData} {G H : Hp} {n : Nat}, E X e ρ d → Pre none G σ ρ H n → n ≤ LIM → WE X e σ H (fun v H1 => ∃ N1 n1, Po none G H n 0 N1 H1 n1 ∧ Rp N1 v d) := fun h p hn => h _ σ _ _ p (by omega) _ (fun v d N H' n' e o r => ⟨N, n', o, e ▸ r⟩)
  have cmp : ∀ {op : CmpOp} {d e : PyData} {b : Bool} {G H : Hp} {x y : V}, B2 X (compareOp op) d e (.bool b) → Ex G H → Rp G x d → Rp G y e → W2 X (compareOp op) x y H (fun z H1 => ∃ N1, Gr none G H N1 H1 ∧ z = .bl b) := fun ho ex r1 r2 => ho _ _ _ _ ex r1 r2 _ (fun v N H' g r => ⟨N, g, by cases r; rfl⟩)
  refine isTrue_chain (thn ((see h1 p (by omega)).go pins s I) fun va s1 ⟨x, H1, I1, r1, N1, n1, p1, rx⟩ => ?_) hm
  have q1 := p.next p1
  refine test_link (thn ((see h2 q1 (by have := p1.le; omega)).go pins s1 I1) fun vb s2 ⟨y, H2, I2, r2, N2, n2, p2, ry⟩ => ?_)
  have p12 := p1.trans p2
  have q2 := q1.next p2
  refine thn ((cmp o1 p2.gr.nh (rx.mono p2.gr.gn) ry).go pins s2 σ va vb I2 r1 r2) fun vc s3 ⟨z, H3, I3, r3, N3, g3, ez⟩ => ?_
  subst ez
  cases r3
  refine wpAny_truthy_bool ?_
  have p13 := p12.trans (Po.pure (c := 0) p12.tin g3)
  have q3 := q2.next (Po.pure (c := 0) p12.tin g3)
  have out : ∀ {N H' : Hp} {m : Nat} {s' : Shared} {b : Bool}, Po none G H n 0 N H' m → Inv X pins σ H' s' → b = (t && (u && v)) → TP X pins σ Q b s' := fun {N H' m s' b} po I' e => ⟨H', I', q b N H' m e po⟩
  cases t with
  | false => exact ite_ff (out (p13.weak (by omega)) I3 rfl)
  | true =>
    refine ite_tt (test_link (thn ((see (h3 rfl) q3 (by have := p13.le; omega)).go pins s3 I3) fun vd s4 ⟨y4, H4, I4, r4, N4, n4, p4, ry4⟩ => ?_))
    have q4 := q3.next p4
    refine thn ((cmp (o2 rfl) p4.gr.nh ((ry.mono g3.gn).mono p4.gr.gn) ry4).go pins s4 σ vb vd I4 r2 r4) fun ve s5 ⟨z5, H5, I5, r5, N5, g5, ez5⟩ => ?_
    subst ez5
    cases r5
    refine wpAny_truthy_bool ?_
    have p15 := (p13.trans p4).trans (Po.pure (c := 0) p4.tin g5)
    have q5 := q4.next (Po.pure (c := 0) p4.tin g5)
    cases u with
    | false => exact ite_ff (out (p15.weak (by omega)) I5 rfl)
    | true =>
      refine ite_tt (test_last (thn ((see (h4 rfl rfl) q5 (by have := p15.le; omega)).go pins s5 I5) fun vf s6 ⟨y6, H6, I6, r6, N6, n6, p6, ry6⟩ => ?_))
      refine thn ((cmp (o3 rfl rfl) p6.gr.nh ((ry4.mono g5.gn).mono p6.gr.gn) ry6).go pins s6 σ vd vf I6 r4 r6) fun vg s7 ⟨z7, H7, I7, r7, N7, g7, ez7⟩ => ?_
      subst ez7
      cases r7
      have p17 := (p15.trans p6).trans (Po.pure (c := 0) p6.tin g7)
      exact wpAny_truthy_bool (out (p17.weak (by omega)) I7 (by rw [Bool.true_and, Bool.true_and]))⟩
section
variable {P : Program} {w : World} {K : PySem.W.Frag} {mg : Str → Option Value} {base : Heap} {f : Addr} {fd : FuncData}
theorem dn_is_row_in (hB : Bt mg) (D1 : Dn P w K mg base 1 "is_number" p_is_number (spD F_is_number)) (D2 : Dn P w K mg base 1 "is_tuple_of" p_is_tuple_of (spD F_is_tuple_of)) (hf : FnP K "is_row_in" s_is_row_in f fd) (hm : mg "is_row_in" = some (.ref f)) : Dn P w K mg base 2 "is_row_in" p_is_row_in (spD F_is_row_in) := by
  refine dn_pure hf hm hB sc_is_row_in (hf.bindsN fun _ _ _ _ _ _ us hl => match us, hl with | [_, _], _ => rfl) (fun ds d h => ?_) (fun cdv A0 outer s H X0 gd ds r h => ?_)
  · obtain ⟨d, n, rfl, _⟩ := h
    rfl
  · obtain ⟨d, n, rfl, hn1, hn2, rfl⟩ := h
    refine run_ifRet (b := !lenTupD d n || (!(itemsOf d).all isNumD || !decide ((intsOf d).getD 0 0 = 0))) (eb_w (ebw_or (eb_not (eb_val (e_call D2 gd (Nat.le_refl _) (by rfl) (a_cons (nm 0) (a_cons (nm 1) a_nil)) ⟨d, n, rfl, rfl⟩))) fun h1 => ?_)) (fun h => ?_) fun h => ?_
    · rw [Bool.not_eq_false'] at h1
      cases d with
      | tuple ds =>
        have hl : ds.length = n := by have := of_decide_eq_true (show decide ((ds.length : Int) = n) = true from h1); omega
        refine ebw_or (eb_not (eb_val (Ev.to (e_all (bs := ds.map isNumD) gd (Ev.to (e_lcN (Nn := n_is_row_in) (sc := defScope s_is_row_in) gd 3 rfl rfl id ds (by omega) (by rw [List.map_id]; exact i_tup (nm 0)) (fun z => .bool (isNumD z)) fun z hz s H C cl fp => e_call D1 gd.blk (Nat.le_refl _) (by rfl) (a_cons (nm 3) a_nil) ⟨z, rfl, rfl⟩) ?_)) ?_))) fun h2 => ebw_or1 (Et.to (eb_cmp (e_ix (nm 0) e_int (d := .int ((ds.map intOf).getD 0 0)) ?_) e_int b2_neI) ?_)
        · rw [List.map_map]
          rfl
        · rw [List.all_map]
          rfl
        · rw [Bool.not_eq_false'] at h2
          rw [ints_of_nums (show ds.all isNumD = true from h2)]
          refine bx_tupI ?_
          rw [← ints_of_nums (show ds.all isNumD = true from h2)]
          rw [atI_in 0 (by omega) (by rw [List.length_map]; omega)]
          rfl
        · rfl
      | _ => exact absurd h1 Bool.false_ne_true
    · refine run_ret (Ev.to e_bl ?_)
      cases d with
      | tuple ds =>
        rw [rowB_tup]
        unfold lenTupD intsOf itemsOf at h
        simp only [Bool.or_eq_true, Bool.not_eq_true', decide_eq_false_iff_not] at h
        rcases h with h | h | h
        · have : ¬ ds.length = n := by omega
          rw [decide_eq_false this, Bool.false_and]
        · simp only [h, Bool.false_and, Bool.and_false]
        · rw [decide_eq_false h, Bool.false_and, Bool.and_false, Bool.and_false]
      | _ => rfl
    · cases d with
      | tuple ds =>
        unfold lenTupD intsOf itemsOf at h
        simp only [Bool.or_eq_false_iff, Bool.not_eq_false', decide_eq_true_eq] at h
        obtain ⟨h1, h2, h3⟩ := h
        have hl : ds.length = n := by omega
        have he := ints_of_nums h2
        refine run_ret (Ev.to (e_all (bs := (List.range (n - 1)).map fun i => step01 ((ds.map intOf).getD (i + 1) 0 - (ds.map intOf).getD i 0)) gd (Ev.to (e_lcN (Nn := n_is_row_in) (sc := defScope s_is_row_in) gd 2 rfl rfl (fun (i : Nat) => .int ((i : Int) + 1)) (List.range (n - 1)) (by simp; omega) (i_range1N gd e_int (nm 1) (by omega)) (fun i => .bool (step01 ((ds.map intOf).getD (i + 1) 0 - (ds.map intOf).getD i 0))) fun i hi s H C cl fp => ?_) ?_)) ?_)
        · have hi' : i < n - 1 := List.mem_range.mp hi
          have hli : (ds.map intOf).length = n := by rw [List.length_map]; exact hl
          refine Ev.to (e_cmp (e_bin (e_ix (nm 0) (nm 2) (d := .int ((ds.map intOf).getD (i + 1) 0)) ?_) (e_ix (nm 0) (e_bin (nm 2) e_int b2_sub) (d := .int ((ds.map intOf).getD i 0)) ?_) b2_sub) (e_tup (a_cons e_int (a_cons e_int a_nil))) (b2_inT rfl rfl)) ?_
          · rw [he]
            refine bx_tupI ?_
            rw [← he, atI_in 0 (by omega) (by omega)]
            rfl
          · rw [he]
            refine bx_tupI ?_
            rw [← he, atI_in 0 (by omega) (by omega), show ((i : Int) + 1 - 1).toNat = i by omega]
          · simp only [List.any_cons, List.any_nil, PyData.eqv, Bool.or_false, step01]
            rw [Bool.beq_eq_decide_eq, Bool.beq_eq_decide_eq]
            congr 2 <;> exact decide_eq_decide.mpr ⟨fun h => h.symm, fun h => h.symm⟩
        · rw [List.map_map]
          rfl
        · rw [rowB_tup, decide_eq_true hl, h2, decide_eq_true h3, List.all_map]
          rfl
      | _ => cases h
theorem fo_are_followed (hB : Bt mg) (D1 : Dn P w K mg base 5 "tuple_of" p_tuple_of (spD (F_tuple_of 4))) (D2 : Dn P w K mg base 1 "is_tuple_of" p_is_tuple_of (spD F_is_tuple_of)) (D3 : Dn P w K mg base 2 "is_row_in" p_is_row_in (spD F_is_row_in)) (D4 : Dn P w K mg base 2 "off_in" p_off_in (spD F_off_in))
    (hf : FnP K "are_followed" s_are_followed f fd) (hm : mg "are_followed" = some (.ref f)) : FnOk P w K mg base CX0 6 f fd p_are_followed (spD F_are_followed) := by
  refine fo_pure hf hB sc_are_followed (fun ds d h => ?_) (fun cdv A0 outer s H X0 gd ds r h => ?_)
  · obtain ⟨a, b, c, S, rows, L, split, line, off, thing, rfl, _⟩ := h
    rfl
  · obtain ⟨a, b, c, S, rows, L, split, line, off, thing, rfl, fa, fb, fc, ea, eb, ec, hL, hs, hg, hln, rfl⟩ := h
    have hlen1 : (split.map tupI).length = split.length := List.length_map ..
    have hlen2 : (line.map PyData.int).length = L := by rw [List.length_map]; exact hln
    refine run_tgt (c1 := 0) (c2 := 0) (pg_tup gd.calm (pgs_cons (pg_name (i := 5) gd.nd rfl (.inr rfl)) (pgs_cons (pg_name (i := 6) gd.nd rfl (.inl rfl)) (pgs_cons (pg_name (i := 7) gd.nd rfl (.inr rfl)) pgs_nil))))
      (e_tup (a_cons (e_call D1 gd (Nat.le_refl _) (by rfl) (a_cons (nm 0) a_nil) ⟨a, rfl, fa, ea.symm⟩) (a_cons (e_call D1 gd (Nat.le_refl _) (by rfl) (a_cons (nm 1) a_nil) ⟨b, rfl, fb, eb.symm⟩) (a_cons (e_call D1 gd (Nat.le_refl _) (by rfl) (a_cons (nm 2) a_nil) ⟨c, rfl, fc, ec.symm⟩) a_nil)))) fun d e => ?_
    subst e
    refine ⟨[5, 6, 7], _, gok_tup3, ?_⟩
    refine run_ifRet (b := !lenTupD thing (split.map tupI).length || !((itemsOf thing).all fun t => rowB t (line.map PyData.int).length)) (eb_w (ebw_or (eb_not (eb_val (e_call D2 gd (by decide) (by rfl) (a_cons (nm 4) (a_cons (e_lenT gd (nm 6)) a_nil)) ⟨thing, _, rfl, rfl⟩))) fun h1 => ebw_or1 (eb_not (eb_val ?_)))) (fun h => ?_) fun h => ?_
    · rw [Bool.not_eq_false'] at h1
      cases thing with
      | tuple ts =>
        have hl : ts.length = split.length := by have := of_decide_eq_true (show decide ((ts.length : Int) = ((split.map tupI).length : Nat)) = true from h1); omega
        refine Ev.to (e_all (bs := ts.map fun t => rowB t (line.map PyData.int).length) gd (Ev.to (e_lcN (Nn := n_are_followed) (sc := defScope s_are_followed) gd 10 rfl rfl id ts (by omega) (by rw [List.map_id]; exact i_tup (nm 4)) (fun z => .bool (rowB z (line.map PyData.int).length)) fun z hz s H C cl fp => e_call D3 gd.blk (by decide) (by rfl) (a_cons (nm 10) (a_cons (e_lenT gd.blk (nm 7)) a_nil)) ⟨z, _, rfl, by rw [hlen2]; exact hL.L1, by rw [hlen2]; exact hL.L2, rfl⟩) ?_)) ?_
        · rw [List.map_map]
          rfl
        · rw [List.all_map]
          rfl
      | _ => exact absurd h1 Bool.false_ne_true
    · refine run_ret (Ev.to e_bl ?_)
      rw [hlen1, hlen2] at h
      cases thing with
      | tuple ts =>
        simp only [Bool.or_eq_true, Bool.not_eq_true'] at h
        show PyData.bool false = PyData.bool (decide (ts.length = split.length) && _)
        rcases h with h | h
        · have : ¬ ts.length = split.length := by have := of_decide_eq_false (show decide ((ts.length : Int) = (split.length : Nat)) = false from h); omega
          rw [decide_eq_false this, Bool.false_and]
        · rw [show (ts.all fun t => rowB t L) = false from h, Bool.false_and, Bool.and_false]
      | _ => rfl
    · rw [hlen1, hlen2] at h
      cases thing with
      | tuple ts =>
        simp only [Bool.or_eq_false_iff, Bool.not_eq_false'] at h
        obtain ⟨h1, h2⟩ := h
        have hl : ts.length = split.length := by have := of_decide_eq_true (show decide ((ts.length : Int) = (split.length : Nat)) = true from h1); omega
        have h2' : (ts.all fun t => rowB t L) = true := h2
        have hts : ts = (ts.map intsOf).map tupI := by
          have e : ts.map id = ts.map (tupI ∘ intsOf) := List.map_congr_left fun t ht => by
            obtain ⟨ns, e1, _, e2⟩ := rowB_tuple (List.all_eq_true.mp h2' t ht)
            show t = tupI (intsOf t)
            rw [e2, e1]
          rw [List.map_map, ← e, List.map_id]
        have hrow : ∀ t ∈ ts, (intsOf t).length = L := fun t ht => by
          obtain ⟨ns, e1, e3, e2⟩ := rowB_tuple (List.all_eq_true.mp h2' t ht)
          rw [e2, e3]
        have hz : (split.zip (ts.map intsOf)).length ≤ 100000 := by rw [List.length_zip]; omega
        refine run_ifRet (b := !((split.zip (ts.map intsOf)).all fun p => decide (offI S rows L p.1 p.2 ≤ off))) (eb_not (eb_val (Ev.to (e_all (bs := (split.zip (ts.map intsOf)).map fun p => decide (offI S rows L p.1 p.2 ≤ off)) gd
          (Ev.to (e_lcT (Nn := n_are_followed) (sc := defScope s_are_followed) gd 9 10 rfl rfl tupI tupI (split.zip (ts.map intsOf)) hz (by rw [← zipD_map, ← hts]; exact i_zipT gd (by rfl) (a_cons (nm 6) (a_cons (nm 4) a_nil))) (fun p => .bool (decide (offI S rows L p.1 p.2 ≤ off))) fun p hp s H C cl fp => ?_) ?_)) ?_))) (fun h => ?_) fun h => ?_
        · have hm := List.of_mem_zip hp
          obtain ⟨t, ht, et⟩ := List.mem_map.mp hm.2
          exact e_cmp (e_call D4 gd.blk (by decide) (by rfl) (a_cons (nm 5) (a_cons (nm 9) (a_cons (nm 10) a_nil))) ⟨S, rows, L, p.1, p.2, rfl, hL, hg p.1 hm.1, by rw [← et]; exact hrow t ht, rfl⟩) (nm 3) b2_le
        · rw [List.map_map]
          rfl
        · rw [List.all_map]
          rfl
        · refine run_ret (Ev.to e_bl ?_)
          show PyData.bool false = PyData.bool (decide (ts.length = split.length) && ((ts.all fun t => rowB t L) && (((split.zip ts).all fun p => decide (offI S rows L p.1 (intsOf p.2) ≤ off)) && _)))
          rw [Bool.not_eq_true'] at h
          rw [List.zip_map_right, List.all_map] at h
          rw [show ((split.zip ts).all fun p => decide (offI S rows L p.1 (intsOf p.2) ≤ off)) = false from h, Bool.false_and, Bool.and_false, Bool.and_false]
        · rw [Bool.not_eq_false', List.zip_map_right, List.all_map] at h
          refine run_ret (Ev.to (e_all (bs := (List.range L).map fun w => decide ((ts.map fun t => (intsOf t).getD w 0).sum = line.getD w 0)) gd (Ev.to (e_lcN (Nn := n_are_followed) (sc := defScope s_are_followed) gd 8 rfl rfl (fun (i : Nat) => .int (i : Int)) (List.range L) (by have := hL.L2; simp; omega) (i_rangeN gd (Ev.to (e_lenT gd (ds := line.map PyData.int) (nm 7)) (by rw [hlen2])) (by have := hL.L2; omega)) (fun w => .bool (decide ((ts.map fun t => (intsOf t).getD w 0).sum = line.getD w 0))) fun i hi s H C cl fp => ?_) ?_)) ?_)
          · have hi' : i < L := List.mem_range.mp hi
            refine e_cmp (e_sum gd.blk (Ev.to (e_lcN (Nn := n_are_followed) (sc := relS _ (defScope s_are_followed)) gd.blk 10 rfl (sc_blk (sc := defScope s_are_followed) rfl) id ts (by omega) (by rw [List.map_id]; exact i_tup (nm 4)) (fun t => .int ((intsOf t).getD i 0)) fun t ht s2 H2 C2 cl2 fp2 => ?_) ?_)) (e_ix (nm 7) (nm 8) (bx_tupI ?_)) b2_eqI
            · obtain ⟨ns, e1, e3, e2⟩ := rowB_tuple (List.all_eq_true.mp h2' t ht)
              refine e_ix (nm 10) (nm 8) ?_
              rw [e2, e1]
              refine bx_tupI ?_
              rw [atI_in 0 (by omega) (by omega)]
              rfl
            · rw [List.map_map]
              rfl
            · rw [atI_in 0 (by omega) (by omega)]
              rfl
          · rw [List.map_map]
            rfl
          · show _ = PyData.bool (decide (ts.length = split.length) && ((ts.all fun t => rowB t L) && (((split.zip ts).all fun p => decide (offI S rows L p.1 (intsOf p.2) ≤ off)) && _)))
            rw [decide_eq_true hl, h2', show ((split.zip ts).all fun p => decide (offI S rows L p.1 (intsOf p.2) ≤ off)) = true from h, List.all_map]
            rfl
      | _ => cases h
theorem dn_are_followed (hB : Bt mg) (D1 : Dn P w K mg base 5 "tuple_of" p_tuple_of (spD (F_tuple_of 4))) (D2 : Dn P w K mg base 1 "is_tuple_of" p_is_tuple_of (spD F_is_tuple_of)) (D3 : Dn P w K mg base 2 "is_row_in" p_is_row_in (spD F_is_row_in)) (D4 : Dn P w K mg base 2 "off_in" p_off_in (spD F_off_in))
    (hf : FnP K "are_followed" s_are_followed f fd) (hm : mg "are_followed" = some (.ref f)) : Dn P w K mg base 6 "are_followed" p_are_followed (spD F_are_followed) :=
  ⟨f, fd, fo_are_followed hB D1 D2 D3 D4 hf hm, hm, hf.kp, hf.bindsN fun _ _ _ _ _ _ us hl => match us, hl with | [_, _, _, _, _], _ => rfl⟩
end
end Pn

set_option Elab.async false
set_option linter.all false
set_option maxRecDepth 100000
set_option maxHeartbeats 4000000
/-! PnE: is_press. -/
namespace Pn
open PySem PySem.Spec PyProof.Rows L2

theorem tbl_length {S off : Int} {rows : List (List Int)} {L : Nat} {split : List (List Int)} : (tbl S off rows L split).length = split.length := List.length_map ..
theorem tbl_ok {S off : Int} {rows : List (List Int)} {L : Nat} {split : List (List Int)} (hL : Lay S rows L) (hs : split.length ≤ 1000) : TbOk (tbl S off rows L split) L := by
  refine ⟨by rw [tbl_length]; exact hs, hL.L2, fun b hb => ?_⟩
  unfold tbl at hb
  obtain ⟨g, _, rfl⟩ := List.mem_map.mp hb
  rw [bounds_length (by rw [exRow_length]; exact hL.L1), exRow_length]
theorem isNone_bnd (o : Bd1) : isNoneD (bndD o) = o.isNone := by cases o <;> rfl
theorem in_words (w : Str) : ([PyData.str "more", PyData.str "fewer"].any fun z => PyData.eqv z (.str w)) = decide (w = sMore ∨ w = sFewer) := by
  simp only [List.any_cons, List.any_nil, PyData.eqv, Bool.or_false]
  rw [Bool.eq_iff_iff]
  simp only [Bool.or_eq_true, beq_iff_eq, decide_eq_true_eq]
  exact ⟨fun h => h.imp Eq.symm Eq.symm, fun h => h.imp Eq.symm Eq.symm⟩
/-- the three items, if it is a text and two numbers -/
theorem press_shape {thing : PyData} (h : (!lenTupD thing 3 || (!isStrD ((itemsOf thing).getD 0 .none) || !((itemsOf thing).drop 1).all isNumD)) = false) : ∃ w lo hi, thing = .tuple [.str w, .int lo, .int hi] := by
  simp only [Bool.or_eq_false_iff, Bool.not_eq_false'] at h
  obtain ⟨h1, h2, h3⟩ := h
  cases thing with
  | tuple ds =>
    have hl : ds.length = 3 := by have := of_decide_eq_true (show decide ((ds.length : Int) = 3) = true from h1); omega
    match ds, hl, h2, h3 with
    | [a, b, c], _, h2, h3 =>
      have h2' : isStrD a = true := h2
      have h3' : (isNumD b && (isNumD c && true)) = true := h3
      simp only [Bool.and_eq_true] at h3'
      cases a with
      | str w => cases b with
        | int lo => cases c with
          | int hi => exact ⟨w, lo, hi, rfl⟩
          | _ => exact absurd h3'.2.1 Bool.false_ne_true
        | _ => exact absurd h3'.1 Bool.false_ne_true
      | _ => exact absurd h2' Bool.false_ne_true
  | _ => exact absurd h1 Bool.false_ne_true
theorem press_none {t : List (List Bd1)} {line : List Int} {thing : PyData} (h : (!lenTupD thing 3 || (!isStrD ((itemsOf thing).getD 0 .none) || !((itemsOf thing).drop 1).all isNumD)) = true) : pressD t line thing = false := by
  cases q : pressD t line thing with
  | false => rfl
  | true =>
    unfold pressD at q
    split at q
    · exact absurd (show false = true from h) Bool.false_ne_true
    · cases q
section
variable {P : Program} {w : World} {K : PySem.W.Frag} {mg : Str → Option Value} {base : Heap} {f : Addr} {fd : FuncData}
theorem dn_is_press (hB : Bt mg) (D0 : Dn P w K mg base 1 "is_number" p_is_number (spD F_is_number)) (D1 : Dn P w K mg base 5 "tuple_of" p_tuple_of (spD (F_tuple_of 4))) (D2 : Dn P w K mg base 1 "is_tuple_of" p_is_tuple_of (spD F_is_tuple_of)) (D3 : Dn P w K mg base 2 "table_of" p_table_of (spD F_table_of)) (D4 : Dn P w K mg base 1 "bare_in" p_bare_in (spS F_bare_in))
    (D5 : Dn P w K mg base 1 "must_in" p_must_in (spD F_must_in)) (D6 : Dn P w K mg base 1 "can_in" p_can_in (spD F_can_in))
    (hf : FnP K "is_press" s_is_press f fd) (hm : mg "is_press" = some (.ref f)) : Dn P w K mg base 6 "is_press" p_is_press (spD F_is_press) := by
  refine dn_pure hf hm hB sc_is_press (hf.bindsN fun _ _ _ _ _ _ us hl => match us, hl with | [_, _, _, _, _], _ => rfl) (fun ds d h => ?_) (fun cdv A0 outer s H X0 gd ds r h => ?_)
  · obtain ⟨a, b, c, S, rows, L, split, line, off, thing, rfl, _⟩ := h
    rfl
  · obtain ⟨a, b, c, S, rows, L, split, line, off, thing, rfl, fa, fb, fc, ea, eb, ec, hL, hs, hg, hln, rfl⟩ := h
    refine run_ifRet (b := !lenTupD thing 3 || (!isStrD ((itemsOf thing).getD 0 .none) || !((itemsOf thing).drop 1).all isNumD)) (eb_w (ebw_or (eb_not (eb_val (e_call D2 gd (by decide) (by rfl) (a_cons (nm 4) (a_cons e_int a_nil)) ⟨thing, _, rfl, rfl⟩))) fun h1 => ?_)) (fun h => ?_) fun h => ?_
    · rw [Bool.not_eq_false'] at h1
      cases thing with
      | tuple ds =>
        have hl : ds.length = 3 := by have := of_decide_eq_true (show decide ((ds.length : Int) = 3) = true from h1); omega
        refine ebw_or (eb_not (eb_val (e_isStr gd (e_ix (nm 4) e_int (bx_tup (d := ds.getD 0 .none) ?_))))) fun _ => ebw_or1 (eb_not (eb_val (Ev.to (e_all (bs := (ds.drop 1).map isNumD) gd (Ev.to (e_lcN (Nn := n_is_press) (sc := defScope s_is_press) gd 11 rfl rfl id (ds.drop 1) (by rw [List.length_drop]; omega) ?_ (fun z => .bool (isNumD z)) fun z hz s H C cl fp => e_call D0 gd.blk (by decide) (by rfl) (a_cons (nm 11) a_nil) ⟨z, rfl, rfl⟩) ?_)) ?_)))
        · rw [atI_in .none (by omega) (by omega)]
          rfl
        · rw [List.map_id, ← cutL_from]
          exact i_tup (e_sliceT (nm 4) (by exact e_int) (by exact True.intro))
        · rw [List.map_map]
          rfl
        · rw [List.all_map]
          rfl
      | _ => exact absurd h1 Bool.false_ne_true
    · exact run_ret (Ev.to e_bl (by rw [press_none h]))
    · obtain ⟨w, lo, hi, rfl⟩ := press_shape h
      have ht := tbl_ok (S := S) (off := off) (split := split) hL hs
      have htl : (tbl S off rows L split).length = split.length := tbl_length
      generalize hT : tbl S off rows L split = t at ht htl ⊢
      have hlen1 : (t.map bsD).length = t.length := List.length_map ..
      have hlen2 : (line.map PyData.int).length = L := by rw [List.length_map]; exact hln
      refine run_par2 (c1 := 0) (c2 := 0) (i := 5) (j := 6) gd rfl rfl (a_cons (e_call D3 gd (by decide) (by rfl) (a_cons (e_call D1 gd (by decide) (by rfl) (a_cons (nm 0) a_nil) ⟨a, rfl, fa, ea.symm⟩) (a_cons (e_call D1 gd (by decide) (by rfl) (a_cons (nm 1) a_nil) ⟨b, rfl, fb, eb.symm⟩) (a_cons (nm 3) a_nil))) ⟨S, rows, L, split, off, rfl, hL, hs, hg, rfl⟩) (a_cons (e_call D1 gd (by decide) (by rfl) (a_cons (nm 2) a_nil) ⟨c, rfl, fc, ec.symm⟩) a_nil)) fun ds e => ⟨_, _, e, ?_⟩
      rw [hT]
      refine run_tgt (c1 := 0) (c2 := 0) (pg_tup gd.calm (pgs_cons (pg_name (i := 7) gd.nd rfl (.inl rfl)) (pgs_cons (pg_name (i := 8) gd.nd rfl (.inl rfl)) (pgs_cons (pg_name (i := 9) gd.nd rfl (.inl rfl)) pgs_nil)))) (nm 4) fun d e => ?_
      subst e
      refine ⟨[7, 8, 9], _, gok_tup3, ?_⟩
      show Run _ _ _ _ _ _ (fun z => z = PyData.bool (pressB t line w lo hi))
      refine run_ifRet (b := decide (w = sBare)) (eb_cmp (nm 7) e_str b2_eqS) (fun hw => ?_) fun hw => ?_
      · have hw' : w = sBare := of_decide_eq_true hw
        refine run_ret (Ev.to (e_and (t := decide (0 ≤ lo) && decide (lo < ((t.map bsD).length : Nat))) (u := decide (0 ≤ hi) && decide (hi < ((line.map PyData.int).length : Nat)) && ((t.getD lo.toNat []).getD hi.toNat none).isNone) (e_chain e_int (nm 8) (fun _ => e_lenL gd (nm 5)) b2_le (fun _ => b2_lt)) fun h1 => e_and (e_chain e_int (nm 9) (fun _ => e_lenT gd (nm 6)) b2_le (fun _ => b2_lt)) fun h2 => e_one ?_) ?_)
        · simp only [Bool.and_eq_true, decide_eq_true_eq] at h1 h2
          rw [hlen1] at h1
          rw [hlen2] at h2
          have hb : t.getD lo.toNat [] ∈ t := by
            rw [List.getD_eq_getElem?_getD, List.getElem?_eq_getElem (show lo.toNat < t.length by omega)]
            exact List.getElem_mem _
          refine Ev.to (e_cmp (e_ix (e_ix (nm 5) (nm 8) (bx_mapL (enc := bsD) (atI_in [] h1.1 h1.2))) (nm 9) (bx_mapL (enc := bndD) (atI_in none h2.1 (by rw [ht.2.2 _ hb]; exact h2.2)))) e_non b2_isN) ?_
          rw [isNone_bnd]
        · unfold pressB
          rw [if_pos hw', hlen1, hlen2, hln, Bool.and_assoc]
      · have hw' : ¬ w = sBare := of_decide_eq_false hw
        refine run_ifRet (b := (!decide (w = sMore ∨ w = sFewer) || (bare t || !(decide (0 ≤ lo) && (decide (lo < hi) && decide (hi < ((line.map PyData.int).length : Nat)))))))
          (eb_w (ebw_or (eb_cmp (nm 7) (e_tup (a_cons e_str (a_cons e_str a_nil))) (by rw [← in_words]; exact b2_niT rfl rfl)) fun _ => ebw_or (Et.mono (et_cmp (c1 := 0) (c2 := 0) (c := 0) (P := fun z => z = bare t) (P2 := fun _ z => z = .none) (ev_callS D4 gd (by decide) (by rfl) (a_cons (nm 5) a_nil) ⟨t, L, rfl, ht, rfl⟩) (fun _ _ => e_non) (fun d1 d2 e1 e2 => ⟨!isNoneD d1, by rw [e1, Bool.not_not], by rw [e2]; exact b2_notN⟩)) (fun _ h => h) (Nat.le_refl _)) fun _ => ebw_or1 (eb_not (eb_chain3 e_int (nm 8) (fun _ => nm 9) (fun _ _ => e_lenT gd (nm 6)) b2_le (fun _ => b2_lt) (fun _ _ => b2_lt))))) (fun hb => ?_) (fun hb => ?_)
        · refine run_ret (Ev.to e_bl ?_)
          unfold pressB
          rw [if_neg hw']
          simp only [Bool.or_eq_true, Bool.not_eq_true', decide_eq_false_iff_not, Bool.and_eq_false_iff] at hb
          rw [hlen2] at hb
          by_cases c1 : w = sMore ∨ w = sFewer
          · rw [if_pos c1]
            rcases hb with hb | hb | hb
            · exact absurd c1 hb
            · rw [if_pos hb]
            · by_cases c2 : bare t = true
              · rw [if_pos c2]
              · rw [if_neg c2, if_neg (by rw [hln]; omega)]
          · rw [if_neg c1]
        · simp only [Bool.or_eq_false_iff, Bool.not_eq_false', decide_eq_true_eq, Bool.and_eq_true] at hb
          rw [hlen2] at hb
          obtain ⟨c1, c2, c3, c4, c5⟩ := hb
          have eLo : lo = ((lo.toNat : Nat) : Int) := by omega
          have eHi : hi = ((hi.toNat : Nat) : Int) := by omega
          refine run_set (i := 10) gd rfl (e_bin (e_ix (nm 6) (nm 9) (bx_tupI (atI_in 0 (by omega) (by omega)))) (e_ix (nm 6) (nm 8) (bx_tupI (atI_in 0 (by omega) (by omega)))) b2_sub) ?_
          refine run_ret (e_if (u := decide (w = sMore)) (eb_cmp (nm 7) e_str b2_eqS) (fun hw2 => Ev.to (e_cmp (e_call D5 gd (by decide) (by rfl) (a_cons (nm 5) (a_cons (nm 8) (a_cons (nm 9) a_nil))) ⟨t, L, lo.toNat, hi.toNat, by rw [← eLo, ← eHi], ht, c2, by omega, by omega, rfl⟩) (nm 10) b2_gt) ?_) fun hw2 => Ev.to (e_cmp (e_call D6 gd (by decide) (by rfl) (a_cons (nm 5) (a_cons (nm 8) (a_cons (nm 9) a_nil))) ⟨t, L, lo.toNat, hi.toNat, by rw [← eLo, ← eHi], ht, c2, by omega, by omega, rfl⟩) (nm 10) b2_lt) ?_)
          · unfold pressB
            rw [if_neg hw', if_pos c1, if_neg (by rw [c2]; exact Bool.false_ne_true), if_pos (by rw [hln]; omega), if_pos (of_decide_eq_true hw2)]
          · unfold pressB
            rw [if_neg hw', if_pos c1, if_neg (by rw [c2]; exact Bool.false_ne_true), if_pos (by rw [hln]; omega), if_neg (of_decide_eq_false hw2)]
end
end Pn

set_option Elab.async false
set_option linter.all false
set_option maxRecDepth 100000
set_option maxHeartbeats 4000000
/-! PnIt: zip of a tuple and a list, enumerate of a tuple. -/
namespace Pn
open PySem PySem.Spec PyProof.Rows L2

/-! ### zip(tuple, list) -/
/-- the tuple at a, the list at b, item by item in new pairs -/
def ItTL (K : PySem.W.Frag) (a b : Addr) : It where
  go := fun i H => ∃ (xs ys : List V) (x y : V), SqT K H a xs ∧ SqL K H b ys ∧ xs[i]? = some x ∧ ys[i]? = some y
  yld := fun i H v H' => ∃ T x y, v = .ref T ∧ H T = none ∧ H' = upd H T (.tup [x, y]) ∧ (∀ xs, SqT K H a xs → xs[i]? = some x) ∧ ∀ ys, SqL K H b ys → ys[i]? = some y
  stop := fun i H => ∃ xs ys : List V, SqT K H a xs ∧ SqL K H b ys ∧ i ≤ xs.length ∧ i ≤ ys.length ∧ (i = xs.length ∨ i = ys.length)
structure Apart5 (z TI TO i1 i2 a b : Addr) : Prop where
  sep : ZipSep2 z TI TO i1 i2 [i1, a] [i2, b]
  ai1 : a ≠ i1
  bi2 : b ≠ i2
theorem apart5 {N a b : Addr} (ha : a < N) (hb : b < N) : Apart5 (N + 4) (N + 2) (N + 3) N (N + 1) a b :=
  ⟨zip_sep2 (fun c hc => by rw [List.mem_singleton.mp hc]; exact ha) (fun c hc => by rw [List.mem_singleton.mp hc]; exact hb), Nat.ne_of_lt ha, Nat.ne_of_lt (Nat.lt_succ_of_lt hb)⟩
def zst (z TI TO i1 i2 a b : Addr) (i : Nat) (h : Heap) : Prop := IsZip h z TI TO .none ∧ IsTupOf2 h TI (.ref i1) (.ref i2) ∧ (∃ x y, IsTupOf2 h TO x y) ∧ h.IsTupleIter i1 a i ∧ h.IsListIter i2 b i
theorem five {α : Type} {c z t o p q : α} (h : c ∈ [z, t, o, p, q]) : c = z ∨ c = t ∨ c = o ∨ c = p ∨ c = q := by simpa using h
theorem turnTL {P : Program} {w : World} {K : PySem.W.Frag} {elts : List Expr} {kk : Nat} {tpos : Pos} {a b z TI TO i1 i2 : Addr} (D : Apart5 z TI TO i1 i2 a b) : Turn P w K (.Tuple elts kk tpos) (ItTL K a b) [z, TI, TO, i1, i2] z (zst z TI TO i1 i2 a b) where
  mem := List.mem_cons_self
  obj := fun i h ⟨hz, hT, ⟨x, y, hO⟩, ⟨o1, e1, _, d1⟩, ⟨o2, e2, _, d2⟩⟩ c hc => by
    rcases five hc with rfl | rfl | rfl | rfl | rfl
    · exact ⟨_, hz, fun _ q => by cases q⟩
    · exact ⟨_, hT, fun _ q => by cases q⟩
    · exact ⟨_, hO, fun _ q => by cases q⟩
    · exact ⟨o1, e1, fun _ q => by rw [d1] at q; cases q⟩
    · exact ⟨o2, e2, fun _ q => by rw [d2] at q; cases q⟩
  keep := fun i h h' ⟨hz, hT, ⟨x, y, hO⟩, h1, h2⟩ k =>
    have k1 := k z (by simp) _ hz
    have k2 := k TI (by simp) _ hT
    have k3 := k TO (by simp) _ hO
    ⟨k1, k2, ⟨x, y, k3⟩, h1.at fun o q => k i1 (by simp) o q, h2.at fun o q => k i2 (by simp) o q⟩
  item := fun X eP ew eK hc i pins s σ H E I hf st hg => by
    cases eP; cases ew; cases eK
    obtain ⟨hz, hT, ⟨x0, y0, hO⟩, h1, h2⟩ := st
    obtain ⟨xs, ys, x, y, qx, qy, ex, ey⟩ := hg
    obtain ⟨us, rx, px, _⟩ := I.tuple qx
    obtain ⟨vs, ry, py, _⟩ := I.list qy
    obtain ⟨u, hu, ru⟩ := rx.get ex
    obtain ⟨v, hv, rv⟩ := ry.get ey
    have hh : X.A.in1.handled = none := I.ok.hd hc
    have D1 := Draws.tuple (prog := X.prog) (w := X.w) hh i1 a D.ai1 us.toArray
    have D2 := Draws.list (prog := X.prog) (w := X.w) hh i2 b D.bi2 vs.toArray
    have lu : i < us.toArray.size := by obtain ⟨h, _⟩ := List.getElem?_eq_some_iff.mp hu; simpa using h
    have lv : i < vs.toArray.size := by obtain ⟨h, _⟩ := List.getElem?_eq_some_iff.mp hv; simpa using h
    have zl : z < s.heap.objs.size := Heap.lt_size hz
    refine wpAny_pyNext_zipD2_item D.sep D1 D2 hz hT hO ⟨h1, px⟩ ⟨h2, py.isList⟩ lu lv fun u' v' h' tk pu pv z' O' s1' s2' pT _ hk => ?_
    have eu : u' = u := by
      have q : us[i]? = some u' := by simpa using pu
      rw [hu] at q
      exact (Option.some.inj q).symm
    have ev : v' = v := by
      have q : vs[i]? = some v' := by simpa using pv
      rw [hv] at q
      exact (Option.some.inj q).symm
    subst eu ev
    refine ⟨_, rfl, wpAny_letOwnedTupleGo_zip (s := { s with heap := h', toks := tk }) z' fun h2' z2 sb => ?_⟩
    have T2 : h2'.get? s.heap.objs.size = some { cls := .type "tuple", data := .seq #[u', v'] } := (sb.2 _ (Nat.ne_of_gt zl)).trans pT
    have ok : ObjOk X.prog X.w (upd H s.heap.objs.size (.tup [x, y])) h2' s.heap.objs.size (.tup [x, y]) := ⟨szl (by simp), [u', v'], .cons ru (.cons rv .nil), _, T2, rfl, _, rfl⟩
    have lt5 : ∀ c ∈ [z, TI, TO, i1, i2], c < s.heap.objs.size := fun c hc => by
      rcases five hc with rfl | rfl | rfl | rfl | rfl
      · exact zl
      · exact Heap.lt_size hT
      · exact Heap.lt_size hO
      · obtain ⟨_, e1, _⟩ := h1; exact Heap.lt_size e1
      · obtain ⟨_, e2, _⟩ := h2; exact Heap.lt_size e2
    refine ⟨.ref s.heap.objs.size, _, I.turnedNew (t' := tk) (ch := [z, TI, TO, i1, i2]) (fun c o hn q => ?_) hf (Nat.le_refl _) ok, rfl, ⟨_, x, y, rfl, I.hok.fresh (Nat.le_refl _), rfl, fun l hl => by rw [I.tuple_inj hl qx]; exact ex, fun l hl => by rw [I.list_inj hl qy]; exact ey⟩, ⟨z2, ?_, ⟨u', v', ?_⟩, ?_, ?_⟩, fun c hc => ?_⟩
    · have n1 : c ≠ z := fun q => hn (by simp [q])
      exact (sb.2 c n1).trans (hk c o n1 (fun q => hn (by simp [q])) (fun q => hn (by simp [q])) (fun q => hn (by simp [q])) q)
    · exact (sb.2 _ D.sep.TIz).trans (hk _ _ D.sep.TIz D.sep.TITO D.sep.TIi1 D.sep.TIi2 hT)
    · exact (sb.2 _ D.sep.TOz).trans O'
    · exact s1'.1.at fun o q => (sb.2 _ D.sep.zi1.symm).trans q
    · exact s2'.1.at fun o q => (sb.2 _ D.sep.zi2.symm).trans q
    · rw [upd_ne (Nat.ne_of_lt (lt5 c hc))]
      exact (hf c hc).1
  done := fun X eP ew eK hc i pins s σ H E I hf st hg => by
    cases eP; cases ew; cases eK
    obtain ⟨hz, hT, ⟨x0, y0, hO⟩, h1, h2⟩ := st
    obtain ⟨xs, ys, qx, qy, l1, l2, le⟩ := hg
    obtain ⟨us, rx, px, _⟩ := I.tuple qx
    obtain ⟨vs, ry, py, _⟩ := I.list qy
    have hh : X.A.in1.handled = none := I.ok.hd hc
    have D1 := Draws.tuple (prog := X.prog) (w := X.w) hh i1 a D.ai1 us.toArray
    have D2 := Draws.list (prog := X.prog) (w := X.w) hh i2 b D.bi2 vs.toArray
    have e1 : us.toArray.size = xs.length := by rw [List.size_toArray]; exact rx.length.symm
    have e2 : vs.toArray.size = ys.length := by rw [List.size_toArray]; exact ry.length.symm
    refine wpAny_pyNext_zipD2_end D.sep D1 D2 hz hT hO ⟨h1, px⟩ ⟨h2, py.isList⟩ (by rw [e1]; exact l1) (by rw [e2]; exact l2) (by rw [e1, e2]; exact le) fun h' tk hk => ⟨rfl, ?_⟩
    exact I.turnedL (t' := tk) (ch := [z, TI, TO, i1, i2]) (fun c o hn q => hk c o (fun q => hn (by simp [q])) (fun q => hn (by simp [q])) (fun q => hn (by simp [q])) (fun q => hn (by simp [q])) q) hf
  self := fun A i s Q E st h => wpAny_pyIter_zip st.1 h
def iTL (K : PySem.W.Frag) (ta : TA) : TI := fun σ H R => ta σ H fun vs H1 => ∃ a b xs ys, vs = [.ref a, .ref b] ∧ SqT K H1 a xs ∧ SqL K H1 b ys ∧ R (ItTL K a b) H1
theorem pi_zipTL {X : Cx} {e e2 : Expr} {ta : TA} {p pos tpos : Pos} {elts : List Expr} {kk : Nat} (hg : Gl X "zip") (hm : X.mg "zip" = none) (ha : PA X [e, e2] ta) (hs : starEach [e, e2] X.env = (false, eval e X.env) :: starEach [e2] X.env := by exact se_cons rfl)
    (hpl : (backTo pos (starEach [e2] X.env)).any (·.1) = false := by rfl) : PI X (.Tuple elts kk tpos) (.Call (.Name "zip" p) [e, e2] [] pos) (iTL X.K ta) := ⟨fun pins s σ H R I h => by
  refine Call_ (ld_blt I hg hm PyProof.Rows.boot_zip (PyProof.Rows.callWith_type1 (thn (ha.run pos pins s σ H _ I h) fun us s1 hu => ?_) hs hpl))
  obtain ⟨vs, H1, I1, r1, a, b, xs, ys, rfl, qx, qy, q⟩ := hu
  obtain ⟨u1, u2, rfl, ra, rb⟩ := vals2 r1
  cases ra
  cases rb
  obtain ⟨its, _, p1, _⟩ := I1.tuple qx
  obtain ⟨its2, _, p2, _⟩ := I1.list qy
  have la : a < s1.heap.objs.size := by obtain ⟨o, ho, _⟩ := p1; exact Heap.lt_size ho
  refine zip_begins2 (begins_tuple a its.toArray) (begins_list b its2.toArray) p1 p2.isList fun h' hz hT hO g1 g2 _ hk => wpAny_pyIter_zip hz ?_
  refine ⟨_, [s1.heap.objs.size + 4, s1.heap.objs.size + 2, s1.heap.objs.size + 3, s1.heap.objs.size, s1.heap.objs.size + 1], _, _, H1, rfl, I1.kept (t' := s1.toks) hk, turnTL (apart5 la p2.lt), ⟨hz, hT, ⟨_, _, hO⟩, ⟨_, g1, rfl, rfl⟩, ⟨_, g2, rfl, rfl⟩⟩, fun c hc => ?_, q⟩
  have hle : s1.heap.objs.size ≤ c := by
    have e5 := five hc
    rcases e5 with q | q | q | q | q <;> rw [q] <;> first | exact Nat.le_refl _ | exact Nat.le_add_right _ _
  exact I1.fpOk hle (I1.hok.fresh hle)⟩

/-! ### enumerate(tuple) -/
theorem meets_enumT {v : Value} {o : Obj} {Hc : Heap → Prop} (B : Begins v o Hc) :
    Meets (Builtin.«enumerate.__new__» ⟨[.type "enumerate", v], []⟩) (fun _ R s => Hc s.heap ∧
      R (.ok (.ret (.ref (s.heap.push o).objs.size))) { s with heap := (s.heap.push o).push { cls := .type "enumerate", data := .fields #[.none, .bool false, .ref s.heap.objs.size, rawInt 0, .none, .none] } }) :=
  .of_wp fun prog w A R s hcs => by
    obtain ⟨hp, gs, dr, tk, os⟩ := s
    obtain ⟨hv, hR⟩ := hcs
    have hsub := sub_enumerate
    have it : ∀ {A' : Around} {E : Value → Shared → Prop} {Q : Value → Shared → Prop}, Q (.ref hp.objs.size) ⟨hp.push o, gs, dr, tk, os⟩ → wpAny (model prog w) A' (pyIter v) Q E ⟨hp, gs, dr, tk, os⟩ := fun q => B.iter prog w _ _ ⟨hp, gs, dr, tk, os⟩ _ hv q
    wp_walk using it
    refine wpAny_stack_any fun _ => wpAny_pure ?_
    split
    · rename_i c _ _ _ _ _
      cases (c == Value.type "enumerate") <;> (wp_walk using it; exact ⟨_, rfl, hR⟩)
    · wp_walk using it
      exact ⟨_, rfl, hR⟩
theorem call_enumT {prog : Program} {w : World} {A : Around} {E : Value → Shared → Prop} {s : Shared} {v : Value} {o : Obj} {Hc : Heap → Prop} {Q : Value → Shared → Prop} (B : Begins v o Hc) (hv : Hc s.heap)
    (h : ∀ h', IsEnum h' (s.heap.objs.size + 1) s.heap.objs.size 0 .none → h'.get? s.heap.objs.size = some o → (∀ b o, s.heap.get? b = some o → h'.get? b = some o) → Q (.ref (s.heap.objs.size + 1)) { s with heap := h' }) :
    wpAny (model prog w) A (call (.type "enumerate") [v]) Q E s := by
  refine callType_new F.called_enumerate (by decide) (F.typeCall_enumerate_1 _) (F.newCall_enumerate_1 _) (fun ob => F.args_object_init_2 ob _) F.entry_enumerate_new (meets_enumT B) ⟨hv, ?_⟩
  have z1 : (s.heap.push o).objs.size = s.heap.objs.size + 1 := Heap.size_push ..
  have g := Heap.get?_push_size (s.heap.push o) (o := { cls := .type "enumerate", data := .fields #[.none, .bool false, .ref s.heap.objs.size, rawInt 0, .none, .none] }) rfl
  show _ ∧ _
  rw [z1] at g ⊢
  exact ⟨⟨_, g, rfl⟩, h _ g (Heap.get?_push_of_some _ (Heap.get?_push_size _ B.free)) fun b ob x => Heap.get?_push_of_some _ (Heap.get?_push_of_some _ x)⟩
def ItET (K : PySem.W.Frag) (a : Addr) : It where
  go := fun i H => ∃ (xs : List V) (x : V), SqT K H a xs ∧ xs[i]? = some x
  yld := fun i H v H' => ∃ T x, v = .ref T ∧ H T = none ∧ H' = upd H T (.tup [.int (i : Nat), x]) ∧ ∀ xs, SqT K H a xs → xs[i]? = some x
  stop := fun i H => ∃ xs : List V, SqT K H a xs ∧ i = xs.length
theorem turnET {P : Program} {w : World} {K : PySem.W.Frag} {elts : List Expr} {kk : Nat} {tpos : Pos} (a e it : Addr) (hei : e ≠ it) (hea : e ≠ a) (hai : a ≠ it) :
    Turn P w K (.Tuple elts kk tpos) (ItET K a) [e, it] e (fun i h => (∃ old, IsEnum h e it ((i : Nat) : Int) old) ∧ h.IsTupleIter it a i) where
  mem := List.mem_cons_self
  obj := fun i h ⟨⟨old, he⟩, ⟨o, ho, _, hd⟩⟩ b hb => by
    rcases (show b = e ∨ b = it by simpa using hb) with rfl | rfl
    · exact ⟨_, he, fun _ q => by cases q⟩
    · exact ⟨o, ho, fun _ q => by rw [hd] at q; cases q⟩
  keep := fun i h h' ⟨⟨old, he⟩, hi⟩ k => ⟨⟨old, k e (by simp) _ he⟩, hi.at fun o q => k it (by simp) o q⟩
  item := fun X eP ew eK hc i pins s σ H E I hf st hg => by
    cases eP; cases ew; cases eK
    obtain ⟨⟨old, he⟩, hit⟩ := st
    obtain ⟨xs, x, hq, hx⟩ := hg
    obtain ⟨us, rx, px, _⟩ := I.tuple hq
    obtain ⟨u, hu, ru⟩ := rx.get hx
    have hh : X.A.in1.handled = none := I.ok.hd hc
    have D1 := Draws.tuple (prog := X.prog) (w := X.w) hh it a hai us.toArray
    have lu : i < us.toArray.size := by obtain ⟨h, _⟩ := List.getElem?_eq_some_iff.mp hu; simpa using h
    have el : e < s.heap.objs.size := Heap.lt_size he
    have il : it < s.heap.objs.size := by obtain ⟨_, q, _⟩ := hit; exact Heap.lt_size q
    refine wpAny_pyNext_enum_itemD D1 he ⟨hit, px⟩ lu hei (by simp [hei, hea]) fun u' h' tk pu ho st' hT _ hk => ?_
    have eu : u' = u := by
      have q : us[i]? = some u' := by simpa using pu
      rw [hu] at q
      exact (Option.some.inj q).symm
    subst eu
    refine ⟨_, rfl, wpAny_letOwnedTupleGo_enum (s := { s with heap := h', toks := tk + 1 }) ho fun h2 he2 sb => ?_⟩
    have T2 : h2.get? s.heap.objs.size = some { cls := .type "tuple", data := .seq #[.int i tk, u'] } := (sb.2 _ (Nat.ne_of_gt el)).trans hT
    have ok : ObjOk X.prog X.w (upd H s.heap.objs.size (.tup [.int (i : Nat), x])) h2 s.heap.objs.size (.tup [.int (i : Nat), x]) := ⟨szl (by simp), [.int i tk, u'], .cons ⟨_, rfl⟩ (.cons ru .nil), _, T2, rfl, _, rfl⟩
    refine ⟨.ref s.heap.objs.size, _, I.turnedNew (t' := tk + 1) (ch := [e, it]) (fun b ob hb q => (sb.2 b (fun z => hb (by simp [z]))).trans (hk b ob (fun z => hb (by simp [z])) (fun z => hb (by simp [z])) q)) hf (Nat.le_refl _) ok, rfl, ⟨_, x, rfl, I.hok.fresh (Nat.le_refl _), rfl, fun ys hy => by rw [I.tuple_inj hy hq]; exact hx⟩, ⟨⟨u', ?_⟩, st'.1.at fun o q => (sb.2 it (Ne.symm hei)).trans q⟩, fun b hb => ?_⟩
    · have e1 : ((i + 1 : Nat) : Int) = (i : Int) + 1 := by omega
      rw [e1]
      exact he2
    · have lb : b < s.heap.objs.size := by
        rcases (show b = e ∨ b = it by simpa using hb) with z | z <;> rw [z] <;> assumption
      rw [upd_ne (Nat.ne_of_lt lb)]
      exact (hf b hb).1
  done := fun X eP ew eK hc i pins s σ H E I hf st hg => by
    cases eP; cases ew; cases eK
    obtain ⟨⟨old, he⟩, hit⟩ := st
    obtain ⟨xs, hq, hi⟩ := hg
    obtain ⟨us, rx, px, _⟩ := I.tuple hq
    have hh : X.A.in1.handled = none := I.ok.hd hc
    have D1 := Draws.tuple (prog := X.prog) (w := X.w) hh it a hai us.toArray
    have e1 : us.toArray.size = i := by rw [List.size_toArray, hi]; exact rx.length.symm
    obtain ⟨f0, f1, f2, f3, f4, f5⟩ := hf it (by simp)
    refine wpAny_pyNext_enum_endD D1 he (by rw [e1]; exact ⟨hit, px⟩) fun h' eb => ⟨rfl, I.turned (t' := s.toks) (fun b o hb q => eb b o hb q) f0 f1 f3 f4 f5⟩
  self := fun A i s Q E st h => let ⟨⟨_, he⟩, _⟩ := st; wpAny_pyIter_enum he h
def iET (K : PySem.W.Frag) (ta : TA) : TI := fun σ H R => ta σ H fun vs H1 => ∃ a xs, vs = [.ref a] ∧ SqT K H1 a xs ∧ R (ItET K a) H1
theorem pi_enumT {X : Cx} {e : Expr} {ta : TA} {p pos tpos : Pos} {elts : List Expr} {kk : Nat} (hg : Gl X "enumerate") (hm : X.mg "enumerate" = none) (ha : PA X [e] ta) (hs : starEach [e] X.env = [(false, eval e X.env)] := by rfl) :
    PI X (.Tuple elts kk tpos) (.Call (.Name "enumerate" p) [e] [] pos) (iET X.K ta) := ⟨fun pins s σ H R I h => by
  refine Call_ (ld_blt I hg hm boot_enumerate (PyProof.Rows.callWith_type1 (thn (ha.run pos pins s σ H _ I h) fun us s1 hu => ?_) hs rfl))
  obtain ⟨vs, H1, I1, r1, a, xs, rfl, qx, q⟩ := hu
  obtain ⟨u1, rfl, ra⟩ := vals1 r1
  cases ra
  obtain ⟨its, _, p1, _⟩ := I1.tuple qx
  have la : a < s1.heap.objs.size := by obtain ⟨o, ho, _⟩ := p1; exact Heap.lt_size ho
  refine call_enumT (begins_tuple a its.toArray) p1 fun h' he g1 hk => wpAny_pyIter_enum he ?_
  refine ⟨_, [s1.heap.objs.size + 1, s1.heap.objs.size], _, _, H1, rfl, I1.kept (t' := s1.toks) hk, turnET a (s1.heap.objs.size + 1) s1.heap.objs.size (Nat.succ_ne_self _) (Nat.ne_of_gt (Nat.lt_succ_of_lt la)) (Nat.ne_of_lt la), ⟨⟨.none, he⟩, ⟨_, g1, rfl, rfl⟩⟩, fun c hc => ?_, q⟩
  have hle : s1.heap.objs.size ≤ c := by
    rcases (show c = s1.heap.objs.size + 1 ∨ c = s1.heap.objs.size by simpa using hc) with z | z <;> rw [z] <;> first | exact Nat.le_refl _ | exact Nat.le_add_right _ _
  exact I1.fpOk hle (I1.hok.fresh hle)⟩

/-! ### on data -/
section
variable {K : PySem.W.Frag} {N : Hp}
theorem walks_zipTL {a b : Addr} {vs ws : List V} {ds es : List PyData} (h : N a = some (.tup vs)) (r : RpA N vs ds) (h' : N b = some (.lst ws)) (r' : RpA N ws es) : Walks N (ItTL K a b) (zipD ds es) where
  go := fun H e i hi => by
    have hl : (zipD ds es).length = min ds.length es.length := by unfold zipD; exact List.length_zipWith
    have h1 : i < vs.length := by rw [r.length]; omega
    have h2 : i < ws.length := by rw [r'.length]; omega
    exact ⟨vs, ws, vs[i], ws[i], SqT.of (e _ _ h), SqL.of (e _ _ h'), List.getElem?_eq_getElem h1, List.getElem?_eq_getElem h2⟩
  stop := fun H e => by
    have hl : (zipD ds es).length = min ds.length es.length := by unfold zipD; exact List.length_zipWith
    have e1 := r.length
    have e2 := r'.length
    exact ⟨vs, ws, SqT.of (e _ _ h), SqL.of (e _ _ h'), by omega, by omega, by omega⟩
  yld := fun H e i d x H' hd y => by
    obtain ⟨d1, d2, e1, e2, rfl⟩ := zipD_get hd
    obtain ⟨T, x1, x2, rfl, hT, hH, f1, f2⟩ := y
    obtain ⟨v, hv, rv⟩ := r.get e1
    obtain ⟨w, hw, rw'⟩ := r'.get e2
    have g1 := f1 vs (SqT.of (e _ _ h))
    have g2 := f2 ws (SqL.of (e _ _ h'))
    rw [hv] at g1
    rw [hw] at g2
    cases g1
    cases g2
    exact newPair e hT rv rw' hH
theorem walks_enumT {a : Addr} {vs : List V} {ds : List PyData} (h : N a = some (.tup vs)) (r : RpA N vs ds) : Walks N (ItET K a) (enumFrom 0 ds) where
  go := fun H e i hi => by
    rw [enumFrom_length] at hi
    have hi' : i < vs.length := by rw [r.length]; exact hi
    exact ⟨vs, vs[i], SqT.of (e _ _ h), List.getElem?_eq_getElem hi'⟩
  stop := fun H e => ⟨vs, SqT.of (e _ _ h), by rw [r.length, enumFrom_length]⟩
  yld := fun H e i d x H' hd y => by
    obtain ⟨d1, e1, rfl⟩ := enumFrom_get hd
    obtain ⟨T, x1, rfl, hT, hH, f1⟩ := y
    obtain ⟨v, hv, rv⟩ := r.get e1
    have g1 := f1 vs (SqT.of (e _ _ h))
    rw [hv] at g1
    cases g1
    rw [Nat.zero_add]
    exact newPair e hT (.int _) rv hH
end
section
variable {X : Cx} {k : Nat} {e e2 : Expr} {ρ : List Sl} {ds es : List PyData} {p pos tpos : Pos}
theorem i_zipTL {elts : List Expr} {kk : Nat} (hX : Good X k) (hg : Gl X "zip") (h : A X [e, e2] ρ [.tuple ds, .list es]) (hs : starEach [e, e2] X.env = (false, eval e X.env) :: starEach [e2] X.env := by exact se_cons rfl) (hpl : (backTo pos (starEach [e2] X.env)).any (·.1) = false := by rfl) :
    Ei0 X (.Tuple elts kk tpos) (.Call (.Name "zip" p) [e, e2] [] pos) ρ (zipD ds es) := fun G σ H n' pr hn R q => by
  refine WI.of (pi_zipTL hg hX.bt.zip (wa [e, e2]) hs hpl) ?_
  refine h G σ H n' pr hn _ fun vs ds' N H1 n1 e1 o1 r1 => ?_
  subst e1
  obtain ⟨v, w, rfl, rv, rw'⟩ := rpa2 r1
  cases rv with
  | tup ha hr => cases rw' with
    | lst hb hs' => exact ⟨_, _, _, _, rfl, SqT.of (o1.gr.nh _ _ ha), SqL.of (o1.gr.nh _ _ hb), q _ _ N H1 n1 rfl o1 (walks_zipTL ha hr hb hs')⟩
theorem i_enumT {elts : List Expr} {kk : Nat} (hX : Good X k) (hg : Gl X "enumerate") (h : A X [e] ρ [.tuple ds]) (hs : starEach [e] X.env = [(false, eval e X.env)] := by rfl) :
    Ei0 X (.Tuple elts kk tpos) (.Call (.Name "enumerate" p) [e] [] pos) ρ (enumFrom 0 ds) := fun G σ H n' pr hn R q => by
  refine WI.of (pi_enumT hg hX.bt.enumerate (wa [e]) hs) ?_
  refine h G σ H n' pr hn _ fun vs ds' N H1 n1 e1 o1 r1 => ?_
  subst e1
  obtain ⟨v, rfl, rv⟩ := rpa1 r1
  cases rv with
  | tup ha hr => exact ⟨_, _, rfl, SqT.of (o1.gr.nh _ _ ha), q _ _ N H1 n1 rfl o1 (walks_enumT ha hr)⟩
end
end Pn

set_option Elab.async false
set_option linter.all false
set_option maxRecDepth 100000
set_option maxHeartbeats 1000000
/-! PnF: the law's pure defs. -/
namespace Pn
open PySem PySem.Spec PyProof.Rows L2

mutual
def lstOf : PyData → PyData
  | .list ds => .list (lstOfL ds)
  | .tuple ds => .list (lstOfL ds)
  | d => d
def lstOfL : List PyData → List PyData
  | [] => []
  | d :: ds => lstOf d :: lstOfL ds
end
theorem lstOfL_map : ∀ ds : List PyData, lstOfL ds = ds.map lstOf
  | [] => by simp [lstOfL]
  | d :: ds => by simp [lstOfL, lstOfL_map ds]
theorem lstOf_list (ds : List PyData) : lstOf (.list ds) = .list (ds.map lstOf) := by rw [lstOf, lstOfL_map]
theorem lstOf_tuple (ds : List PyData) : lstOf (.tuple ds) = .list (ds.map lstOf) := by rw [lstOf, lstOfL_map]
theorem Flat.lst : ∀ {n : Nat} {d : PyData}, Flat n d → Flat n (lstOf d) ∧ tupOf (lstOf d) = tupOf d := by
  intro n
  induction n with
  | zero =>
    intro d h
    cases d <;> first | exact ⟨by simpa [lstOf] using h, by simp [lstOf]⟩ | exact absurd h Bool.false_ne_true
  | succ n ih =>
    have key : ∀ ds : List PyData, ds.length ≤ 1000 → (∀ d ∈ ds, Flat n d) → Flat (n + 1) (.list (ds.map lstOf)) ∧ (ds.map lstOf).map tupOf = ds.map tupOf := fun ds hl h => by
      refine ⟨⟨by rw [List.length_map]; exact hl, fun d hd => ?_⟩, ?_⟩
      · obtain ⟨e, he, rfl⟩ := List.mem_map.mp hd
        exact (ih (h e he)).1
      · rw [List.map_map]
        exact List.map_congr_left fun e he => (ih (h e he)).2
    intro d h
    cases d with
    | list ds =>
      rw [lstOf_list]
      obtain ⟨h1, h2⟩ := key ds h.1 h.2
      exact ⟨h1, by rw [tupOf_list, tupOf_list, h2]⟩
    | tuple ds =>
      rw [lstOf_tuple]
      obtain ⟨h1, h2⟩ := key ds h.1 h.2
      exact ⟨h1, by rw [tupOf_list, tupOf_tuple, h2]⟩
    | _ => exact ⟨by simpa [lstOf] using h, by simp [lstOf]⟩
theorem map_int_tupOf (ns : List Int) : (ns.map PyData.int).map tupOf = ns.map PyData.int := by
  rw [List.map_map]
  exact List.map_congr_left fun i _ => by simp [tupOf]
theorem tupOf_tupI (ns : List Int) : tupOf (tupI ns) = tupI ns := by
  unfold tupI
  rw [tupOf_tuple, map_int_tupOf]
theorem map_tupI_tupOf (gs : List (List Int)) : (gs.map tupI).map tupOf = gs.map tupI := by
  rw [List.map_map]
  exact List.map_congr_left fun g _ => tupOf_tupI g
theorem tupOf_tupII (gs : List (List Int)) : tupOf (tupII gs) = tupII gs := by
  unfold tupII
  rw [tupOf_tuple, map_tupI_tupOf]
theorem tupOf_layD (S : Int) (rows : List (List Int)) : tupOf (layD S rows) = layD S rows := by
  unfold layD
  rw [tupOf_tuple, List.map_cons, List.map_cons, tupOf_tuple, map_tupI_tupOf]
  simp [tupOf]
theorem flat_tupI {ns : List Int} (h : ns.length ≤ 1000) (n : Nat) : Flat (n + 1) (tupI ns) := by
  refine ⟨by rw [List.length_map]; exact h, fun d hd => ?_⟩
  obtain ⟨i, _, rfl⟩ := List.mem_map.mp hd
  cases n <;> rfl
theorem flat_rows {gs : List (List Int)} (h : gs.length ≤ 1000) (h2 : ∀ g ∈ gs, g.length ≤ 1000) (n : Nat) : Flat (n + 2) (.tuple (gs.map tupI)) := by
  refine ⟨by rw [List.length_map]; exact h, fun d hd => ?_⟩
  obtain ⟨g, hg, rfl⟩ := List.mem_map.mp hd
  exact flat_tupI (h2 g hg) n
theorem flat_layD {S : Int} {rows : List (List Int)} {L : Nat} (h : Lay S rows L) (n : Nat) : Flat (n + 3) (layD S rows) := by
  refine ⟨by show 2 ≤ 1000; decide, fun d hd => ?_⟩
  rcases List.mem_cons.mp hd with rfl | hd
  · rfl
  · rw [List.mem_singleton.mp hd]
    exact flat_rows h.nb (fun g hg => by rw [h.len g hg]; exact h.L2) n

def F_lists (n : Nat) : List PyData → PyData → Prop := fun ds r => ∃ d, ds = [d] ∧ Flat n d ∧ r = lstOf d
/-- truth values, lists of such -/
inductive SameOk : Nat → PyData → Prop
  | bl (n : Nat) (b : Bool) : SameOk n (.bool b)
  | lst (n : Nat) (ds : List PyData) : ds.length ≤ 1000 → (∀ d ∈ ds, SameOk n d) → SameOk (n + 1) (.list ds)
def F_same (n : Nat) : List PyData → PyData → Prop := fun ds r => ∃ d, ds = [d, d] ∧ SameOk n d ∧ r = .bool true
def F_thirds : List PyData → PyData → Prop := fun ds r => ds = [] ∧ r = layD 3 [[0, 1, 2, 3], [0, 1, 2, 3], [0, 1, 2, 3]]
def F_off : List PyData → PyData → Prop := fun ds r => ∃ S rows L g row, ds = [layD S rows, tupI g, tupI row] ∧ Lay S rows L ∧ Grp rows g ∧ row.length = L ∧ r = .int (offI S rows L g row)
def lett (S off own : Int) : List Int := ((List.range ((own + off) / S + 1).toNat).map fun (i : Nat) => (i : Int)).filter fun m => decide (absI (m * S - own) ≤ off)
def lets (S off : Int) (wide : List Int) : List (List Int) := [0] :: (wide.drop 1).map (lett S off)
def lstII (gs : List (List Int)) : PyData := .list (gs.map lstI)
def lstIII (ts : List (List (List Int))) : PyData := .list (ts.map lstII)
def F_let : List PyData → PyData → Prop := fun ds r => ∃ S rows L g off, ds = [layD S rows, tupI g, .int off] ∧ Lay S rows L ∧ Grp rows g ∧ 0 ≤ off ∧ off ≤ 10000 ∧ (∀ w, 0 ≤ exAt rows g w ∧ exAt rows g w ≤ 10000) ∧ r = lstII (lets S off (exRow rows L g))
section
variable {P : Program} {w : World} {K : PySem.W.Frag} {mg : Str → Option Value} {base : Heap} {f : Addr} {fd : FuncData}
theorem dn_lists (hB : Bt mg) (hf : FnP K "_law_lists" s_lists f fd) (hm : mg "_law_lists" = some (.ref f)) : ∀ n, Dn P w K mg base (n + 1) "_law_lists" p_lists (spD (F_lists n)) := by
  intro n
  induction n with
  | zero =>
    refine dn_pure hf hm hB sc_lists (hf.bindsN fun _ _ _ _ _ _ us hl => match us, hl with | [_], _ => rfl) (fun ds d h => ?_) (fun cdv A0 outer s H X0 gd ds r h => ?_)
    · obtain ⟨d, rfl, _⟩ := h
      rfl
    · obtain ⟨d, rfl, hd, rfl⟩ := h
      refine run_ret (e_if (u := false) (eb_val (Ev.to (e_isi2 gd (by rfl) (nm 0) (by rfl) gd.bt.list PyProof.Rows.boot_list (by rfl) gd.bt.tuple PyProof.Rows.boot_tuple (kit_list d) (kit_tuple d)) ?_)) (fun h => by cases h) fun _ => Ev.to (nm 0) ?_)
      · cases d <;> first | rfl | exact absurd hd Bool.false_ne_true
      · cases d <;> first | (simp [lstOf]; done) | exact absurd hd Bool.false_ne_true
  | succ n ih =>
    refine dn_pure hf hm hB sc_lists (hf.bindsN fun _ _ _ _ _ _ us hl => match us, hl with | [_], _ => rfl) (fun ds d h => ?_) (fun cdv A0 outer s H X0 gd ds r h => ?_)
    · obtain ⟨d, rfl, _⟩ := h
      rfl
    · obtain ⟨d, rfl, hd, rfl⟩ := h
      refine run_ret (e_if (u := isListD d || isTupD d) (eb_val (e_isi2 gd (by rfl) (nm 0) (by rfl) gd.bt.list PyProof.Rows.boot_list (by rfl) gd.bt.tuple PyProof.Rows.boot_tuple (kit_list d) (kit_tuple d))) (fun h => ?_) fun h => ?_)
      · have key : ∃ ds, (d = .list ds ∨ d = .tuple ds) ∧ ds.length ≤ 1000 ∧ (∀ d ∈ ds, Flat n d) ∧ lstOf d = .list (ds.map lstOf) := by
          cases d with
          | list ds =>
            obtain ⟨m, em, hl, hall⟩ := hd.list
            cases em
            exact ⟨ds, .inl rfl, hl, hall, lstOf_list ds⟩
          | tuple ds =>
            obtain ⟨m, em, hl, hall⟩ := hd.tuple
            cases em
            exact ⟨ds, .inr rfl, hl, hall, lstOf_tuple ds⟩
          | _ => cases h
        obtain ⟨ds, hd', hl, hall, e⟩ := key
        rw [e]
        refine e_lcN (Nn := n_lists) (sc := defScope s_lists) gd 1 rfl rfl id ds (by omega) ?_ lstOf fun a ha s H C cl fp => ?_
        · rw [List.map_id]
          rcases hd' with rfl | rfl
          · exact i_list (nm 0)
          · exact i_tup (nm 0)
        · exact e_call ih gd.blk (Nat.le_refl _) (by rfl) (a_cons (nm 1) a_nil) ⟨a, rfl, hall a ha, rfl⟩
      · refine Ev.to (nm 0) ?_
        cases d <;> first | (simp [lstOf]; done) | cases h
theorem dn_same (hB : Bt mg) (hf : FnP K "_law_same" s_same f fd) (hm : mg "_law_same" = some (.ref f)) : ∀ n, Dn P w K mg base (n + 1) "_law_same" p_same (spD (F_same n)) := by
  intro n
  induction n with
  | zero =>
    refine dn_pure hf hm hB sc_same (hf.bindsN fun _ _ _ _ _ _ us hl => match us, hl with | [_, _], _ => rfl) (fun ds d h => ?_) (fun cdv A0 outer s H X0 gd ds r h => ?_)
    · obtain ⟨d, rfl, _⟩ := h
      rfl
    · obtain ⟨d, rfl, hd, rfl⟩ := h
      cases hd with
      | bl _ b =>
        refine run_ifRet (b := false) (eb_val (e_isi2 gd (by rfl) (nm 1) (by rfl) gd.bt.list PyProof.Rows.boot_list (by rfl) gd.bt.tuple PyProof.Rows.boot_tuple (kit_list (.bool b)) (kit_tuple (.bool b)))) (fun h => by cases h) fun _ => ?_
        refine run_ifRet (b := true) (eb_w (ebw_or (t := false) (u := true) (eb_cmp (nm 1) e_non (b2_isN (d1 := .bool b))) fun _ => ebw_or1 (eb_val (e_isi2 gd (by rfl) (nm 1) (by rfl) gd.bt.bool PyProof.Rows.boot_bool (by rfl) gd.bt.str PyProof.Rows.boot_str (kit_bool (.bool b)) (kit_str (.bool b)))))) (fun _ => ?_) fun h => by cases h
        refine run_ret (Ev.to (e_and (t := decide (b = b)) (u := true) (e_cmp (nm 0) (nm 1) b2_eqB) fun _ => e_and (t := decide (true = true)) (u := true) (e_cmp (e_isBool gd (nm 0)) (e_isBool gd (nm 1)) b2_eqB) fun _ => e_one (Ev.to (e_cmp (e_cmp (nm 0) e_non (b2_isN (d1 := .bool b))) (e_cmp (nm 1) e_non (b2_isN (d1 := .bool b))) b2_eqB) (by rfl))) ?_)
        rw [decide_eq_true rfl]
        rfl
  | succ n ih =>
    refine dn_pure hf hm hB sc_same (hf.bindsN fun _ _ _ _ _ _ us hl => match us, hl with | [_, _], _ => rfl) (fun ds d h => ?_) (fun cdv A0 outer s H X0 gd ds r h => ?_)
    · obtain ⟨d, rfl, _⟩ := h
      rfl
    · obtain ⟨d, rfl, hd, rfl⟩ := h
      cases hd with
      | bl _ b =>
        refine run_ifRet (b := false) (eb_val (e_isi2 gd (by rfl) (nm 1) (by rfl) gd.bt.list PyProof.Rows.boot_list (by rfl) gd.bt.tuple PyProof.Rows.boot_tuple (kit_list (.bool b)) (kit_tuple (.bool b)))) (fun h => by cases h) fun _ => ?_
        refine run_ifRet (b := true) (eb_w (ebw_or (t := false) (u := true) (eb_cmp (nm 1) e_non (b2_isN (d1 := .bool b))) fun _ => ebw_or1 (eb_val (e_isi2 gd (by rfl) (nm 1) (by rfl) gd.bt.bool PyProof.Rows.boot_bool (by rfl) gd.bt.str PyProof.Rows.boot_str (kit_bool (.bool b)) (kit_str (.bool b)))))) (fun _ => ?_) fun h => by cases h
        refine run_ret (Ev.to (e_and (t := decide (b = b)) (u := true) (e_cmp (nm 0) (nm 1) b2_eqB) fun _ => e_and (t := decide (true = true)) (u := true) (e_cmp (e_isBool gd (nm 0)) (e_isBool gd (nm 1)) b2_eqB) fun _ => e_one (Ev.to (e_cmp (e_cmp (nm 0) e_non (b2_isN (d1 := .bool b))) (e_cmp (nm 1) e_non (b2_isN (d1 := .bool b))) b2_eqB) (by rfl))) ?_)
        rw [decide_eq_true rfl]
        rfl
      | lst _ ds hl hall =>
        refine run_ifRet (b := true) (eb_val (e_isi2 gd (by rfl) (nm 1) (by rfl) gd.bt.list PyProof.Rows.boot_list (by rfl) gd.bt.tuple PyProof.Rows.boot_tuple (kit_list (.list ds)) (kit_tuple (.list ds)))) (fun _ => ?_) fun h => by cases h
        refine run_ifRet (b := false) (eb_w (ebw_or (t := false) (u := false) (eb_cmp (e_isList gd (nm 0)) (e_isList gd (nm 1)) b2_neB) fun _ => ebw_or1 (eb_cmp (e_isTup gd (nm 0)) (e_isTup gd (nm 1)) b2_neB))) (fun h => by cases h) fun _ => ?_
        refine run_ret (Ev.to (e_and (t := decide ((ds.length : Int) = ds.length)) (u := true) (e_cmp (e_lenL gd (nm 0)) (e_lenL gd (nm 1)) b2_eqI) fun _ => e_one (Ev.to (e_all (bs := (ds.zip ds).map fun _ => true) gd (Ev.to (e_lcT (Nn := n_same) (sc := defScope s_same) gd 2 3 rfl rfl id id (ds.zip ds) (by rw [List.length_zip]; omega) ?_ (fun _ => .bool true) fun p hp s H C cl fp => ?_) ?_)) ?_)) ?_)
        · have e := zipD_map (α := PyData) (β := PyData) id id ds ds
          rw [List.map_id] at e
          rw [← e]
          exact i_zipL gd (by rfl) (a_cons (nm 0) (a_cons (nm 1) a_nil))
        · have hm := List.of_mem_zip hp
          have he : p.1 = p.2 := by
            obtain ⟨i, hi, e⟩ := List.getElem_of_mem hp
            rw [List.getElem_zip] at e
            rw [← e]
          exact e_call ih gd.blk (Nat.le_refl _) (by rfl) (a_cons (nm 2) (a_cons (nm 3) a_nil)) ⟨p.1, by rw [← he]; rfl, hall p.1 hm.1, rfl⟩
        · rw [List.map_map]
          rfl
        · rw [List.all_map]
          congr 1
          exact List.all_eq_true.mpr fun _ _ => rfl
        · rw [decide_eq_true rfl]
          rfl
theorem dn_thirds (hB : Bt mg) (hf : FnP K "_law_thirds" s_thirds f fd) (hm : mg "_law_thirds" = some (.ref f)) : Dn P w K mg base 1 "_law_thirds" p_thirds (spD F_thirds) := by
  refine dn_pure hf hm hB sc_thirds (hf.bindsN fun _ _ _ _ _ _ us hl => match us, hl with | [], _ => rfl) (fun ds d h => ?_) (fun cdv A0 outer s H X0 gd ds r h => ?_)
  · obtain ⟨rfl, _⟩ := h
    rfl
  · obtain ⟨rfl, rfl⟩ := h
    refine run_ret (Ev.to (e_tup (a_cons e_int (a_cons (e_tup (a_cons (e_tup (a_cons e_int (a_cons e_int (a_cons e_int (a_cons e_int a_nil))))) (a_cons (e_tup (a_cons e_int (a_cons e_int (a_cons e_int (a_cons e_int a_nil))))) (a_cons (e_tup (a_cons e_int (a_cons e_int (a_cons e_int (a_cons e_int a_nil))))) a_nil)))) a_nil))) ?_)
    rfl
theorem dn_exact (hB : Bt mg) (hf : FnP K "_law_exact" s_exact f fd) (hm : mg "_law_exact" = some (.ref f)) : Dn P w K mg base 1 "_law_exact" p_exact (spD F_exact_row) := by
  refine dn_pure hf hm hB sc_exact (hf.bindsN fun _ _ _ _ _ _ us hl => match us, hl with | [_, _], _ => rfl) (fun ds d h => ?_) (fun cdv A0 outer s H X0 gd ds r h => ?_)
  · obtain ⟨S, rows, L, g, rfl, _⟩ := h
    rfl
  · obtain ⟨S, rows, L, g, rfl, hL, hg, rfl⟩ := h
    refine run_ret (Ev.to (e_lcN (Nn := n_exact) (sc := defScope s_exact) gd 2 rfl rfl (fun (i : Nat) => .int (i : Int)) (List.range L) (by have := hL.L2; simp; omega) (i_rangeN gd (len_widths gd hL (nm 0)) (by have := hL.L2; omega)) (fun i => .int (exAt rows g i)) fun i hi s H C cl fp => ?_) ?_)
    · have hi' : i < L := List.mem_range.mp hi
      refine e_sum gd.blk (Ev.to (e_lcN (Nn := n_exact) gd.blk 3 rfl (sc_blk (sc := defScope s_exact) rfl) PyData.int g (by have := hg.1; omega) (i_tup (nm 1)) (fun p => .int ((rows.getD p.toNat []).getD i 0)) fun p hp s2 H2 C2 cl2 fp2 => ?_) ?_)
      · exact rows_at hL (nm 0) (nm 3) (nm 2) (hg.2 p hp) hi'
      · rw [List.map_map]
        rfl
    · unfold lstI exRow
      rw [List.map_map]
      rfl
theorem off_zip {S : Int} {rows : List (List Int)} {L : Nat} {g row : List Int} (h : row.length = L) : ((row.zip (exRow rows L g)).map fun p => absI (p.1 * S - p.2)) = (List.range L).map fun w => absI (row.getD w 0 * S - exAt rows g w) := by
  refine List.ext_getElem (by simp [exRow, h]) fun i h1 h2 => ?_
  simp [exRow] at h1 h2 ⊢
  rw [List.getElem?_eq_getElem (by omega)]
  rfl
theorem dn_off (hB : Bt mg) (D1 : Dn P w K mg base 1 "_law_exact" p_exact (spD F_exact_row)) (hf : FnP K "_law_off" s_off f fd) (hm : mg "_law_off" = some (.ref f)) : Dn P w K mg base 2 "_law_off" p_off (spD F_off) := by
  refine dn_pure hf hm hB sc_off (hf.bindsN fun _ _ _ _ _ _ us hl => match us, hl with | [_, _, _], _ => rfl) (fun ds d h => ?_) (fun cdv A0 outer s H X0 gd ds r h => ?_)
  · obtain ⟨S, rows, L, g, row, rfl, _⟩ := h
    rfl
  · obtain ⟨S, rows, L, g, row, rfl, hL, hg, hr, rfl⟩ := h
    have hz : (row.zip (exRow rows L g)).length = L := by rw [List.length_zip, hr, exRow_length, Nat.min_self]
    unfold offI
    rw [← off_zip hr]
    refine run_ret (e_max gd (Ev.to (e_lcT (Nn := n_off) (sc := defScope s_off) gd 3 4 rfl rfl PyData.int PyData.int (row.zip (exRow rows L g)) (by have := hL.L2; omega) (by rw [← zipD_map]; exact i_zipTL gd (by rfl) (a_cons (nm 2) (a_cons (e_call D1 gd (by decide) (by rfl) (a_cons (nm 0) (a_cons (nm 1) a_nil)) ⟨S, rows, L, g, rfl, hL, hg, rfl⟩) a_nil))) (fun p => .int (absI (p.1 * S - p.2))) fun p hp s H C cl fp => ?_) ?_) ?_)
    · exact e_abs gd.blk (e_bin (e_bin (nm 3) (e_ix (nm 0) e_int (bx_tup rfl)) (b2_mul (.inr ⟨by have := hL.S1; omega, by have := hL.S2; omega⟩))) (nm 4) b2_sub)
    · rw [List.map_map]
      rfl
    · intro h
      have := congrArg List.length h
      rw [List.length_map, hz] at this
      have := hL.L1
      simp at *
      omega
theorem dn_let (hB : Bt mg) (D1 : Dn P w K mg base 1 "_law_exact" p_exact (spD F_exact_row)) (hf : FnP K "_law_let" s_let f fd) (hm : mg "_law_let" = some (.ref f)) : Dn P w K mg base 2 "_law_let" p_let (spD F_let) := by
  refine dn_pure hf hm hB sc_let (hf.bindsN fun _ _ _ _ _ _ us hl => match us, hl with | [_, _, _], _ => rfl) (fun ds d h => ?_) (fun cdv A0 outer s H X0 gd ds r h => ?_)
  · obtain ⟨S, rows, L, g, off, rfl, _⟩ := h
    rfl
  · obtain ⟨S, rows, L, g, off, rfl, hL, hg, ho1, ho2, hx, rfl⟩ := h
    have hw : ∀ a ∈ exRow rows L g, 0 ≤ a ∧ a ≤ 10000 := fun a ha => by
      unfold exRow at ha
      obtain ⟨i, _, rfl⟩ := List.mem_map.mp ha
      exact hx i
    have hwl : (exRow rows L g).length ≤ 1000 := by rw [exRow_length]; exact hL.L2
    generalize hW : exRow rows L g = wide at hw hwl ⊢
    refine rx_start (Ω := fun _ _ _ => True) (Ψ := fun _ _ _ _ => False) ?_ (fun _ _ => True.intro) (fun _ _ _ _ h => h.elim)
    refine rx_own (c1 := 0) (c2 := 0) (i := 3) gd rfl Stb.triv (enew_lst (a_cons (e_lst (a_cons e_int a_nil)) a_nil) (fun ds e => by rw [e]; decide)) fun ds e p => ?_
    subst e
    refine rx_imp (Ω' := Own none p [.list [.int 0]]) (fun _ _ _ h => h.2) ?_
    refine rx_for (α := Int) (c1 := 0) (c2 := 0) (c3 := 0) (Pd := fun z => z = cutL (wide.map PyData.int) (some 1) none) gd .never (pg_name (i := 4) gd.nd rfl (.inr rfl)) Own.stb (i_list (e_sliceL (e_call D1 gd (by decide) (by rfl) (a_cons (nm 0) (a_cons (nm 1) a_nil)) ⟨S, rows, L, g, rfl, hL, hg, by rw [← hW]; rfl⟩) (l := some 1) (u := none) (by exact e_int) (by exact True.intro))) wide.length (fun ds e => ?_) (by omega)
    subst e
    refine ⟨PyData.int, wide.drop 1, [4], fun a ρ => ρ.set 4 (.dat (.int a)), fun i ρ' H0 N H => (∃ a b, ρ' = [.dat (layD S rows), .dat (tupI g), .dat (.int off), .raw (.ref p), a, b]) ∧ Own none p (((lets S off wide).take (i + 1)).map lstI) H0 N H, ?_, by rw [List.length_drop]; omega, fun _ _ => gok_name, fun _ _ => Own.stb.and, fun _ _ _ h => ⟨⟨_, _, rfl⟩, h⟩, fun i a ρ' ha => ?_, fun ρ' => ?_⟩
    · rw [show (some 1 : Option Int) = some ((1 : Nat) : Int) from rfl, cutL_from, List.map_drop]
    · refine rx_pure (fun _ _ _ h => h.1) fun ⟨x, y, hρ⟩ => ?_
      subst hρ
      refine rx_imp (fun _ _ _ h => h.2) ?_
      have ham : a ∈ wide := List.mem_of_mem_drop (List.mem_of_getElem? ha)
      obtain ⟨ha1, ha2⟩ := hw a ham
      have hS1 := hL.S1
      have hS2 := hL.S2
      have hq : (a + off) / S ≤ 20000 := by
        have : (a + off) / S ≤ a + off := Int.ediv_le_self _ (by omega)
        omega
      have hq0 : 0 ≤ (a + off) / S := Int.ediv_nonneg (by omega) (by omega)
      have hrng : (List.range ((a + off) / S + 1).toNat).map (fun (i : Nat) => PyData.int (i : Int)) = ((List.range ((a + off) / S + 1).toNat).map fun (i : Nat) => (i : Int)).map PyData.int := by rw [List.map_map]; rfl
      refine rx_append1 (i := 3) (c1 := 0) (c2 := 0) (P := fun z => z = lstI (lett S off a)) rfl rfl (.inl (e_lcNI (Nn := n_let) (sc := defScope s_let) gd 5 rfl rfl PyData.int ((List.range ((a + off) / S + 1).toNat).map fun (i : Nat) => (i : Int)) (by simp; omega) (by rw [← hrng, ← rangeD0]; exact i_range1 gd (by rfl) (a_cons (e_bin (e_bin (e_bin (nm 4) (nm 2) b2_add) (e_ix (nm 0) e_int (bx_tup rfl)) (b2_fdiv ⟨by omega, by omega⟩)) e_int b2_add) a_nil) (by omega) (by omega)) (fun m => decide (absI (m * S - a) ≤ off)) PyData.int (fun m hm s H C cl fp => ?_) (fun m hm ht s H C cl fp => ?_))) ?_ fun d hd => rx_nil fun _ _ _ h => ⟨⟨_, _, rfl⟩, ?_⟩
      · exact eb_cmp (e_abs gd.blk (e_bin (e_bin (nm 5) (e_ix (nm 0) e_int (bx_tup rfl)) (b2_mul (.inr ⟨by omega, by omega⟩))) (nm 4) b2_sub)) (nm 2) b2_le
      · exact nm 5
      · rw [List.length_map, List.length_take]
        have h2 : i < (wide.drop 1).length := by
          obtain ⟨h, _⟩ := List.getElem?_eq_some_iff.mp ha
          exact h
        rw [List.length_drop] at h2
        omega
      · subst hd
        have e : (lets S off wide)[i + 1]? = some (lett S off a) := by
          show ((wide.drop 1).map (lett S off))[i]? = _
          rw [List.getElem?_map, ha]
          rfl
        rw [List.take_add_one, e, List.map_append]
        exact h
    · refine rx_pure (fun _ _ _ h => h.1) fun ⟨x, y, hρ⟩ => ?_
      subst hρ
      refine rx_imp (fun _ _ _ h => h.2) ?_
      refine rx_freeze (p := p) (i := 3) rfl (fun _ _ _ h => h) (run_ret (Ev.to (nm 3) ?_))
      rw [List.take_of_length_le (by simp [lets])]
      rfl
end
end Pn

set_option Elab.async false
set_option linter.all false
set_option maxRecDepth 100000
set_option maxHeartbeats 1000000
/-! PnG: the law's own reading of rows and presses. -/
namespace Pn
open PySem PySem.Spec PyProof.Rows L2

theorem nf {b : Bool} (h : (!b) = false) : b = true := by cases b <;> first | rfl | cases h
/-! ### equality of lists of integers -/
theorem lay_ints : ∀ ns : List Int, PyData.canLayAll0 (ns.map .int) = true ∧ PyData.depthAll (ns.map .int) = 0
  | [] => ⟨rfl, rfl⟩
  | n :: ns => by
    obtain ⟨h1, h2⟩ := lay_ints ns
    exact ⟨by simp [PyData.canLayAll0, PyData.canLay0, h1], by simp [PyData.depthAll, PyData.depth, h2]⟩
theorem shp_lstI (ns : List Int) : SeqAt.shaped (lstI ns) = true := by
  obtain ⟨h1, h2⟩ := lay_ints ns
  simp [SeqAt.shaped, lstI, PyData.canLay0, PyData.depth, h1, h2]
theorem lay_lstII : ∀ gs : List (List Int), PyData.canLayAll0 (gs.map lstI) = true ∧ PyData.depthAll (gs.map lstI) ≤ 1
  | [] => ⟨rfl, Nat.zero_le _⟩
  | g :: gs => by
    obtain ⟨h1, h2⟩ := lay_lstII gs
    obtain ⟨h3, h4⟩ := lay_ints g
    refine ⟨by simp [PyData.canLayAll0, PyData.canLay0, lstI, h1, h3], ?_⟩
    rw [List.map_cons, PyData.depthAll, lstI, PyData.depth, h4]
    exact Nat.max_le.mpr ⟨Nat.le_refl _, h2⟩
theorem shp_lstII (gs : List (List Int)) : SeqAt.shaped (lstII gs) = true := by
  obtain ⟨h1, h2⟩ := lay_lstII gs
  have hd : PyData.depth (lstII gs) ≤ 64 := by
    rw [lstII, PyData.depth]
    omega
  unfold SeqAt.shaped
  rw [decide_eq_true hd, Bool.and_true, lstII, PyData.canLay0, h1]
theorem shp_nil : SeqAt.shaped (.list []) = true := by simp [SeqAt.shaped, PyData.canLay0, PyData.canLayAll0, PyData.depth, PyData.depthAll]
theorem eqv_nil (xs : List PyData) : PyData.eqv (.list xs) (.list []) = xs.isEmpty := by
  cases xs <;> simp [PyData.eqv, PyData.eqvAll]
theorem eqvAll_ints : ∀ xs ys : List Int, PyData.eqvAll (xs.map .int) (ys.map .int) = decide (xs = ys)
  | [], [] => by simp [PyData.eqvAll]
  | [], y :: ys => by simp [PyData.eqvAll]
  | x :: xs, [] => by simp [PyData.eqvAll]
  | x :: xs, y :: ys => by
    simp only [List.map_cons, PyData.eqvAll, PyData.eqv, eqvAll_ints xs ys]
    rw [Bool.beq_eq_decide_eq]
    by_cases h1 : x = y <;> by_cases h2 : xs = ys <;> simp [h1, h2]
theorem ones_nil {α : Type} (xs : List α) : PyData.eqv (.list (xs.map fun _ => PyData.int 1)) (.list []) = xs.isEmpty := by
  rw [eqv_nil]
  cases xs <;> rfl
theorem shp_ones {α : Type} (xs : List α) : SeqAt.shaped (.list (xs.map fun _ => PyData.int 1)) = true := by
  have h := shp_lstI (xs.map fun _ => 1)
  unfold lstI at h
  rw [List.map_map] at h
  exact h
theorem filter_empty {α : Type} (t : α → Bool) (xs : List α) : (xs.filter fun x => !t x).isEmpty = xs.all t := by
  induction xs with
  | nil => rfl
  | cons x xs ih =>
    rw [List.filter_cons, List.all_cons]
    cases h : t x with
    | true => simpa [h] using ih
    | false => rfl
/-- [1 for ..] == [], != [] -/
theorem b2_ones {X : Cx} {k : Nat} {α : Type} (hX : Good X k) (t : α → Bool) (xs : List α) : B2 X (compareOp .Eq) (.list ((xs.filter fun x => !t x).map fun _ => PyData.int 1)) (.list []) (.bool (xs.all t)) := by
  rw [← filter_empty, ← ones_nil]
  exact b2_eq hX (shp_ones _) shp_nil
theorem b2_onesN {X : Cx} {k : Nat} {α : Type} (hX : Good X k) (t : α → Bool) (xs : List α) : B2 X (compareOp .NotEq) (.list ((xs.filter fun x => !t x).map fun _ => PyData.int 1)) (.list []) (.bool (!xs.all t)) := by
  rw [← filter_empty, ← ones_nil]
  exact b2_ne hX (shp_ones _) shp_nil
theorem num_or (d : PyData) : (!isIntD d || isBoolD d) = !isNumD d := by cases d <;> rfl
theorem zip_next_all {ns : List Int} {n : Nat} (h : ns.length = n) : ((ns.zip (ns.drop 1)).all fun p => !(!decide (p.2 = p.1) && !decide (p.2 = p.1 + 1))) = stepsB ns n := by
  unfold stepsB
  have e : (ns.zip (ns.drop 1)) = (List.range (n - 1)).map fun i => (ns.getD i 0, ns.getD (i + 1) 0) := by
    refine List.ext_getElem (by simp [h]) fun i h1 h2 => ?_
    simp [h] at h1 h2 ⊢
    rw [List.getElem?_eq_getElem (by omega), List.getElem?_eq_getElem (by omega)]
    exact ⟨rfl, rfl⟩
  rw [e, List.all_map]
  congr 1
  funext i
  show (!(!decide (ns.getD (i + 1) 0 = ns.getD i 0) && !decide (ns.getD (i + 1) 0 = ns.getD i 0 + 1))) = step01 _
  unfold step01
  rw [Bool.not_and, Bool.not_not, Bool.not_not]
  generalize ns.getD (i + 1) 0 = b
  generalize ns.getD i 0 = a
  rw [show decide (b = a) = decide (b - a = 0) from decide_eq_decide.mpr (by omega), show decide (b = a + 1) = decide (b - a = 1) from decide_eq_decide.mpr (by omega)]
/-- a row as the law reads it -/
def F_is_line : List PyData → PyData → Prop := F_is_row_in
def F_are_rows : List PyData → PyData → Prop := fun ds r => ∃ S rows L split line off thing, ds = [layD S rows, tupII split, tupI line, .int off, thing] ∧ Lay S rows L ∧ split.length ≤ 1000 ∧ (∀ g ∈ split, Grp rows g) ∧ line.length = L ∧ r = .bool (folB S rows L split line off thing)
section
variable {P : Program} {w : World} {K : PySem.W.Frag} {mg : Str → Option Value} {base : Heap} {f : Addr} {fd : FuncData}
theorem dn_is_line (hB : Bt mg) (hf : FnP K "_law_is_line" s_is_line f fd) (hm : mg "_law_is_line" = some (.ref f)) : Dn P w K mg base 1 "_law_is_line" p_is_line (spD F_is_line) := by
  refine dn_pure hf hm hB sc_is_line (hf.bindsN fun _ _ _ _ _ _ us hl => match us, hl with | [_, _], _ => rfl) (fun ds d h => ?_) (fun cdv A0 outer s H X0 gd ds r h => ?_)
  · obtain ⟨d, n, rfl, _⟩ := h
    rfl
  · obtain ⟨d, n, rfl, hn1, hn2, rfl⟩ := h
    refine run_ifRet (b := !isTupD d || (!decide (((itemsOf d).length : Int) = n) || !(itemsOf d).all isNumD)) (eb_w (ebw_or (eb_not (eb_val (e_isTup gd (nm 0)))) fun h1 => ?_)) (fun h => ?_) fun h => ?_
    · cases d with
      | tuple ds =>
        refine ebw_or (eb_cmp (e_lenT gd (nm 0)) (nm 1) b2_neI) fun h2 => ebw_or1 (eb_cmp (e_lcNI (Nn := n_is_line) (sc := defScope s_is_line) gd 2 rfl rfl id ds ?_ (by rw [List.map_id]; exact i_tup (nm 0)) (fun d => !isNumD d) (fun _ => .int 1) (fun z hz s H C cl fp => ?_) fun z hz ht s H C cl fp => e_int) (e_lst a_nil) (b2_onesN gd isNumD ds))
        · have := of_decide_eq_true (nf (show (!decide ((ds.length : Int) = n)) = false from h2))
          omega
        · exact Et.to (eb_w (ebw_or (eb_not (eb_val (e_isInt gd.blk (nm 2)))) fun _ => ebw_or1 (eb_val (e_isBool gd.blk (nm 2))))) (num_or z)
      | _ => cases h1
    · refine run_ret (Ev.to e_bl ?_)
      cases d with
      | tuple ds =>
        rw [rowB_tup]
        have h' : (!decide ((ds.length : Int) = n) || !ds.all isNumD) = true := h
        simp only [Bool.or_eq_true, Bool.not_eq_true', decide_eq_false_iff_not] at h'
        rcases h' with h | h
        · have : ¬ ds.length = n := by omega
          rw [decide_eq_false this, Bool.false_and]
        · rw [h, Bool.false_and, Bool.and_false]
      | _ => rfl
    · cases d with
      | tuple ds =>
        have h' : (!decide ((ds.length : Int) = n) || !ds.all isNumD) = false := h
        simp only [Bool.or_eq_false_iff, Bool.not_eq_false', decide_eq_true_eq] at h'
        obtain ⟨h1, h2⟩ := h'
        have hl : ds.length = n := by omega
        have he := ints_of_nums h2
        generalize hns : ds.map intOf = ns at he
        have hnl : ns.length = n := by rw [← hns, List.length_map]; exact hl
        rw [rowB_tup, decide_eq_true hl, h2, hns, Bool.true_and, Bool.true_and]
        subst he
        refine run_ret (e_and (e_cmp (e_ix (nm 0) e_int (bx_tupI (ns := ns) (z := ns.getD 0 0) ?_)) e_int b2_eqI) fun _ => e_one ?_)
        · rw [atI_in 0 (by omega) (by omega)]
          rfl
        · rw [← zip_next_all hnl]
          refine e_cmp (e_lcTI (Nn := n_is_line) (sc := defScope s_is_line) gd 3 4 rfl rfl PyData.int PyData.int (ns.zip (ns.drop 1)) (by rw [List.length_zip]; omega) ?_ (fun p => !(!(!decide (p.2 = p.1) && !decide (p.2 = p.1 + 1)))) (fun _ => .int 1) (fun z hz s H C cl fp => ?_) fun z hz ht s H C cl fp => e_int) (e_lst a_nil) (b2_ones gd (fun p : Int × Int => !(!decide (p.2 = p.1) && !decide (p.2 = p.1 + 1))) _)
          · have e := cutL_from (ns.map PyData.int) 1
            rw [← List.map_drop] at e
            rw [← zipD_map, ← e]
            exact i_zipT gd (by rfl) (a_cons (nm 0) (a_cons (e_sliceT (nm 0) (by exact e_int) (by exact True.intro)) a_nil))
          · rw [Bool.not_not]
            exact eb_w (ebw_and (eb_cmp (nm 4) (nm 3) b2_neI) fun _ => ebw_and1 (eb_cmp (nm 4) (e_bin (nm 3) e_int b2_add) b2_neI))
      | _ => cases h
theorem all_widths {L : Nat} (f : Nat → Int) (line : List Int) (h : line.length = L) : decide ((List.range L).map f = line) = (List.range L).all fun w => decide (f w = line.getD w 0) := by
  rw [Bool.eq_iff_iff, decide_eq_true_iff, List.all_eq_true]
  constructor
  · intro e i hi
    have hi' := List.mem_range.mp hi
    have e2 : line.getD i 0 = f i := by
      rw [← e, List.getD_eq_getElem?_getD, List.getElem?_map, List.getElem?_range hi']
      rfl
    exact decide_eq_true e2.symm
  · intro e
    refine List.ext_getElem (by simp [h]) fun i h1 h2 => ?_
    have hi' : i < L := by simpa using h1
    have e2 := of_decide_eq_true (e i (List.mem_range.mpr hi'))
    rw [List.getElem_map, List.getElem_range, e2, List.getD_eq_getElem?_getD, List.getElem?_eq_getElem h2]
    rfl
theorem dn_are_rows (hB : Bt mg) (D3 : Dn P w K mg base 1 "_law_is_line" p_is_line (spD F_is_line)) (D4 : Dn P w K mg base 2 "_law_off" p_off (spD F_off))
    (hf : FnP K "_law_are_rows" s_are_rows f fd) (hm : mg "_law_are_rows" = some (.ref f)) : Dn P w K mg base 3 "_law_are_rows" p_are_rows (spD F_are_rows) := by
  refine dn_pure hf hm hB sc_are_rows (hf.bindsN fun _ _ _ _ _ _ us hl => match us, hl with | [_, _, _, _, _], _ => rfl) (fun ds d h => ?_) (fun cdv A0 outer s H X0 gd ds r h => ?_)
  · obtain ⟨S, rows, L, split, line, off, thing, rfl, _⟩ := h
    rfl
  · obtain ⟨S, rows, L, split, line, off, thing, rfl, hL, hs, hg, hln, rfl⟩ := h
    have hlen1 : (split.map tupI).length = split.length := List.length_map ..
    have hlen2 : (line.map PyData.int).length = L := by rw [List.length_map]; exact hln
    refine run_ifRet (b := !isTupD thing || (!decide (((itemsOf thing).length : Int) = (split.map tupI).length) || !((itemsOf thing).all fun t => rowB t (line.map PyData.int).length))) (eb_w (ebw_or (eb_not (eb_val (e_isTup gd (nm 4)))) fun h1 => ?_)) (fun h => ?_) fun h => ?_
    · cases thing with
      | tuple ts =>
        refine ebw_or (eb_cmp (e_lenT gd (nm 4)) (e_lenT gd (nm 1)) b2_neI) fun h2 => ebw_or1 (eb_not (eb_val ?_))
        have hl : (ts.length : Int) = (split.map tupI).length := of_decide_eq_true (nf (show (!decide ((ts.length : Int) = (split.map tupI).length)) = false from h2))
        refine Ev.to (e_all (bs := ts.map fun t => rowB t (line.map PyData.int).length) gd (Ev.to (e_lcN (Nn := n_are_rows) (sc := defScope s_are_rows) gd 6 rfl rfl id ts (by omega) (by rw [List.map_id]; exact i_tup (nm 4)) (fun z => .bool (rowB z (line.map PyData.int).length)) fun z hz s H C cl fp => e_call D3 gd.blk (by decide) (by rfl) (a_cons (nm 6) (a_cons (e_lenT gd.blk (nm 2)) a_nil)) ⟨z, _, rfl, by rw [hlen2]; exact hL.L1, by rw [hlen2]; exact hL.L2, rfl⟩) ?_)) ?_
        · rw [List.map_map]
          rfl
        · rw [List.all_map]
          rfl
      | _ => cases h1
    · refine run_ret (Ev.to e_bl ?_)
      rw [hlen1, hlen2] at h
      cases thing with
      | tuple ts =>
        have h' : (!decide ((ts.length : Int) = split.length) || !(ts.all fun t => rowB t L)) = true := h
        simp only [Bool.or_eq_true, Bool.not_eq_true', decide_eq_false_iff_not] at h'
        show PyData.bool false = PyData.bool (decide (ts.length = split.length) && _)
        rcases h' with h | h
        · have : ¬ ts.length = split.length := by omega
          rw [decide_eq_false this, Bool.false_and]
        · rw [show (ts.all fun t => rowB t L) = false from h, Bool.false_and, Bool.and_false]
      | _ => rfl
    · rw [hlen1, hlen2] at h
      cases thing with
      | tuple ts =>
        have h' : (!decide ((ts.length : Int) = split.length) || !(ts.all fun t => rowB t L)) = false := h
        simp only [Bool.or_eq_false_iff, Bool.not_eq_false', decide_eq_true_eq] at h'
        obtain ⟨h1, h2'⟩ := h'
        have hl : ts.length = split.length := by omega
        have hts : ts = (ts.map intsOf).map tupI := by
          have e : ts.map id = ts.map (tupI ∘ intsOf) := List.map_congr_left fun t ht => by
            obtain ⟨ns, e1, _, e2⟩ := rowB_tuple (List.all_eq_true.mp h2' t ht)
            show t = tupI (intsOf t)
            rw [e2, e1]
          rw [List.map_map, ← e, List.map_id]
        have hrow : ∀ t ∈ ts, (intsOf t).length = L := fun t ht => by
          obtain ⟨ns, e1, e3, e2⟩ := rowB_tuple (List.all_eq_true.mp h2' t ht)
          rw [e2, e3]
        have hz : (split.zip (ts.map intsOf)).length ≤ 100000 := by rw [List.length_zip]; omega
        refine run_ifRet (b := !((split.zip (ts.map intsOf)).all fun p => decide (offI S rows L p.1 p.2 ≤ off)))
          (eb_cmp (e_lcTI (Nn := n_are_rows) (sc := defScope s_are_rows) gd 5 6 rfl rfl tupI tupI (split.zip (ts.map intsOf)) hz (by rw [← zipD_map, ← hts]; exact i_zipT gd (by rfl) (a_cons (nm 1) (a_cons (nm 4) a_nil))) (fun p => !decide (offI S rows L p.1 p.2 ≤ off)) (fun _ => .int 1) (fun p hp s H C cl fp => ?_) (fun p hp ht s H C cl fp => e_int)) (e_lst a_nil) (b2_onesN gd (fun p : List Int × List Int => decide (offI S rows L p.1 p.2 ≤ off)) _)) (fun h => ?_) fun h => ?_
        · have hm := List.of_mem_zip hp
          obtain ⟨t, ht, et⟩ := List.mem_map.mp hm.2
          refine Et.to (eb_cmp (e_call D4 gd.blk (by decide) (by rfl) (a_cons (nm 0) (a_cons (nm 5) (a_cons (nm 6) a_nil))) ⟨S, rows, L, p.1, p.2, rfl, hL, hg p.1 hm.1, by rw [← et]; exact hrow t ht, rfl⟩) (nm 3) b2_gt) ?_
          rw [← decide_not]
          exact decide_eq_decide.mpr (by omega)
        · refine run_ret (Ev.to e_bl ?_)
          show PyData.bool false = PyData.bool (decide (ts.length = split.length) && ((ts.all fun t => rowB t L) && (((split.zip ts).all fun p => decide (offI S rows L p.1 (intsOf p.2) ≤ off)) && _)))
          rw [Bool.not_eq_true', List.zip_map_right, List.all_map] at h
          rw [show ((split.zip ts).all fun p => decide (offI S rows L p.1 (intsOf p.2) ≤ off)) = false from h, Bool.false_and, Bool.and_false, Bool.and_false]
        · rw [Bool.not_eq_false', List.zip_map_right, List.all_map] at h
          refine run_ret (Ev.to (e_cmp (e_lcN (Nn := n_are_rows) (sc := defScope s_are_rows) gd 7 rfl rfl (fun (i : Nat) => .int (i : Int)) (List.range L) (by have := hL.L2; simp; omega) (i_rangeN gd (Ev.to (e_lenT gd (ds := line.map PyData.int) (nm 2)) (by rw [hlen2])) (by have := hL.L2; omega)) (fun w => .int (ts.map fun t => (intsOf t).getD w 0).sum) fun i hi s H C cl fp => ?_) (e_listT gd (nm 2)) (d := .bool (decide ((List.range L).map (fun w => (ts.map fun t => (intsOf t).getD w 0).sum) = line))) ?_) ?_)
          · have hi' : i < L := List.mem_range.mp hi
            refine e_sum gd.blk (Ev.to (e_lcN (Nn := n_are_rows) (sc := relS _ (defScope s_are_rows)) gd.blk 6 rfl (sc_blk (sc := defScope s_are_rows) rfl) id ts (by omega) (by rw [List.map_id]; exact i_tup (nm 4)) (fun t => .int ((intsOf t).getD i 0)) fun t ht s2 H2 C2 cl2 fp2 => ?_) ?_)
            · obtain ⟨ns, e1, e3, e2⟩ := rowB_tuple (List.all_eq_true.mp h2' t ht)
              refine e_ix (nm 6) (nm 7) ?_
              rw [e2, e1]
              refine bx_tupI ?_
              rw [atI_in 0 (by omega) (by omega)]
              rfl
            · rw [List.map_map]
              rfl
          · rw [← eqvAll_ints, List.map_map]
            have e := b2_eq (X := cxD P w K mg base n_are_rows "_law_are_rows" (defScope s_are_rows) f cdv A0 outer s H X0) gd (shp_lstI ((List.range L).map fun w => (ts.map fun t => (intsOf t).getD w 0).sum)) (shp_lstI line)
            unfold lstI at e
            rw [List.map_map] at e
            simp only [PyData.eqv] at e
            exact e
          · rw [all_widths _ _ hln]
            show _ = PyData.bool (decide (ts.length = split.length) && ((ts.all fun t => rowB t L) && (((split.zip ts).all fun p => decide (offI S rows L p.1 (intsOf p.2) ≤ off)) && _)))
            rw [decide_eq_true hl, h2', show ((split.zip ts).all fun p => decide (offI S rows L p.1 (intsOf p.2) ≤ off)) = true from h, Bool.true_and, Bool.true_and, Bool.true_and]
      | _ => cases h
end
end Pn

set_option Elab.async false
set_option linter.all false
set_option maxRecDepth 100000
set_option maxHeartbeats 1000000
/-! PnH: presses as the law reads them; the plain law of presses. -/
namespace Pn
open PySem PySem.Spec PyProof.Rows L2

/-! ### plain -/
def lastI (xs : List Int) : Int := xs.getLastD 0
theorem atI_lastI {xs : List Int} (h : xs ≠ []) : atI xs (-1) = some (lastI xs) := by
  have e := List.dropLast_concat_getLast h
  have e2 : lastI xs = xs.getLast h := by
    unfold lastI
    rw [List.getLastD_eq_getLast?, List.getLast?_eq_some_getLast h]
    rfl
  rw [e2]
  have := atI_last xs.dropLast (xs.getLast h)
  rw [e] at this
  exact this
def bareA (t : List (List (List Int))) : Bool := t.any fun b => b.any List.isEmpty
def mustA (t : List (List (List Int))) (lo hi : Nat) : Int := (t.map fun b => max 0 ((b.getD hi []).getD 0 0 - lastI (b.getD lo []))).sum
def canA (t : List (List (List Int))) (lo hi : Nat) : Int := (t.map fun b => max 0 (lastI (b.getD hi []) - (b.getD lo []).getD 0 0)).sum
def pressA (t : List (List (List Int))) (line : List Int) (w : Str) (lo hi : Int) : Bool :=
  if w = sBare then decide (0 ≤ lo) && decide (lo < t.length) && (decide (0 ≤ hi) && decide (hi < line.length) && ((t.getD lo.toNat []).getD hi.toNat []).isEmpty)
  else if w = sMore ∨ w = sFewer then
    (if bareA t then false else if 0 ≤ lo ∧ lo < hi ∧ hi < line.length then
      (if w = sMore then decide (line.getD hi.toNat 0 - line.getD lo.toNat 0 < mustA t lo.toNat hi.toNat) else decide (canA t lo.toNat hi.toNat < line.getD hi.toNat 0 - line.getD lo.toNat 0)) else false)
  else false
def pressAD (t : List (List (List Int))) (line : List Int) : PyData → Bool
  | .tuple [.str w, .int lo, .int hi] => pressA t line w lo hi
  | _ => false
/-- what is let, by what bounds it -/
def Rl (l : List Int) (o : Bd1) : Prop := l.isEmpty = o.isNone ∧ ∀ a b, o = some (a, b) → l.getD 0 0 = a ∧ lastI l = b
theorem mem_lett {S off own m : Int} (hS : 1 ≤ S) : m ∈ lett S off own ↔ max 0 (0 - (off - own) / S) ≤ m ∧ m ≤ (own + off) / S := by
  unfold lett
  rw [List.mem_filter, List.mem_map, decide_eq_true_iff]
  have hlo : (0 - (off - own) / S ≤ m) ↔ own - off ≤ m * S := by
    have h := Int.le_ediv_iff_mul_le (a := -m) (b := off - own) (c := S) (by omega)
    rw [Int.neg_mul] at h
    omega
  have hhi : m ≤ (own + off) / S ↔ m * S ≤ own + off := Int.le_ediv_iff_mul_le (by omega)
  have habs : absI (m * S - own) ≤ off ↔ own - off ≤ m * S ∧ m * S ≤ own + off := by
    unfold absI
    split <;> omega
  rw [habs]
  constructor
  · rintro ⟨⟨i, hi, rfl⟩, h1, h2⟩
    exact ⟨by have := hlo.mpr h1; omega, hhi.mpr h2⟩
  · rintro ⟨h1, h2⟩
    refine ⟨⟨m.toNat, ?_, by omega⟩, hlo.mp (by omega), hhi.mp h2⟩
    rw [List.mem_range]
    omega
theorem lett_sorted (S off own : Int) : (lett S off own).Pairwise (· < ·) := by
  unfold lett
  refine List.Pairwise.filter _ (List.Pairwise.map _ (fun a b h => ?_) List.pairwise_lt_range)
  omega
theorem rl_lett {S off own : Int} (hS : 1 ≤ S) : Rl (lett S off own) (bnd S off own) := by
  have hm := fun m => mem_lett (off := off) (own := own) (m := m) hS
  have hp := lett_sorted S off own
  generalize lett S off own = l at hm hp ⊢
  unfold bnd
  generalize max 0 (0 - (off - own) / S) = a at hm ⊢
  generalize (own + off) / S = b at hm ⊢
  split
  · rename_i hab
    have ha := (hm a).mpr ⟨Int.le_refl _, hab⟩
    have hb := (hm b).mpr ⟨hab, Int.le_refl _⟩
    have hne : l ≠ [] := List.ne_nil_of_mem ha
    refine ⟨by cases l <;> first | rfl | exact absurd rfl hne, fun a' b' e => ?_⟩
    have e' : (a, b) = (a', b') := Option.some.inj e
    cases e'
    constructor
    · cases l with
      | nil => exact absurd rfl hne
      | cons x r =>
        rw [List.pairwise_cons] at hp
        have hx := (hm x).mp List.mem_cons_self
        show x = a
        rcases List.mem_cons.mp ha with h | h
        · exact h.symm
        · have := hp.1 a h
          omega
    · have e := List.dropLast_concat_getLast hne
      have e2 : lastI l = l.getLast hne := by
        unfold lastI
        rw [List.getLastD_eq_getLast?, List.getLast?_eq_some_getLast hne]
        rfl
      rw [e2]
      have hl := (hm _).mp (List.getLast_mem hne)
      rw [← e] at hp hb
      rw [List.pairwise_append] at hp
      rcases List.mem_append.mp hb with h | h
      · have := hp.2.2 b h _ (List.mem_singleton.mpr rfl)
        omega
      · exact (List.mem_singleton.mp h).symm
  · rename_i hab
    refine ⟨?_, fun a' b' e => by cases e⟩
    cases l with
    | nil => rfl
    | cons x r =>
      have := (hm x).mp List.mem_cons_self
      omega
theorem rl_at {S off : Int} {wide : List Int} (hS : 1 ≤ S) {i : Nat} (hi : i < wide.length) : Rl ((lets S off wide).getD i []) ((bounds S off wide).getD i none) := by
  unfold lets bounds
  cases i with
  | zero => exact ⟨rfl, fun a b e => by cases e; exact ⟨rfl, rfl⟩⟩
  | succ i =>
    have hl : i < (wide.drop 1).length := by rw [List.length_drop]; omega
    rw [List.getD_cons_succ, List.getD_cons_succ, List.getD_eq_getElem?_getD, List.getD_eq_getElem?_getD, List.getElem?_map, List.getElem?_map, List.getElem?_eq_getElem hl]
    exact rl_lett hS
theorem any_lets {S off : Int} {wide : List Int} (hS : 1 ≤ S) : (lets S off wide).any List.isEmpty = (bounds S off wide).any Option.isNone := by
  unfold lets bounds
  rw [List.any_cons, List.any_cons, List.any_map, List.any_map]
  congr 1
  congr 1
  funext own
  exact (rl_lett hS).1
def letsOf (S off : Int) (rows : List (List Int)) (L : Nat) (split : List (List Int)) : List (List (List Int)) := split.map fun g => lets S off (exRow rows L g)
theorem bareA_eq {S off : Int} {rows : List (List Int)} {L : Nat} {split : List (List Int)} (hS : 1 ≤ S) : bareA (letsOf S off rows L split) = bare (tbl S off rows L split) := by
  unfold bareA bare letsOf tbl
  rw [List.any_map, List.any_map]
  congr 1
  funext g
  exact any_lets hS
theorem letsOf_ok {S off : Int} {rows : List (List Int)} {L : Nat} {split : List (List Int)} (hL : Lay S rows L) : ∀ b ∈ letsOf S off rows L split, b.length = L := fun b hb => by
  obtain ⟨g, _, rfl⟩ := List.mem_map.mp hb
  simp only [lets, List.length_cons, List.length_map, List.length_drop, exRow_length]
  have := hL.L1
  omega
theorem pressA_eq {S off : Int} {rows : List (List Int)} {L : Nat} {split : List (List Int)} {line : List Int} (hL : Lay S rows L) (hs : split.length ≤ 1000) (hln : line.length = L) (w : Str) (lo hi : Int) :
    pressA (letsOf S off rows L split) line w lo hi = pressB (tbl S off rows L split) line w lo hi := by
  have hS := hL.S1
  have hl1 : (letsOf S off rows L split).length = (tbl S off rows L split).length := by rw [tbl_length, letsOf, List.length_map]
  have hat : ∀ g, ∀ i, i < L → Rl ((lets S off (exRow rows L g)).getD i []) ((bounds S off (exRow rows L g)).getD i none) := fun g i hi => rl_at hS (by rw [exRow_length]; exact hi)
  unfold pressA pressB
  rw [hl1, bareA_eq hS]
  split
  · cases hA : decide (0 ≤ lo) && decide (lo < ((tbl S off rows L split).length : Int)) with
    | false => rw [Bool.false_and, Bool.false_and]
    | true =>
      cases hB : decide (0 ≤ hi) && decide (hi < (line.length : Int)) with
      | false => rw [Bool.false_and, Bool.false_and]
      | true =>
        simp only [Bool.and_eq_true, decide_eq_true_eq, tbl_length] at hA hB
        have h1 : lo.toNat < split.length := by omega
        rw [Bool.true_and, Bool.true_and, Bool.true_and, Bool.true_and]
        unfold letsOf tbl
        rw [List.getD_eq_getElem?_getD (l := split.map _), List.getD_eq_getElem?_getD (l := split.map fun g => bounds S off (exRow rows L g)), List.getElem?_map, List.getElem?_map, List.getElem?_eq_getElem h1]
        exact (hat _ hi.toNat (by omega)).1
  · split
    · by_cases hb : bare (tbl S off rows L split) = true
      · rw [if_pos hb, if_pos hb]
      · rw [if_neg hb, if_neg hb]
        split
        · rename_i hr
          have hb' : bare (tbl S off rows L split) = false := by simpa using hb
          have hok := tbl_ok (S := S) (off := off) (split := split) hL hs
          have key : ∀ g ∈ split, ∀ i, i < L → ((lets S off (exRow rows L g)).getD i []).getD 0 0 = (at1 (bounds S off (exRow rows L g)) i).1 ∧ lastI ((lets S off (exRow rows L g)).getD i []) = (at1 (bounds S off (exRow rows L g)) i).2 := fun g hg i hi =>
            (hat g i hi).2 _ _ (at1_some hok hb' (b := bounds S off (exRow rows L g)) (List.mem_map.mpr ⟨g, hg, rfl⟩) hi)
          have e1 : mustA (letsOf S off rows L split) lo.toNat hi.toNat = mustIn (tbl S off rows L split) lo.toNat hi.toNat := by
            unfold mustA mustIn letsOf tbl
            rw [List.map_map, List.map_map]
            congr 1
            refine List.map_congr_left fun g hg => ?_
            show max 0 (_ - _) = max 0 (_ - _)
            rw [(key g hg hi.toNat (by omega)).1, (key g hg lo.toNat (by omega)).2]
          have e2 : canA (letsOf S off rows L split) lo.toNat hi.toNat = canIn (tbl S off rows L split) lo.toNat hi.toNat := by
            unfold canA canIn letsOf tbl
            rw [List.map_map, List.map_map]
            congr 1
            refine List.map_congr_left fun g hg => ?_
            show max 0 (_ - _) = max 0 (_ - _)
            rw [(key g hg hi.toNat (by omega)).2, (key g hg lo.toNat (by omega)).1]
          rw [e1, e2]
        · rfl
    · rfl
theorem pressAD_eq {S off : Int} {rows : List (List Int)} {L : Nat} {split : List (List Int)} {line : List Int} (hL : Lay S rows L) (hs : split.length ≤ 1000) (hln : line.length = L) (thing : PyData) :
    pressAD (letsOf S off rows L split) line thing = pressD (tbl S off rows L split) line thing := by
  unfold pressAD pressD
  split
  · exact pressA_eq hL hs hln _ _ _
  · rename_i hx
    first
      | rfl
      | (split
         · exact (hx _ _ _ rfl).elim
         · rfl)
theorem pressA_none {t : List (List (List Int))} {line : List Int} {thing : PyData} (h : (!lenTupD thing 3 || (!isStrD ((itemsOf thing).getD 0 .none) || !((itemsOf thing).drop 1).all isNumD)) = true) : pressAD t line thing = false := by
  cases q : pressAD t line thing with
  | false => rfl
  | true =>
    unfold pressAD at q
    split at q
    · exact absurd (show false = true from h) Bool.false_ne_true
    · cases q
def F_is_press_by : List PyData → PyData → Prop := fun ds r => ∃ t line L thing, ds = [lstIII t, tupI line, thing] ∧ t.length ≤ 1000 ∧ L ≤ 1000 ∧ (∀ b ∈ t, b.length = L) ∧ line.length = L ∧ r = .bool (pressAD t line thing)
theorem in_nil {X : Cx} {k : Nat} (hX : Good X k) (b : List (List Int)) : B2 X (compareOp .In) (.list []) (lstII b) (.bool (b.any List.isEmpty)) := by
  have e := b2_inL (X := X) hX shp_nil (shp_lstII b)
  have e2 : ((b.map lstI).any fun z => PyData.eqv z (.list [])) = b.any List.isEmpty := by
    rw [List.any_map]
    congr 1
    funext l
    show PyData.eqv (.list (l.map PyData.int)) (.list []) = _
    rw [eqv_nil]
    cases l <;> rfl
  rw [e2] at e
  exact e
section
variable {P : Program} {w0 : World} {K : PySem.W.Frag} {mg : Str → Option Value} {base : Heap} {f : Addr} {fd : FuncData}
theorem dn_is_press_by (hB : Bt mg) (hf : FnP K "_law_is_press_by" s_is_press_by f fd) (hm : mg "_law_is_press_by" = some (.ref f)) : Dn P w0 K mg base 1 "_law_is_press_by" p_is_press_by (spD F_is_press_by) := by
  refine dn_pure hf hm hB sc_is_press_by (hf.bindsN fun _ _ _ _ _ _ us hl => match us, hl with | [_, _, _], _ => rfl) (fun ds d h => ?_) (fun cdv A0 outer s H X0 gd ds r h => ?_)
  · obtain ⟨t, line, L, thing, rfl, _⟩ := h
    rfl
  · obtain ⟨t, line, L, thing, rfl, ht, hL, hb, hln, rfl⟩ := h
    have hlen1 : (t.map lstII).length = t.length := List.length_map ..
    have hlen2 : (line.map PyData.int).length = L := by rw [List.length_map]; exact hln
    refine run_ifRet (b := !isTupD thing || (!decide (((itemsOf thing).length : Int) = 3) || !isStrD ((itemsOf thing).getD 0 .none))) (eb_w (ebw_or (eb_not (eb_val (e_isTup gd (nm 2)))) fun h1 => ?_)) (fun h => ?_) fun h => ?_
    · cases thing with
      | tuple ds =>
        refine ebw_or (eb_cmp (e_lenT gd (nm 2)) e_int b2_neI) fun h2 => ebw_or1 (eb_not (eb_val (e_isStr gd (e_ix (nm 2) e_int (bx_tup (d := ds.getD 0 .none) ?_)))))
        have := of_decide_eq_true (nf (show (!decide ((ds.length : Int) = 3)) = false from h2))
        rw [atI_in .none (by omega) (by omega)]
        rfl
      | _ => cases h1
    · refine run_ret (Ev.to e_bl ?_)
      rw [pressA_none]
      cases thing with
      | tuple ds =>
        have h' : (!decide ((ds.length : Int) = 3) || !isStrD (ds.getD 0 .none)) = true := h
        show (!decide ((ds.length : Int) = 3) || (!isStrD (ds.getD 0 .none) || _)) = true
        rw [← Bool.or_assoc, h', Bool.true_or]
      | _ => rfl
    · cases thing with
      | tuple ds =>
        have h' : (!decide ((ds.length : Int) = 3) || !isStrD (ds.getD 0 .none)) = false := h
        simp only [Bool.or_eq_false_iff, Bool.not_eq_false', decide_eq_true_eq] at h'
        obtain ⟨h1, h2⟩ := h'
        refine run_ifRet (b := !(ds.drop 1).all isNumD) (eb_cmp (e_lcNI (Nn := n_is_press_by) (sc := defScope s_is_press_by) gd 6 rfl rfl id (ds.drop 1) (by rw [List.length_drop]; omega) ?_ (fun d => !isNumD d) (fun _ => .int 1) (fun z hz s H C cl fp => ?_) fun z hz ht s H C cl fp => e_int) (e_lst a_nil) (b2_onesN gd isNumD (ds.drop 1))) (fun h => ?_) fun h => ?_
        · rw [List.map_id, ← cutL_from]
          exact i_tup (e_sliceT (nm 2) (by exact e_int) (by exact True.intro))
        · exact Et.to (eb_w (ebw_or (eb_not (eb_val (e_isInt gd.blk (nm 6)))) fun _ => ebw_or1 (eb_val (e_isBool gd.blk (nm 6))))) (num_or z)
        · refine run_ret (Ev.to e_bl ?_)
          rw [pressA_none]
          show (_ || (_ || !(ds.drop 1).all isNumD)) = true
          rw [h, Bool.or_true, Bool.or_true]
        · obtain ⟨w, lo, hi, e⟩ := press_shape (thing := .tuple ds) (by
            show (!decide ((ds.length : Int) = 3) || (!isStrD (ds.getD 0 .none) || !(ds.drop 1).all isNumD)) = false
            rw [h, h2, decide_eq_true h1]
            rfl)
          cases e
          refine run_tgt (c1 := 0) (c2 := 0) (pg_tup gd.calm (pgs_cons (pg_name (i := 3) gd.nd rfl (.inl rfl)) (pgs_cons (pg_name (i := 4) gd.nd rfl (.inr rfl)) (pgs_cons (pg_name (i := 5) gd.nd rfl (.inr rfl)) pgs_nil)))) (nm 2) fun d e => ?_
          subst e
          refine ⟨[3, 4, 5], _, gok_tup3, ?_⟩
          show Run _ _ _ _ _ _ (fun z => z = PyData.bool (pressA t line w lo hi))
          refine run_ifRet (b := decide (w = sBare)) (eb_cmp (nm 3) e_str b2_eqS) (fun hw => ?_) fun hw => ?_
          · have hw' : w = sBare := of_decide_eq_true hw
            refine run_ret (Ev.to (e_and (t := decide (0 ≤ lo) && decide (lo < ((t.map lstII).length : Nat))) (u := decide (0 ≤ hi) && decide (hi < ((line.map PyData.int).length : Nat)) && ((t.getD lo.toNat []).getD hi.toNat []).isEmpty) (e_chain e_int (nm 4) (fun _ => e_lenL gd (nm 0)) b2_le (fun _ => b2_lt)) fun h1 => e_and (e_chain e_int (nm 5) (fun _ => e_lenT gd (nm 1)) b2_le (fun _ => b2_lt)) fun h2 => e_one ?_) ?_)
            · simp only [Bool.and_eq_true, decide_eq_true_eq] at h1 h2
              rw [hlen1] at h1
              rw [hlen2] at h2
              have hbm : t.getD lo.toNat [] ∈ t := by
                rw [List.getD_eq_getElem?_getD, List.getElem?_eq_getElem (show lo.toNat < t.length by omega)]
                exact List.getElem_mem _
              have e := b2_eq (X := cxD P w0 K mg base n_is_press_by "_law_is_press_by" (defScope s_is_press_by) f cdv A0 outer s H X0) gd (shp_lstI ((t.getD lo.toNat []).getD hi.toNat [])) shp_nil
              refine Ev.to (e_cmp (e_ix (e_ix (nm 0) (nm 4) (bx_mapL (enc := lstII) (atI_in [] h1.1 h1.2))) (nm 5) (bx_mapL (enc := lstI) (atI_in [] h2.1 (by rw [hb _ hbm]; exact h2.2)))) (e_lst a_nil) e) ?_
              rw [lstI, eqv_nil]
              congr 1
              cases (t.getD lo.toNat []).getD hi.toNat [] <;> rfl
            · unfold pressA
              rw [if_pos hw', hlen1, hlen2, hln, Bool.and_assoc]
          · have hw' : ¬ w = sBare := of_decide_eq_false hw
            refine run_ifRet (b := (!decide (w = sMore ∨ w = sFewer) || (!(decide (0 ≤ lo) && (decide (lo < hi) && decide (hi < ((line.map PyData.int).length : Nat)))) || bareA t)))
              (eb_w (ebw_or (eb_cmp (nm 3) (e_tup (a_cons e_str (a_cons e_str a_nil))) (by rw [← in_words]; exact b2_niT rfl rfl)) fun _ => ebw_or (eb_not (eb_chain3 e_int (nm 4) (fun _ => nm 5) (fun _ _ => e_lenT gd (nm 1)) b2_le (fun _ => b2_lt) (fun _ _ => b2_lt))) fun _ => ebw_or1 (Et.to (eb_cmp (e_lcNI (Nn := n_is_press_by) (sc := defScope s_is_press_by) gd 6 rfl rfl lstII t (by omega) (i_list (nm 0)) (fun b => !!b.any List.isEmpty) (fun _ => .int 1) (fun b hbm s H C cl fp => Et.to (eb_cmp (e_lst a_nil) (nm 6) (in_nil gd.blk b)) (by rw [Bool.not_not])) fun z hz ht s H C cl fp => e_int) (e_lst a_nil) (b2_onesN gd (fun b : List (List Int) => !b.any List.isEmpty) t)) ?_))) (fun hb => ?_) (fun hb => ?_)
            · unfold bareA
              rw [List.not_all_eq_any_not]
              congr 1
              funext b
              rw [Bool.not_not]
            · refine run_ret (Ev.to e_bl ?_)
              unfold pressA
              rw [if_neg hw']
              simp only [Bool.or_eq_true, Bool.not_eq_true', decide_eq_false_iff_not, Bool.and_eq_false_iff] at hb
              rw [hlen2] at hb
              by_cases c1 : w = sMore ∨ w = sFewer
              · rw [if_pos c1]
                rcases hb with hb | hb | hb
                · exact absurd c1 hb
                · by_cases c2 : bareA t = true
                  · rw [if_pos c2]
                  · rw [if_neg c2, if_neg (by rw [hln]; omega)]
                · rw [if_pos hb]
              · rw [if_neg c1]
            · simp only [Bool.or_eq_false_iff, Bool.not_eq_false', decide_eq_true_eq, Bool.and_eq_true] at hb
              rw [hlen2] at hb
              obtain ⟨c1, ⟨c3, c4, c5⟩, c2⟩ := hb
              have hne : ∀ b ∈ t, ∀ i, i < L → b.getD i [] ≠ [] := fun b hbm i hi hx => by
                unfold bareA at c2
                rw [List.any_eq_false] at c2
                refine c2 b hbm (List.any_eq_true.mpr ⟨b.getD i [], ?_, by rw [hx]; rfl⟩)
                rw [List.getD_eq_getElem?_getD, List.getElem?_eq_getElem (show i < b.length by rw [hb b hbm]; exact hi)]
                exact List.getElem_mem _
              have a0 : ∀ b ∈ t, ∀ i, i < L → atI (b.getD i []) 0 = some ((b.getD i []).getD 0 0) := fun b hbm i hi => by
                rw [atI_in 0 (by omega) (by have := List.length_pos_iff.mpr (hne b hbm i hi); omega)]
                rfl
              have aHi : ∀ b ∈ t, atI b hi = some (b.getD hi.toNat []) := fun b hbm => atI_in [] (by omega) (by rw [hb b hbm]; omega)
              have aLo : ∀ b ∈ t, atI b lo = some (b.getD lo.toNat []) := fun b hbm => atI_in [] (by omega) (by rw [hb b hbm]; omega)
              have grown : ∀ {p1 p2 p3 p4 p5 p6 p7 : Pos}, E (cxD P w0 K mg base n_is_press_by "_law_is_press_by" (defScope s_is_press_by) f cdv A0 outer s H X0) (.BinOp (.Subscript (.Name "_law_line_here" p1) (.Name "_law_high" p2) p3) .Sub (.Subscript (.Name "_law_line_here" p4) (.Name "_law_low" p5) p6) p7)
                  [.dat (lstIII t), .dat (tupI line), .dat (.tuple [.str w, .int lo, .int hi]), .dat (.str w), .dat (.int lo), .dat (.int hi), .no] (.int (line.getD hi.toNat 0 - line.getD lo.toNat 0)) := fun {_ _ _ _ _ _ _} =>
                e_bin (e_ix (nm 1) (nm 5) (bx_tupI (atI_in 0 (by omega) (by omega)))) (e_ix (nm 1) (nm 4) (bx_tupI (atI_in 0 (by omega) (by omega)))) b2_sub
              refine run_ifRet (b := decide (w = sMore)) (eb_cmp (nm 3) e_str b2_eqS) (fun hw2 => ?_) fun hw2 => ?_
              · refine run_ret (Ev.to (e_cmp (e_sum (ns := t.map fun b => max 0 ((b.getD hi.toNat []).getD 0 0 - lastI (b.getD lo.toNat []))) gd (Ev.to (e_lcN (Nn := n_is_press_by) (sc := defScope s_is_press_by) gd 6 rfl rfl lstII t (by omega) (i_list (nm 0)) (fun b => .int (max 0 ((b.getD hi.toNat []).getD 0 0 - lastI (b.getD lo.toNat [])))) fun b hbm s H C cl fp => ?_) ?_)) grown b2_gt) ?_)
                · refine e_max2 gd.blk e_int (e_bin (e_ix (e_ix (nm 6) (nm 5) (bx_mapL (enc := lstI) (aHi b hbm))) e_int (bx_lstI (a0 b hbm _ (by omega)))) (e_ix (e_ix (nm 6) (nm 4) (bx_mapL (enc := lstI) (aLo b hbm))) (e_un e_int b1_neg) (bx_lstI (atI_lastI (hne b hbm _ (by omega))))) b2_sub)
                · rw [List.map_map]
                  rfl
                · unfold pressA
                  rw [if_neg hw', if_pos c1, if_neg (by rw [c2]; exact Bool.false_ne_true), if_pos (by rw [hln]; omega), if_pos (of_decide_eq_true hw2)]
                  rfl
              · refine run_ret (Ev.to (e_cmp (e_sum (ns := t.map fun b => max 0 (lastI (b.getD hi.toNat []) - (b.getD lo.toNat []).getD 0 0)) gd (Ev.to (e_lcN (Nn := n_is_press_by) (sc := defScope s_is_press_by) gd 6 rfl rfl lstII t (by omega) (i_list (nm 0)) (fun b => .int (max 0 (lastI (b.getD hi.toNat []) - (b.getD lo.toNat []).getD 0 0))) fun b hbm s H C cl fp => ?_) ?_)) grown b2_lt) ?_)
                · refine e_max2 gd.blk e_int (e_bin (e_ix (e_ix (nm 6) (nm 5) (bx_mapL (enc := lstI) (aHi b hbm))) (e_un e_int b1_neg) (bx_lstI (atI_lastI (hne b hbm _ (by omega))))) (e_ix (e_ix (nm 6) (nm 4) (bx_mapL (enc := lstI) (aLo b hbm))) e_int (bx_lstI (a0 b hbm _ (by omega)))) b2_sub)
                · rw [List.map_map]
                  rfl
                · unfold pressA
                  rw [if_neg hw', if_pos c1, if_neg (by rw [c2]; exact Bool.false_ne_true), if_pos (by rw [hln]; omega), if_neg (of_decide_eq_false hw2)]
                  rfl
      | _ => cases h
end
end Pn

set_option Elab.async false
set_option linter.all false
set_option maxRecDepth 100000
set_option maxHeartbeats 1000000
/-! PnI: sum of lists, from a list on; all_of. -/
namespace Pn
open PySem PySem.Spec PyProof.Rows L2
theorem sum_args2 (a b : Value) : argsOk "sum" ⟨[a, b], []⟩ := by unfold argsOk; kernel_rfl
section
variable {prog : Program} {w : World} {A : Around} {R : Result → Shared → Prop}
/-- the loop of sum over lists -/
theorem sum_lists_loop (hh : A.in1.handled = none) (I L S : Addr) (hLI : L ≠ I) (hSI : S ≠ I) (hSL : S ≠ L) (h0 : Heap) (hI1 : h0.objs.size ≤ I) (hI0 : h0.get? I = none) (hS0 : h0.get? S = none) (as : Array Value) (cs : Nat → Array Value) (hL : h0.IsList L as)
    (hval : ∀ (i : Nat) (v : Value), as[i]? = some v → ∃ (a : Addr) (n : Nat), v = .ref a ∧ h0.get? a = some { cls := .type "list", data := .seq (cs i) n })
    (tot : Nat → Array Value) (ht : ∀ i, tot (i + 1) = tot i ++ cs i) (hz : ∀ i, i < as.size → (tot i).size + (cs i).size ≤ sizeLine) :
    ∀ (k i : Nat) (s : Shared) (t : Addr) (c n : Nat), as.size - i = k → i ≤ as.size → s.heap.IsListIter I L i → (∀ b o, h0.get? b = some o → s.heap.get? b = some o) →
    s.heap.get? S = some { cls := .type "list", dict := none, data := .seq #[.ref t] c, slots := #[] } → s.heap.get? t = some { cls := .type "list", data := .seq (tot i) n } → t ≠ I → t ≠ S → (i = 0 ∨ h0.objs.size ≤ t) →
    (∀ h' tk t' n', (∀ b o, h0.get? b = some o → h'.get? b = some o) → h'.get? t' = some { cls := .type "list", data := .seq (tot as.size) n' } → (as.size = 0 ∧ t' = t ∨ h0.objs.size ≤ t' ∨ (i = as.size ∧ t' = t)) → R (.ok (.ret (.ref t'))) { s with heap := h', toks := tk }) →
    codeAny (model prog w) A (.builtin "sum.loop" ⟨[.ref I, .ref S, rawInt 2, rawInt 0], []⟩) R s := by
  have W := Walks.list (prog := prog) (w := w) (A := A.in1) hh I L hLI as
  intro k
  induction k with
  | zero =>
    intro i s t c n hk hi hst keep hS hT htI htS hor hR
    have hin : i = as.size := by omega
    subst hin
    refine codeAny_builtin F.entry_sum_loop ?_
    rw [Around.under_plainId F.plain_sum_loop _]
    show wpAny _ A.in1 (seqItems? (.ref S) >>= _) _ _ s
    refine wpAny_bind (wpAny_seqItems hS rfl ?_)
    show wpAny _ A.in1 (tryCatch (pyNext (.ref I)) _ >>= _) _ _ s
    refine wpAny_bind (wpAny_tryCatch (W.done s _ _ ⟨hst, hL.at fun o e => keep _ _ e⟩ fun h' tk hm => ?_))
    have km : ∀ b o, b ≠ I → s.heap.get? b = some o → h'.get? b = some o := fun b o hb e => hm b o (by simp [hb]) e
    exact wpAny_pure (hR h' tk t n (fun b o e => km b o (fun q => by rw [q, hI0] at e; cases e) (keep b o e)) (km t _ htI hT) (.inr (.inr ⟨rfl, rfl⟩)))
  | succ k ih =>
    intro i s t c n hk hi hst keep hS hT htI htS hor hR
    have hlt : i < as.size := by omega
    refine codeAny_builtin F.entry_sum_loop ?_
    rw [Around.under_plainId F.plain_sum_loop _]
    show wpAny _ A.in1 (seqItems? (.ref S) >>= _) _ _ s
    refine wpAny_bind (wpAny_seqItems hS rfl ?_)
    show wpAny _ A.in1 (tryCatch (pyNext (.ref I)) _ >>= _) _ _ s
    refine wpAny_bind (wpAny_tryCatch (W.item i s _ _ hlt ⟨hst, hL.at fun o e => keep _ _ e⟩ fun v h' tk hP hst' hm => ?_))
    have km : ∀ b o, b ≠ I → s.heap.get? b = some o → h'.get? b = some o := fun b o hb e => hm b o (by simp [hb]) e
    obtain ⟨a, na, rfl, ha⟩ := hval i v hP
    have keep1 : ∀ b o, h0.get? b = some o → h'.get? b = some o := fun b o e => km b o (fun q => by rw [q, hI0] at e; cases e) (keep b o e)
    have hS' := km S _ hSI hS
    have hT' := km t _ htI hT
    show wpAny _ A.in1 ((holding [Value.ref a] (binaryOp .Add (.ref t) (.ref a))).attempt >>= _) _ _ _
    refine wpAny_bind (wpAny_attempt (wpAny_holding (PySem.P.add_list hT' (keep1 _ _ ha) ?_ (hz i hlt))))
    show wpAny _ A.in1 (updateSeq S (fun _ => #[.ref h'.objs.size]) >>= _) _ _ _
    have hS1 := Heap.get?_push_of_some { cls := .type "list", data := .seq (tot i ++ cs i) } hS'
    refine wpAny_bind (wpAny_updateSeq hS1 rfl ?_)
    have hS₂ := Heap.get?_update_self (Obj.mapSeq fun _ => #[Value.ref h'.objs.size]) hS1 rfl
    refine wpAny_bind (wpAny_letGo ?_)
    have lt : ∀ b o, h'.get? b = some o → b < h'.objs.size := fun b o e => Heap.lt_size e
    have nS : h'.objs.size ≠ S := fun q => Nat.lt_irrefl _ (by have := lt _ _ hS'; rw [← q] at this; exact this)
    obtain ⟨oI, eI, _⟩ := id hst'.1
    have fr : h0.objs.size ≤ h'.objs.size := Nat.le_of_lt (Nat.lt_of_le_of_lt hI1 (lt _ _ eI))
    have nI : h'.objs.size ≠ I := fun q => Nat.lt_irrefl _ (by have := lt _ _ eI; rw [← q] at this; exact this)
    have step : ∀ b o, b ≠ S → h'.get? b = some o → (((h'.push { cls := .type "list", data := .seq (tot i ++ cs i) }).update S (Obj.mapSeq fun _ => #[Value.ref h'.objs.size])).update S (Obj.mapSeq fun _ => #[Value.ref h'.objs.size])).get? b = some o := fun b o hb e =>
      (Heap.get?_update_other _ _ (fun q : S = b => hb q.symm)).trans ((Heap.get?_update_other _ _ (fun q : S = b => hb q.symm)).trans (Heap.get?_push_of_some _ e))
    refine wpAny_bind (wpAny_updateSeq hS₂ rfl (wpAny_pure ⟨plainId_quiet F.plain_sum_loop _, ih (i + 1) _ h'.objs.size _ 0 (by omega) hlt ?_ ?_ (Heap.get?_update_self _ hS₂ rfl) ?_ nI nS (.inr fr) fun h2 tk2 t2 n2 k2 e2 or2 => ?_⟩))
    · exact hst'.1.at fun o e => step _ _ (Ne.symm hSI) e
    · exact fun b o e => step _ _ (fun q => by rw [q, hS0] at e; cases e) (keep1 b o e)
    · rw [ht]
      exact (Heap.get?_update_other _ _ (Ne.symm nS)).trans ((Heap.get?_update_other _ _ (Ne.symm nS)).trans (Heap.get?_push_size _ rfl))
    · refine hR h2 tk2 t2 n2 k2 e2 ?_
      rcases or2 with ⟨z, _⟩ | z | ⟨_, z⟩
      · omega
      · exact .inr (.inl z)
      · exact .inr (.inl (by rw [z]; exact fr))
def totF (cs : Nat → Array Value) : Nat → Array Value
  | 0 => #[]
  | i + 1 => totF cs i ++ cs i
theorem call_sum_lists (hh : A.in1.handled = none) {E : Value → Shared → Prop} {Q : Value → Shared → Prop} {s : Shared} {L z : Addr} (as : Array Value) (cs : Nat → Array Value) (hL : s.heap.IsList L as)
    (hz : ∃ n, s.heap.get? z = some { cls := .type "list", data := .seq #[] n })
    (hval : ∀ (i : Nat) (v : Value), as[i]? = some v → ∃ (a : Addr) (n : Nat), v = .ref a ∧ s.heap.get? a = some { cls := .type "list", data := .seq (cs i) n })
    (hs : ∀ i, i < as.size → (totF cs i).size + (cs i).size ≤ sizeLine)
    (h : ∀ h' tk t' n', (∀ b o, s.heap.get? b = some o → h'.get? b = some o) → h'.get? t' = some { cls := .type "list", data := .seq (totF cs as.size) n' } → (as.size = 0 ∧ t' = z ∨ s.heap.objs.size ≤ t') → Q (.ref t') { s with heap := h', toks := tk }) :
    wpAny (model prog w) A (call (.builtin "sum") [.ref L, .ref z]) Q E s := by
  obtain ⟨nz, hz⟩ := hz
  refine call_function_tree F.kind_sum F.plain_sum F.entry_sum (sum_args2 _ _) ?_
  unfold Builtin.«sum»
  simp only [List.length_cons, List.length_nil]
  rw [if_neg (by decide)]
  refine wpAny_bind (wpAny_of_eq (show Builtin.Builtins.bindParams "sum" ["start"] 0 { pos := [Value.ref z], kw := [] } = pure [some (Value.ref z)] from rfl) ?_)
  refine wpAny_bind (wpAny_pyIter_list hL ?_)
  refine wpAny_bind (wpAny_pure ?_)
  have ty : ∀ {h : Heap}, (∀ b o, s.heap.get? b = some o → h.get? b = some o) → Shared.TypeIs { s with heap := h } (.ref z) "list" := fun k => ⟨_, k _ _ hz, rfl⟩
  have k1 : ∀ b o, s.heap.get? b = some o → (s.heap.push { cls := .type "list_iterator", data := .fields #[.ref L, .int 0 0] }).get? b = some o := fun b o e => Heap.get?_push_of_some _ e
  simp only [List.forIn_cons, List.forIn_nil]
  refine wpAny_bind (wpAny_bind (wpAny_bind (wpAny_isInstance (T := "list") (b := false) (ty k1) F.sub_list_str ?_)))
  simp only [Bool.false_eq_true, if_false]
  refine wpAny_pure (wpAny_bind (wpAny_bind (wpAny_isInstance (T := "list") (b := false) (ty k1) F.sub_list_bytes ?_)))
  simp only [Bool.false_eq_true, if_false]
  refine wpAny_pure (wpAny_bind (wpAny_bind (wpAny_isInstance (T := "list") (b := false) (ty k1) F.sub_list_bytearray ?_)))
  simp only [Bool.false_eq_true, if_false]
  refine wpAny_pure (wpAny_pure ?_)
  refine wpAny_bind (wpAny_newObj_type ?_)
  have hlt : L < s.heap.objs.size := by obtain ⟨_, e, _⟩ := hL; exact Heap.lt_size e
  have zlt : z < s.heap.objs.size := Heap.lt_size hz
  have z1 : (s.heap.push { cls := .type "list_iterator", data := .fields #[.ref L, .int 0 0] }).objs.size = s.heap.objs.size + 1 := Heap.size_push ..
  have f1 : s.heap.get? s.heap.objs.size = none := by
    cases q : s.heap.get? s.heap.objs.size with
    | none => rfl
    | some o => exact absurd (Heap.lt_size q) (Nat.lt_irrefl _)
  have f2 : s.heap.get? (s.heap.objs.size + 1) = none := by
    cases q : s.heap.get? (s.heap.objs.size + 1) with
    | none => rfl
    | some o => exact absurd (Heap.lt_size q) (Nat.not_lt.mpr (Nat.le_succ _))
  refine wpAny_pure ⟨plainId_quiet F.plain_sum_loop _, ?_⟩
  have key := sum_lists_loop (prog := prog) (w := w) (A := A) (R := fun r s' => ∃ h' tk t' n', r = .ok (.ret (.ref t')) ∧ s' = { s with heap := h', toks := tk } ∧ (∀ b o, s.heap.get? b = some o → h'.get? b = some o) ∧ h'.get? t' = some { cls := .type "list", data := .seq (totF cs as.size) n' } ∧ (as.size = 0 ∧ t' = z ∨ s.heap.objs.size ≤ t')) hh s.heap.objs.size L (s.heap.objs.size + 1) (Nat.ne_of_lt hlt) (Nat.succ_ne_self _) (Nat.ne_of_gt (Nat.lt_succ_of_lt hlt)) s.heap (Nat.le_refl _) f1 f2 as cs hL hval (totF cs) (fun i => rfl) hs as.size 0
    { s with heap := (s.heap.push { cls := .type "list_iterator", data := .fields #[.ref L, .int 0 0] }).push { cls := .type "list", data := .seq #[.ref z] } } z 0 nz (by omega) (Nat.zero_le _)
    ⟨_, Heap.get?_push_of_some _ (Heap.get?_push_size _ rfl), rfl, rfl⟩ (fun b o e => Heap.get?_push_of_some _ (k1 b o e)) (by rw [← z1]; exact Heap.get?_push_size _ rfl) (Heap.get?_push_of_some _ (k1 _ _ hz)) (Nat.ne_of_lt zlt) (Nat.ne_of_lt (Nat.lt_succ_of_lt zlt)) (.inl rfl)
    (fun h' tk t' n' k2 e2 o2 => ⟨h', tk, t', n', rfl, rfl, k2, e2, by
      rcases o2 with q | q | ⟨q1, q2⟩
      · exact .inl q
      · exact .inr q
      · exact .inl ⟨q1.symm, q2⟩⟩)
  have e3 : (s.heap.push { cls := .type "list_iterator", data := .fields #[.ref L, .int 0 0] }).objs.size = s.heap.objs.size + 1 := z1
  rw [e3]
  refine codeAny_mono key fun r s' y => ?_
  obtain ⟨h', tk, t', n', rfl, rfl, y1, y2, y3⟩ := y
  exact h h' tk t' n' y1 y2 y3
end
theorem vals_getR {xs : List V} {us : List Value} {i : Nat} {u : Value} (h : Vals xs us) (e : us[i]? = some u) : ∃ x, xs[i]? = some x ∧ RelV x u := by
  cases q : xs[i]? with
  | none => rw [h.none_of q] at e; cases e
  | some x =>
    obtain ⟨u', e', r⟩ := h.get q
    rw [e] at e'
    cases e'
    exact ⟨x, rfl, r⟩
theorem totF_vals (cs : Nat → Array Value) (xss : List (List V)) (h : ∀ i xs, xss[i]? = some xs → Vals xs (cs i).toList) : ∀ i, i ≤ xss.length → Vals (xss.take i).flatten (totF cs i).toList := by
  intro i
  induction i with
  | zero => exact fun _ => .nil
  | succ i ih =>
    intro hi
    have e : xss[i]? = some xss[i] := List.getElem?_eq_getElem (by omega)
    rw [List.take_add_one, e]
    show Vals (xss.take i ++ [xss[i]]).flatten (totF cs i ++ cs i).toList
    rw [List.flatten_append, Array.toList_append]
    refine (ih (by omega)).append ?_
    rw [List.flatten_cons, List.flatten_nil, List.append_nil]
    exact h i _ e
theorem flat_le (xss : List (List V)) (i : Nat) : (xss.take i).flatten.length ≤ xss.flatten.length := by
  have := List.take_append_drop i xss
  rw [← this, List.flatten_append, List.length_append]
  rw [this]
  omega
/-- sum(lists, []) -/
def rSumLs : List V → Hp → VK → Prop := fun vs H Q => ∃ (l z : Addr) (ps : List (Addr × List V)), vs = [V.ref l, V.ref z] ∧ H l = some (.lst (ps.map fun p => V.ref p.1)) ∧ H z = some (.lst []) ∧ (∀ p ∈ ps, H p.1 = some (.lst p.2)) ∧ (ps.map (·.2)).flatten.length ≤ sizeLine ∧
  (ps = [] → Q (.ref z) H) ∧ ∀ q, H q = none → Q (.ref q) (upd H q (.lst (ps.map (·.2)).flatten))
theorem cr_sumLs {X : Cx} (hc : X.calm = true) : CallR X (.builtin "sum") rSumLs := by
  intro pins s σ H vs us Q I r h
  obtain ⟨l, z, ps, rfl, hl, hz, hp, hsz, q0, q1⟩ := h
  have hus : us = [Value.ref l, Value.ref z] := by
    cases r with
    | cons r1 t =>
      cases t with
      | cons r2 t2 =>
        cases t2
        cases r1
        cases r2
        rfl
  subst hus
  obtain ⟨_, its, n, rv, hlen, hls⟩ := I.lstM hl
  obtain ⟨_, itz, nz, rz, hlz, hzs⟩ := I.lstM hz
  have ez : itz = [] := by cases rz; rfl
  subst ez
  have hch : ∀ i : Nat, ∃ arr : Array Value, ∀ p, ps[i]? = some p → ∃ n, Vals p.2 arr.toList ∧ s.heap.get? p.1 = some { cls := .type "list", data := .seq arr n } := fun i => by
    cases e : ps[i]? with
    | none => exact ⟨#[], fun p q => by cases q⟩
    | some p =>
      obtain ⟨_, itp, np, rp, _, hps⟩ := I.lstM (hp p (List.mem_of_getElem? e))
      exact ⟨itp.toArray, fun p' q => by cases q; exact ⟨np, rp, hps⟩⟩
  obtain ⟨cs, hcs⟩ := Classical.axiomOfChoice hch
  have hsize : its.toArray.size = ps.length := by rw [List.size_toArray, ← hlen, List.length_map]
  have hv : ∀ i xs, (ps.map (·.2))[i]? = some xs → Vals xs (cs i).toList := fun i xs e => by
    rw [List.getElem?_map] at e
    cases q : ps[i]? with
    | none => rw [q] at e; cases e
    | some p =>
      rw [q] at e
      cases e
      obtain ⟨_, h1, _⟩ := hcs i p q
      exact h1
  have htot := totF_vals cs (ps.map (·.2)) hv
  have hlm : (ps.map (·.2)).length = ps.length := List.length_map ..
  refine call_sum_lists (I.ok.hd hc) its.toArray cs ⟨_, hls, rfl, n, rfl⟩ ⟨nz, hzs⟩ (fun i v e => ?_) (fun i hi => ?_) fun h' tk t' n' hk ht ho => ?_
  · have e' : its[i]? = some v := by simpa using e
    obtain ⟨x, hx, rx⟩ := vals_getR rv e'
    rw [List.getElem?_map] at hx
    cases q : ps[i]? with
    | none => rw [q] at hx; cases hx
    | some p =>
      rw [q] at hx
      cases hx
      cases rx
      obtain ⟨np, _, h2⟩ := hcs i p q
      exact ⟨p.1, np, rfl, h2⟩
  · have h1 := (htot (i + 1) (by omega)).length
    have h2 := flat_le (ps.map (·.2)) (i + 1)
    have e : (totF cs (i + 1)).toList.length = (totF cs i).size + (cs i).size := by
      rw [Array.length_toList]
      show (totF cs i ++ cs i).size = _
      rw [Array.size_append]
    omega
  · have hfull := htot ps.length (by omega)
    rw [← hlm, List.take_length, hlm, ← hsize] at hfull
    rcases ho with ⟨h0, rfl⟩ | hn
    · have e : ps = [] := List.eq_nil_of_length_eq_zero (by omega)
      exact ⟨.ref t', H, I.kept (t' := tk) hk, rfl, q0 e⟩
    · exact ⟨.ref t', _, I.laid (o := .lst (ps.map (·.2)).flatten) (t' := tk) hk hn ⟨hsz, (totF cs its.toArray.size).toList, n', hfull, by rw [Array.toArray_toList]; exact ht⟩, rfl, q1 t' (I.hok.fresh hn)⟩
theorem rpa_lists {G : Hp} : ∀ {vs : List V} {dss : List (List PyData)}, RpA G vs (dss.map PyData.list) → ∃ ps : List (Addr × List V), vs = ps.map (fun p => V.ref p.1) ∧ (∀ p ∈ ps, G p.1 = some (.lst p.2)) ∧ RpA G (ps.map (·.2)).flatten dss.flatten ∧ ps.length = dss.length
  | [], [], .nil => ⟨[], rfl, fun _ h => absurd h (by simp), .nil, rfl⟩
  | _ :: vs, ds :: dss, .cons h t => by
    obtain ⟨ps, rfl, h1, h2, h3⟩ := rpa_lists t
    cases h with
    | lst ha hr =>
      refine ⟨(_, _) :: ps, rfl, fun p hp => ?_, hr.append h2, by rw [List.length_cons, List.length_cons, h3]⟩
      rcases List.mem_cons.mp hp with rfl | hp
      · exact ha
      · exact h1 p hp
section
variable {X : Cx} {k : Nat}
theorem C1.mono {f : Value} {ds : List PyData} {P P' : PyData → Prop} (h : C1 X f ds P) (hP : ∀ d, P d → P' d) : C1 X f ds P' := fun G H xs e r Q q => h G H xs e r Q fun v d N H' hd g rv => q v d N H' (hP d hd) g rv
theorem c_sumLs {dss : List (List PyData)} (hX : Good X k) (hz : dss.flatten.length ≤ 100000) : C1 X (.builtin "sum") [.list (dss.map .list), .list []] (fun z => z = .list dss.flatten) := fun G H xs e r Q q => by
  obtain ⟨v, w, rfl, rv, rw'⟩ := rpa2 r
  cases rv with
  | lst ha hr => cases rw' with
    | lst hb hs =>
      cases hs
      obtain ⟨ps, rfl, h1, h2, h3⟩ := rpa_lists hr
      refine WC.of (cr_sumLs hX.calm) ⟨_, _, ps, rfl, e _ _ ha, e _ _ hb, fun p hp => e _ _ (h1 p hp), by rw [h2.length]; exact szl hz, fun z => ?_, fun p hp => ?_⟩
      · subst z
        have : dss = [] := List.eq_nil_of_length_eq_zero h3.symm
        subst this
        exact q _ _ G H rfl (Gr.refl e) (.lst hb .nil)
      · exact newLst e hp h2 fun v N H' g r => q _ _ _ _ rfl g r
end
def F_all_of : List PyData → (PyData → Prop) → Prop := fun ds Pd => ∃ split, ds = [tupII split] ∧ split.length ≤ 1000 ∧ split.flatten.length < 64 ∧ Pd = fun z => ∃ ms : List Int, z = tupI ms ∧ ms.Perm split.flatten
theorem map_flat (split : List (List Int)) : (split.map fun g => g.map PyData.int).flatten = split.flatten.map PyData.int := by
  rw [List.map_flatten]
section
variable {P : Program} {w : World} {K : PySem.W.Frag} {mg : Str → Option Value} {base : Heap} {f : Addr} {fd : FuncData}
theorem dn_all_of (hB : Bt mg) (hf : FnP K "_law_all_of" s_all_of f fd) (hm : mg "_law_all_of" = some (.ref f)) : Dn P w K mg base 1 "_law_all_of" p_all_of (spS F_all_of) := by
  refine dn_pureS hf hm hB sc_all_of (hf.bindsN fun _ _ _ _ _ _ us hl => match us, hl with | [_], _ => rfl) (fun ds d h => ?_) (fun cdv A0 outer s H X0 gd ds r h => ?_)
  · obtain ⟨split, rfl, _⟩ := h
    rfl
  · obtain ⟨split, rfl, hs, hf64, rfl⟩ := h
    refine run_ret (ev_callTy (by rfl) gd.bt.tuple PyProof.Rows.boot_tuple (ea_cons (c1 := 0) (c2 := 0) (ev_callB (P := fun z => ∃ ms : List Int, z = .list (ms.map .int) ∧ ms.Perm split.flatten ∧ ms.Pairwise (· ≤ ·)) (P1 := fun z => z = [.list (split.flatten.map .int)]) (by rfl) gd.bt.sorted PyProof.Rows.boot_sorted (a_cons (e_callB (by rfl) gd.bt.sum PyProof.Rows.boot_sum (a_cons (e_lcN (Nn := n_all_of) (sc := defScope s_all_of) gd 1 rfl rfl tupI split (by omega) (i_tup (nm 0)) lstI fun g hg s H C cl fp => e_listT gd.blk (nm 1)) (a_cons (e_lst a_nil) a_nil)) ?_) a_nil) ?_) fun _ _ => ea_nil) ?_)
    · have e := c_sumLs (X := cxD P w K mg base n_all_of "_law_all_of" (defScope s_all_of) f cdv A0 outer s H X0) (dss := split.map fun g => g.map PyData.int) gd (by rw [map_flat, List.length_map]; omega)
      rw [map_flat, List.map_map] at e
      exact e
    · intro ds e
      subst e
      exact c_sorted hf64
    · rintro ds ⟨d, ds', rfl, ⟨ms, rfl, hp, _⟩, rfl⟩
      exact c_tupleL.mono fun d e => ⟨ms, e, hp⟩
end
end Pn

set_option Elab.async false
set_option linter.all false
set_option maxRecDepth 100000
set_option maxHeartbeats 1000000
/-! PnJ: constants; the law's cases by hand. -/
namespace Pn
open PySem PySem.Spec PyProof.Rows L2

/-! ### constant expressions -/
def optL (f : Expr → Option PyData) : List Expr → Option (List PyData)
  | [] => some []
  | e :: es => match f e, optL f es with
    | some d, some ds => some (d :: ds)
    | _, _ => none
def constD : Nat → Expr → Option PyData
  | 0, _ => none
  | n + 1, e => match e with
    | .Constant (.int i) _ _ => some (.int i)
    | .Constant (.bool b) _ _ => some (.bool b)
    | .Constant (.str x) _ _ => some (.str x)
    | .Constant .none _ _ => some .none
    | .UnaryOp .USub (.Constant (.int i) _ _) _ => some (.int (-i))
    | .Tuple es _ _ => match optL (constD n) es with
      | some ds => if ds.length ≤ 1000 then some (.tuple ds) else none
      | none => none
    | .List es _ => match optL (constD n) es with
      | some ds => if ds.length ≤ 1000 then some (.list ds) else none
      | none => none
    | _ => none
section
variable {X : Cx} {ρ : List Sl}
theorem a_const {f : Expr → Option PyData} (hf : ∀ e d, f e = some d → noStar e = true ∧ E X e ρ d) : ∀ {es : List Expr} {ds : List PyData}, optL f es = some ds → A X es ρ ds
  | [], _, h => by
    cases h
    exact a_nil
  | e :: es, ds, h => by
    unfold optL at h
    split at h
    · rename_i d ds' h1 h2
      cases h
      obtain ⟨h3, h4⟩ := hf e d h1
      exact a_cons h4 (a_const hf h2) (se_cons h3)
    · cases h
theorem constD_ok : ∀ (n : Nat) (e : Expr) (d : PyData), constD n e = some d → noStar e = true ∧ E X e ρ d := by
  intro n
  induction n with
  | zero =>
    intro e d h
    cases h
  | succ n ih =>
    intro e d h
    unfold constD at h
    split at h
    · cases h; exact ⟨rfl, e_int⟩
    · cases h; exact ⟨rfl, e_bl⟩
    · cases h; exact ⟨rfl, e_str⟩
    · cases h; exact ⟨rfl, e_non⟩
    · cases h; exact ⟨rfl, e_un e_int b1_neg⟩
    · split at h
      · rename_i ds hds
        split at h
        · rename_i hl
          cases h
          exact ⟨rfl, e_tup (a_const ih hds) hl⟩
        · cases h
      · cases h
    · split at h
      · rename_i ds hds
        split at h
        · rename_i hl
          cases h
          exact ⟨rfl, e_lst (a_const ih hds) hl⟩
        · cases h
      · cases h
    · cases h
theorem e_const {e : Expr} {d : PyData} (h : constD 8 e = some d) : E X e ρ d := (constD_ok 8 e d h).2
end
def bD (l : List Bool) : PyData := .list (l.map .bool)
def thirdsR : List (List Int) := [[0, 1, 2, 3], [0, 1, 2, 3], [0, 1, 2, 3]]
def twoG : List (List Int) := [[0], [1]]
def stillR : List (List Int) := [[0, 1, 2, 3], [0, 0, 0, 0]]
theorem lay_thirds : Lay 3 thirdsR 4 := ⟨by decide, by decide, by decide, by decide, by decide, by decide, by decide⟩
theorem lay_still : Lay 1 stillR 4 := ⟨by decide, by decide, by decide, by decide, by decide, by decide, by decide⟩
theorem grp_two : ∀ g ∈ twoG, Grp thirdsR g := by
  intro g hg
  rcases List.mem_cons.mp hg with rfl | hg
  · exact ⟨by decide, by decide⟩
  · rw [List.mem_singleton.mp hg]
    exact ⟨by decide, by decide⟩
theorem grp_still : ∀ g ∈ [[(0 : Int)]], Grp stillR g := by
  intro g hg
  rw [List.mem_singleton.mp hg]
  exact ⟨by decide, by decide⟩
theorem fol_ok {S : Int} {rows : List (List Int)} {L : Nat} {split : List (List Int)} {line : List Int} (off : Int) (thing : PyData) (hL : Lay S rows L) (hs : split.length ≤ 1000) (hg : ∀ g ∈ split, Grp rows g) (hln : line.length = L) :
    F_are_followed [layD S rows, tupII split, tupI line, .int off, thing] (.bool (folB S rows L split line off thing)) :=
  ⟨_, _, _, S, rows, L, split, line, off, thing, rfl, flat_layD hL 1, flat_rows hs (fun g h => (hg g h).1) 2, flat_tupI (by rw [hln]; exact hL.L2) 3, tupOf_layD S rows, tupOf_tupII split, tupOf_tupI line, hL, hs, hg, hln, rfl⟩
theorem press_ok {S : Int} {rows : List (List Int)} {L : Nat} {split : List (List Int)} {line : List Int} (off : Int) (thing : PyData) (hL : Lay S rows L) (hs : split.length ≤ 1000) (hg : ∀ g ∈ split, Grp rows g) (hln : line.length = L) :
    F_is_press [layD S rows, tupII split, tupI line, .int off, thing] (.bool (pressD (tbl S off rows L split) line thing)) :=
  ⟨_, _, _, S, rows, L, split, line, off, thing, rfl, flat_layD hL 1, flat_rows hs (fun g h => (hg g h).1) 2, flat_tupI (by rw [hln]; exact hL.L2) 3, tupOf_layD S rows, tupOf_tupII split, tupOf_tupI line, hL, hs, hg, hln, rfl⟩
theorem bD_ok {α : Type} (xs : List α) (g : α → Bool) {bs : List Bool} (h : xs.map g = bs) : PyData.list (xs.map fun x => .bool (g x)) = bD bs := by
  rw [← h]
  unfold bD
  rw [List.map_map]
  rfl
def t4 (a b c d : Int) : PyData := tupI [a, b, c, d]
def things1 : List PyData := [.tuple [t4 0 0 1 1, t4 0 0 0 1], .tuple [t4 0 0 0 1, t4 0 0 1 1], .tuple [t4 0 0 1 2, t4 0 0 0 0], .list [t4 0 0 1 1, t4 0 0 0 1], .tuple [t4 0 0 1 1, t4 0 0 1 1], .tuple [t4 0 0 1 1], .tuple [t4 0 0 0 1, t4 0 0 0 1]]
def odd1 : List (Int × PyData) := [(2, .tuple [t4 0 1 0 1, t4 0 0 1 1]), (3, .tuple [t4 1 1 1 1, t4 (-1) 0 0 1]), (3, .tuple [t4 0 0 1 1, t4 0 1 0 1]), (2, .tuple [t4 0 1 1 1, t4 0 0 0 1])]
def pr (w : Str) (a b : Int) : PyData := .tuple [.str w, .int a, .int b]
def things2 : List PyData := [pr "more" 0 2, pr "more" 1 2, pr "fewer" 2 3, pr "more" 0 3, pr "bare" 0 1, pr "fewer" 0 2, pr "more" 2 1, pr "more" 0 4, .list [.str "more", .int 0, .int 2]]
def things3 : List PyData := [pr "bare" 0 1, pr "bare" 1 2, pr "bare" 0 3, pr "bare" 0 0, pr "bare" 2 1, pr "bare" (-1) 1, pr "more" 0 2, pr "fewer" 2 3]
def things4 : List PyData := [pr "more" 0 3, pr "more" 1 3, pr "fewer" 0 1]
def gotD : List PyData := [bD [false, false, false, true], bD [true, true, false, false, false, false, false], bD [false, false], bD [true, true, true, false, false, false, false, false, false], bD [true, true, false, false, false, false, false, false], bD [true, false, false]]
theorem got1 : odd1.map (fun p => folB 3 thirdsR 4 twoG [0, 1, 1, 2] p.1 p.2) = [false, false, false, true] := by decide +kernel
theorem got2 : things1.map (folB 3 thirdsR 4 twoG [0, 0, 1, 2] 2) = [true, true, false, false, false, false, false] := by decide +kernel
theorem got3 : (things1.take 2).map (folB 3 thirdsR 4 twoG [0, 0, 1, 2] 1) = [false, false] := by decide +kernel
theorem got4 : things2.map (pressD (tbl 3 1 thirdsR 4 twoG) [0, 0, 1, 2]) = [true, true, true, false, false, false, false, false, false] := by decide +kernel
theorem got5 : things3.map (pressD (tbl 3 0 thirdsR 4 twoG) [0, 0, 1, 2]) = [true, true, false, false, false, false, false, false] := by decide +kernel
theorem got6 : things4.map (pressD (tbl 1 1 stillR 4 [[0]]) [0, 1, 1, 1]) = [true, false, false] := by decide +kernel
theorem same_bD (bs : List Bool) (h : bs.length ≤ 1000) : SameOk 1 (bD bs) := .lst 0 _ (by rw [List.length_map]; exact h) fun d hd => by
  obtain ⟨b, _, rfl⟩ := List.mem_map.mp hd
  exact .bl 0 b
theorem same_gotD : SameOk 2 (.list gotD) := .lst 1 _ (by decide) fun d hd => by
  simp only [gotD, List.mem_cons, List.not_mem_nil, or_false] at hd
  rcases hd with rfl | rfl | rfl | rfl | rfl | rfl <;> exact same_bD _ (by decide)
def F_by_hand : List PyData → PyData → Prop := fun ds r => ds = [] ∧ r = .bool true
section
variable {P : Program} {w : World} {K : PySem.W.Frag} {mg : Str → Option Value} {base : Heap} {f : Addr} {fd : FuncData}
theorem dn_by_hand (hB : Bt mg) (D1 : Dn P w K mg base 1 "_law_thirds" p_thirds (spD F_thirds)) (D2 : Dn P w K mg base 6 "are_followed" p_are_followed (spD F_are_followed)) (D3 : Dn P w K mg base 6 "is_press" p_is_press (spD F_is_press)) (D4 : Dn P w K mg base 3 "_law_same" p_same (spD (F_same 2)))
    (hf : FnP K "_law_by_hand_right" s_by_hand_right f fd) (hm : mg "_law_by_hand_right" = some (.ref f)) : Dn P w K mg base 7 "_law_by_hand_right" p_by_hand_right (spD F_by_hand) := by
  refine dn_pure hf hm hB sc_by_hand_right (hf.bindsN fun _ _ _ _ _ _ us hl => match us, hl with | [], _ => rfl) (fun ds d h => ?_) (fun cdv A0 outer s H X0 gd ds r h => ?_)
  · obtain ⟨rfl, _⟩ := h
    rfl
  · obtain ⟨rfl, rfl⟩ := h
    refine run_tgt (c1 := 0) (c2 := 0) (pg_tup gd.calm (pgs_cons (pg_name (i := 0) gd.nd rfl (.inr rfl)) (pgs_cons (pg_name (i := 1) gd.nd rfl (.inr rfl)) (pgs_cons (pg_name (i := 2) gd.nd rfl (.inr rfl)) pgs_nil))))
      (e_tup (a_cons (e_call0 D1 gd (by decide) (by rfl) ⟨rfl, rfl⟩) (a_cons (e_const (d := tupII twoG) (by rfl)) (a_cons (e_const (d := tupI [0, 0, 1, 2]) (by rfl)) a_nil)))) fun d e => ?_
    subst e
    refine ⟨[0, 1, 2], _, gok_tup3, ?_⟩
    refine run_set (i := 3) gd rfl (e_const (d := .list things1) (by rfl)) ?_
    refine run_set (i := 4) gd rfl (e_const (d := .list (odd1.map fun p => .tuple [.int p.1, p.2])) (by rfl)) ?_
    refine rx_start (Ω := fun _ _ _ => True) (Ψ := fun _ _ _ _ => False) ?_ (fun _ _ => True.intro) (fun _ _ _ _ h => h.elim)
    refine rx_own (c1 := 0) (c2 := 0) (i := 5) gd rfl Stb.triv (enew_lst (Pa := fun z => z = gotD.take 3) (a_cons (Ev.to (e_lcT (Nn := n_by_hand_right) (sc := defScope s_by_hand_right) gd 8 9 rfl rfl PyData.int id odd1 (by decide) (i_list (nm 4)) (fun p => .bool (folB 3 thirdsR 4 twoG [0, 1, 1, 2] p.1 p.2)) fun p hp s H C cl fp =>
        e_call D2 gd.blk (by decide) (by rfl) (a_cons (nm 0) (a_cons (nm 1) (a_cons (e_const (d := tupI [0, 1, 1, 2]) (by rfl)) (a_cons (nm 8) (a_cons (nm 9) a_nil))))) (fol_ok p.1 p.2 lay_thirds (by decide) grp_two rfl)) (bD_ok _ _ got1))
      (a_cons (Ev.to (e_lcN (Nn := n_by_hand_right) (sc := defScope s_by_hand_right) gd 9 rfl rfl id things1 (by decide) (by rw [List.map_id]; exact i_list (nm 3)) (fun t => .bool (folB 3 thirdsR 4 twoG [0, 0, 1, 2] 2 t)) fun t ht s H C cl fp =>
        e_call D2 gd.blk (by decide) (by rfl) (a_cons (nm 0) (a_cons (nm 1) (a_cons (nm 2) (a_cons e_int (a_cons (nm 9) a_nil))))) (fol_ok 2 t lay_thirds (by decide) grp_two rfl)) (bD_ok _ _ got2))
      (a_cons (Ev.to (e_lcN (Nn := n_by_hand_right) (sc := defScope s_by_hand_right) gd 9 rfl rfl id (things1.take 2) (by decide) (by rw [List.map_id, ← cutL_to]; exact i_list (e_sliceL (nm 3) (by exact True.intro) (by exact e_int))) (fun t => .bool (folB 3 thirdsR 4 twoG [0, 0, 1, 2] 1 t)) fun t ht s H C cl fp =>
        e_call D2 gd.blk (by decide) (by rfl) (a_cons (nm 0) (a_cons (nm 1) (a_cons (nm 2) (a_cons e_int (a_cons (nm 9) a_nil))))) (fol_ok 1 t lay_thirds (by decide) grp_two rfl)) (bD_ok _ _ got3)) a_nil))) (fun ds e => by rw [e]; decide)) fun ds e p => ?_
    subst e
    refine rx_imp (Ω' := Own none p (gotD.take 3)) (fun _ _ _ h => h.2) ?_
    refine rx_asg (c1 := 0) (c2 := 0) (i := 3) gd rfl Own.stb (e_const (d := .list things2) (by rfl)) fun d e => ?_
    subst e
    refine rx_append1 (i := 5) (c1 := 0) (c2 := 0) (P := fun z => z = gotD.getD 3 .none) rfl rfl (.inl (Ev.to (e_lcN (Nn := n_by_hand_right) (sc := defScope s_by_hand_right) gd 9 rfl rfl id things2 (by decide) (by rw [List.map_id]; exact i_list (nm 3)) (fun t => .bool (pressD (tbl 3 1 thirdsR 4 twoG) [0, 0, 1, 2] t)) fun t ht s H C cl fp =>
        e_call D3 gd.blk (by decide) (by rfl) (a_cons (nm 0) (a_cons (nm 1) (a_cons (nm 2) (a_cons e_int (a_cons (nm 9) a_nil))))) (press_ok 1 t lay_thirds (by decide) grp_two rfl)) (bD_ok _ _ got4))) (by decide) fun d e => ?_
    subst e
    refine rx_asg (c1 := 0) (c2 := 0) (i := 3) gd rfl Own.stb (e_const (d := .list things3) (by rfl)) fun d e => ?_
    subst e
    refine rx_append1 (i := 5) (c1 := 0) (c2 := 0) (P := fun z => z = gotD.getD 4 .none) rfl rfl (.inl (Ev.to (e_lcN (Nn := n_by_hand_right) (sc := defScope s_by_hand_right) gd 9 rfl rfl id things3 (by decide) (by rw [List.map_id]; exact i_list (nm 3)) (fun t => .bool (pressD (tbl 3 0 thirdsR 4 twoG) [0, 0, 1, 2] t)) fun t ht s H C cl fp =>
        e_call D3 gd.blk (by decide) (by rfl) (a_cons (nm 0) (a_cons (nm 1) (a_cons (nm 2) (a_cons e_int (a_cons (nm 9) a_nil))))) (press_ok 0 t lay_thirds (by decide) grp_two rfl)) (bD_ok _ _ got5))) (by decide) fun d e => ?_
    subst e
    refine rx_asg (c1 := 0) (c2 := 0) (i := 6) gd rfl Own.stb (Ev.to (d' := .list (gotD.take 5)) (e_lst (a_cons (e_bin (e_bin (e_const (d := bD [false]) (by rfl)) e_int (b2_rep (by decide) (by decide) (by decide))) (e_const (d := bD [true]) (by rfl)) (b2_catL (by decide)))
      (a_cons (e_bin (e_const (d := bD [true, true]) (by rfl)) (e_bin (e_const (d := bD [false]) (by rfl)) e_int (b2_rep (by decide) (by decide) (by decide))) (b2_catL (by decide)))
      (a_cons (e_const (d := bD [false, false]) (by rfl))
      (a_cons (e_bin (e_const (d := bD [true, true, true]) (by rfl)) (e_bin (e_const (d := bD [false]) (by rfl)) e_int (b2_rep (by decide) (by decide) (by decide))) (b2_catL (by decide)))
      (a_cons (e_bin (e_const (d := bD [true, true]) (by rfl)) (e_bin (e_const (d := bD [false]) (by rfl)) e_int (b2_rep (by decide) (by decide) (by decide))) (b2_catL (by decide))) a_nil)))))) (by rfl)) fun d e => ?_
    subst e
    refine rx_asg (c1 := 0) (c2 := 0) (i := 7) gd rfl Own.stb (e_const (d := layD 1 stillR) (by rfl)) fun d e => ?_
    subst e
    refine rx_append1 (i := 5) (c1 := 0) (c2 := 0) (P := fun z => z = gotD.getD 5 .none) rfl rfl (.inl (Ev.to (e_lcN (Nn := n_by_hand_right) (sc := defScope s_by_hand_right) gd 9 rfl rfl id things4 (by decide) (by rw [List.map_id]; exact i_tup (e_const (by rfl))) (fun t => .bool (pressD (tbl 1 1 stillR 4 [[0]]) [0, 1, 1, 1] t)) fun t ht s H C cl fp =>
        e_call D3 gd.blk (by decide) (by rfl) (a_cons (nm 7) (a_cons (e_const (d := tupII [[0]]) (by rfl)) (a_cons (e_const (d := tupI [0, 1, 1, 1]) (by rfl)) (a_cons e_int (a_cons (nm 9) a_nil))))) (press_ok 1 t lay_still (by decide) grp_still rfl)) (bD_ok _ _ got6))) (by decide) fun d e => ?_
    subst e
    refine rx_freeze (p := p) (i := 5) rfl (fun _ _ _ h => h) (run_ret ?_)
    exact e_call D4 gd (by decide) (by rfl) (a_cons (nm 5) (a_cons (e_bin (nm 6) (e_const (d := .list [bD [true, false, false]]) (by rfl)) (b2_catL (by decide))) a_nil)) ⟨.list gotD, by rfl, same_gotD, rfl⟩
end
end Pn

set_option Elab.async false
set_option linter.all false
set_option maxRecDepth 100000
set_option maxHeartbeats 1000000
/-! PnK: the drawing cell; take. -/
namespace Pn
open PySem PySem.Spec PyProof.Rows L2

def tV (x y z : Int) : HO := .lst [.int x, .int y, .int z]
/-- within the def that draws: its own reading of the cell -/
structure TSt (a : Addr) (G0 H0 G : Hp) (σ : Sg) (ρ : List Sl) (H : Hp) (x y z : Int) : Prop where
  env : EnvOk (some a) G σ ρ
  gr : Gr (some a) G0 H0 G H
  gn : G a = none
  at_ : H a = some (tV x y z)
section
variable {X : Cx} {k : Nat} {a : Addr} {G0 H0 G H : Hp} {σ : Sg} {ρ : List Sl} {x y z : Int} {e : Expr} {d : PyData}
theorem tin_view (s : TSt a G0 H0 G σ ρ H x y z) (hi : ρ[0]? = some .tin) : Pre none (upd G a (tV x y z)) σ (ρ.set 0 (.dat (lstI [x, y, z]))) H 0 ∧ Ex G (upd G a (tV x y z)) := by
  have ex : Ex G (upd G a (tV x y z)) := Ex.new s.gn
  refine ⟨⟨?_, fun b o q => ?_, TinOk.none⟩, ex⟩
  · have h1 := ((s.env.mono ex).toNone).set 0 (v := .ref a) (d := lstI [x, y, z]) (.lst upd_same (RpA.ints [x, y, z]))
    have h2 := s.env.tinAt hi rfl
    have e : σ.set 0 (some (.ref a)) = σ := by
      refine List.ext_getElem? fun j => ?_
      by_cases q : 0 = j
      · subst q
        obtain ⟨hl, _⟩ := List.getElem?_eq_some_iff.mp h2
        rw [List.getElem?_set_self hl, h2]
      · rw [List.getElem?_set_ne q]
    rw [e] at h1
    exact h1
  · by_cases w : b = a
    · subst w
      rw [upd_same] at q
      rw [s.at_]
      exact q
    · rw [upd_ne w] at q
      exact s.gr.nh b o q
theorem tin_back (s : TSt a G0 H0 G σ ρ H x y z) {N' H' : Hp} (g : Gr none (upd G a (tV x y z)) H N' H') : ∃ N, Gr none G H N H' ∧ N a = none ∧ H' a = some (tV x y z) ∧ ∀ v d, flatD d = true → Rp N' v d → Rp N v d := by
  refine ⟨fun b => if b = a then none else N' b, ⟨fun b o q => ?_, fun b o q => ?_, fun b o q => ?_, g.hh, g.ht⟩, if_pos rfl, g.ex a _ s.at_, fun v d hf r => ?_⟩
  · have w : b ≠ a := fun w => by rw [w, s.gn] at q; cases q
    show (if b = a then none else N' b) = some o
    rw [if_neg w]
    exact g.gn b o (by rw [upd_ne w]; exact q)
  · have q' : (if b = a then none else N' b) = some o := q
    by_cases w : b = a
    · rw [if_pos w] at q'; cases q'
    · rw [if_neg w] at q'
      rcases g.fr b o q' with h | h
      · rw [upd_ne w] at h; exact .inl h
      · exact .inr h
  · have q' : (if b = a then none else N' b) = some o := q
    by_cases w : b = a
    · rw [if_pos w] at q'; cases q'
    · rw [if_neg w] at q'; exact g.nh b o q'
  · cases r with
    | non => exact .non
    | bl b => exact .bl b
    | int i => exact .int i
    | str x => exact .str x
    | lst _ _ => exact absurd hf Bool.false_ne_true
    | tup _ _ => exact absurd hf Bool.false_ne_true
theorem TSt.next (s : TSt a G0 H0 G σ ρ H x y z) {N H' : Hp} (g : Gr none G H N H') (hn : N a = none) (ha : H' a = some (tV x y z)) : TSt a G0 H0 N σ ρ H' x y z := ⟨s.env.mono g.gn, s.gr.trans g.lift, hn, ha⟩
theorem tin_ev (s : TSt a G0 H0 G σ ρ H x y z) (hi : ρ[0]? = some .tin) (h : E X e (ρ.set 0 (.dat (lstI [x, y, z]))) d) (hf : flatD d = true) (Q : VK) (q : ∀ v N H', Gr none G H N H' → TSt a G0 H0 N σ ρ H' x y z → Rp N v d → Q v H') : WE X e σ H Q := by
  obtain ⟨pr, ex⟩ := tin_view s hi
  refine h _ σ H 0 pr (by decide) Q fun v d' N' H' n' e1 o r => ?_
  subst e1
  obtain ⟨N, g, hn, ha, back⟩ := tin_back s o.gr
  exact q v N H' g (s.next g hn ha) (back v _ hf r)
theorem tin_et {t : Bool} (s : TSt a G0 H0 G σ ρ H x y z) (hi : ρ[0]? = some .tin) (h : Eb X e (ρ.set 0 (.dat (lstI [x, y, z]))) t) (Q : Bool → Hp → Prop) (q : ∀ N H', TSt a G0 H0 N σ ρ H' x y z → Q t H') : WT X e σ H Q := by
  obtain ⟨pr, ex⟩ := tin_view s hi
  refine h _ σ H 0 pr (by decide) Q fun b N' H' n' e1 o => ?_
  subst e1
  obtain ⟨N, g, hn, ha, back⟩ := tin_back s o.gr
  exact q N H' (s.next g hn ha)
/-- what the cell holds at the end -/
def TEnd (n : Nat) (x y z : Int) : Prop := 0 ≤ x ∧ 0 ≤ y ∧ y < 2 ^ 62 ∧ 0 ≤ z ∧ z ≤ (n : Int) + 1
def Tb (X : Cx) (a : Addr) (n : Nat) (ss : List Stmt) (ρ : List Sl) (x y z : Int) (R : PyData → Prop) : Prop := ∀ G0 H0 G σ H, TSt a G0 H0 G σ ρ H x y z → ∀ D : Ends, (∀ v d N H' x' y' z', R d → Gr (some a) G0 H0 N H' → N a = none → H' a = some (tV x' y' z') → TEnd n x' y' z' → Rp N v d → D.rt v H') → WSs X ss D σ H
variable {n : Nat} {R : PyData → Prop} {rest body : List Stmt} {pos pos' p1 p2 : Pos} {kc : Nat}
theorem tb_if {t : Expr} {b : Bool} (hi : ρ[0]? = some .tin) (h : Eb X t (ρ.set 0 (.dat (lstI [x, y, z]))) b) (h1 : b = true → ∀ G0 H0 G σ H, TSt a G0 H0 G σ ρ H x y z → ∀ D : Ends, (∀ v d N H' x' y' z', R d → Gr (some a) G0 H0 N H' → N a = none → H' a = some (tV x' y' z') → TEnd n x' y' z' → Rp N v d → D.rt v H') → WSs X body D σ H) (h2 : b = false → Tb X a n rest ρ x y z R) : Tb X a n (.If t body [] pos :: rest) ρ x y z R := fun G0 H0 G σ H s D q => by
  refine WSs.of (pss_cons (ps_if (wt t) (wss body) pss_nil) (wss rest)) ?_
  refine tin_et s hi h _ fun N H' s' => ?_
  cases b with
  | true => exact iteT (h1 rfl _ _ _ _ _ s' _ q)
  | false => exact iteF (h2 rfl _ _ _ _ _ s' D q)
theorem tb_asg {i : Nat} {y0 : Str} (hX : Good X k) (hi : X.N[i]? = some y0) (ht : ρ[0]? = some .tin) (h : E X e (ρ.set 0 (.dat (lstI [x, y, z]))) d) (hf : flatD d = true) (kk : Tb X a n rest (ρ.set i (.dat d)) x y z R)
    (hx : Loc X.env.scope y0 := by first | exact .inl rfl | exact .inr rfl) (hs : swapsWith e (some (.Name y0 pos')) pos.line X.env = pure false := by rfl) (hfn : X.fn y0 = true ∨ X.env.scope.names.lookup y0 = some .local := by first | exact .inl rfl | exact .inr rfl) :
    Tb X a n (.Assign [.Name y0 pos'] e pos :: rest) ρ x y z R := fun G0 H0 G σ H s D q => by
  refine WSs.of (pss_cons (ps_set hX.nd hi hx (we e) hs hfn) (wss rest)) ?_
  refine tin_ev s ht h hf _ fun v N H' g s' r => ?_
  exact kk G0 H0 N _ H' ⟨s'.env.set i r, s'.gr, s'.gn, s'.at_⟩ D q
theorem tb_ret (ht : ρ[0]? = some .tin) (h : E X e (ρ.set 0 (.dat (lstI [x, y, z]))) d) (hf : flatD d = true) (hR : R d) (hE : TEnd n x y z) : Tb X a n (.Return (some e) pos :: rest) ρ x y z R := fun G0 H0 G σ H s D q => by
  refine WSs.of (pss_cons (ps_ret (we e)) pss_never) ?_
  exact tin_ev s ht h hf _ fun v N H' g s' r => q v d N H' x y z hR s'.gr s'.gn s'.at_ hE r
/-- tin[j] = e -/
theorem tb_put {j : Nat} {y0 : Str} {w : Int} {x' y' z' : Int} (hX : Good X k) (hi : X.N[0]? = some y0) (hv : Vis X.env.scope y0) (ht : ρ[0]? = some .tin) (h : E X e (ρ.set 0 (.dat (lstI [x, y, z]))) (.int w)) (hj : j < 3) (hset : ([.int x, .int y, .int z] : List V).set j (.int w) = [.int x', .int y', .int z']) (kk : Tb X a n rest ρ x' y' z' R)
    (hd : (y0 == ("__debug__" : Str)) = false := by decide) (hcd : (y0 == ("__classdict__" : Str)) = false := by decide)
    (hs : swapsWithSole [.Subscript (.Name y0 p1) (.Constant (.int (j : Int)) kc p2) pos'] e pos.line X.env = pure false := by rfl) (hw : swappedStores [.Subscript (.Name y0 p1) (.Constant (.int (j : Int)) kc p2) pos'] e X.env = pure none := by rfl)
    (h1 : (assignEach [.Subscript (.Name y0 p1) (.Constant (.int (j : Int)) kc p2) pos'] X.env).map (·.2) = [assign (.Subscript (.Name y0 p1) (.Constant (.int (j : Int)) kc p2) pos') X.env] := by rfl) :
    Tb X a n (.Assign [.Subscript (.Name y0 p1) (.Constant (.int (j : Int)) kc p2) pos'] e pos :: rest) ρ x y z R := fun G0 H0 G σ H s D q => by
  refine WSs.of (pss_cons (ps_asg (we e) (pg_sub (pe_var hi hv hd hcd) pe_int set_list) hs hw h1) (wss rest)) ?_
  refine tin_ev s ht h rfl _ fun v N H' g s' r => ?_
  cases r
  refine ⟨.ref a, s'.env.tinAt ht rfl, a, _, (j : Int), j, rfl, rfl, s'.at_, ?_, ?_⟩
  · show ixN 3 (j : Int) = some j
    unfold ixN
    rw [if_pos (by omega), if_pos (by omega)]
    congr 1
  · rw [hset]
    refine kk G0 H0 N σ _ ⟨s'.env, ⟨s'.gr.gn, s'.gr.fr, fun b o z1 => ?_, fun b o t z1 => ?_, fun b o z1 => ?_⟩, s'.gn, upd_same⟩ D q
    · have hb : b ≠ a := fun w => by rw [w, s'.gn] at z1; cases z1
      rw [upd_ne hb]
      exact s'.gr.nh b o z1
    · have hb : b ≠ a := fun w => t (by rw [w])
      rw [upd_ne hb]
      exact s'.gr.hh b o t z1
    · by_cases hb : b = a
      · subst hb
        exact ⟨_, upd_same⟩
      · rw [upd_ne hb]
        exact s'.gr.ht b o z1
/-- the whole body -/
theorem tb_run {Φ : List Sl → Prop} {ss : List Stmt} (h : ∀ (n : Nat) (x y z : Int), n + 1 ≤ LIM → 0 ≤ x → 0 ≤ y → y < 2 ^ 62 → 0 ≤ z → z ≤ n → Tb X a n ss ρ x y z R) : Run X (some a) 1 ss ρ Φ R := fun G σ H n p hn D q1 q2 => by
  obtain ⟨gn, x, y, z, hH, b1, b2, b3, b4, b5⟩ := p.tin a rfl
  refine h n x y z hn b1 b2 b3 b4 b5 G H G σ H ⟨p.env, Gr.refl p.ex, gn, hH⟩ D fun v d N H' x' y' z' hR g hN ha hE r => ?_
  refine q2 v d N H' (n + 1) hR r ⟨g, fun b hb => ?_, Nat.le_refl _⟩
  cases hb
  obtain ⟨e1, e2, e3, e4, e5⟩ := hE
  exact ⟨hN, x', y', z', ha, e1, e2, e3, e4, by omega⟩
end
/-- a number below -/
def F_take : List PyData → (PyData → Prop) → Prop := fun ds R => ∃ b : Int, ds = [.int b] ∧ 1 ≤ b ∧ b ≤ 100000 ∧ R = fun d => ∃ i : Int, d = .int i ∧ 0 ≤ i ∧ i < b
section
variable {P : Program} {w : World} {K : PySem.W.Frag} {mg : Str → Option Value} {base : Heap} {f : Addr} {fd : FuncData}
theorem dn_take (hB : Bt mg) (hf : FnP K "_law_take" s_take f fd) (hm : mg "_law_take" = some (.ref f)) : Dn P w K mg base 1 "_law_take" p_take (spT 1 F_take) := by
  refine dn_draw hf hm hB sc_take (hf.bindsN fun _ _ _ _ _ _ us hl => match us, hl with | [_, _], _ => rfl) (fun ds R h => ?_) (fun cdv A0 outer s H X0 gd a ds R h => ?_)
  · obtain ⟨b, rfl, _⟩ := h
    rfl
  · obtain ⟨b, rfl, hb1, hb2, rfl⟩ := h
    refine tb_run fun n x y z hn hx hy hy2 hz hz2 => ?_
    have hmod : ∀ i : Int, ∃ j : Int, PyData.int (i % b) = .int j ∧ 0 ≤ j ∧ j < b := fun i => ⟨i % b, rfl, Int.emod_nonneg _ (by omega), Int.emod_lt_of_pos _ (by omega)⟩
    have hLIM : LIM = 1000000000 := rfl
    refine tb_if (b := decide (0 < x)) rfl (eb_cmp (e_ix (nm 0) e_int (bx_lstI rfl)) e_int b2_gt) (fun _ => ?_) fun _ => ?_
    · refine tb_asg (i := 2) gd rfl rfl (e_bin (e_intI gd (e_ix (nm 0) e_int (bx_lstI rfl))) (nm 1) (b2_mod (by omega))) rfl ?_
      refine tb_put (j := 0) gd rfl (.inl rfl) rfl (e_bin (e_ix (nm 0) e_int (bx_lstI rfl)) (nm 1) (b2_fdiv ⟨by omega, by omega⟩)) (by decide) rfl ?_
      refine tb_ret rfl (nm 2) rfl (hmod x) ⟨Int.ediv_nonneg hx (by omega), hy, hy2, hz, by omega⟩
    · refine tb_put (j := 2) gd rfl (.inl rfl) rfl (e_bin (e_ix (nm 0) e_int (bx_lstI rfl)) e_int b2_add) (by decide) rfl ?_
      refine tb_asg (i := 3) gd rfl rfl (e_bin (e_intI gd (e_bin (e_bin (e_ix (nm 0) e_int (bx_lstI rfl)) (e_bin e_int (e_ix (nm 0) e_int (bx_lstI rfl)) (b2_mul (.inl ⟨by decide, by decide⟩))) b2_add) (e_bin e_int (e_ix (nm 0) e_int (bx_lstI rfl)) b2_add) (b2_mul (.inr ⟨by omega, by omega⟩)))) e_int (b2_mod (by decide))) rfl ?_
      refine tb_asg (i := 4) gd rfl rfl (e_bin (e_bin (e_intI gd (nm 3)) e_int (b2_mod (by decide))) e_int b2_add) rfl ?_
      refine tb_asg (i := 5) gd rfl rfl (e_bin (e_intI gd (e_bin (e_bin (e_bin (nm 3) (e_ix (nm 0) e_int (bx_lstI rfl)) b2_add) (e_bin (e_ix (nm 0) e_int (bx_lstI rfl)) e_int (b2_fdiv ⟨by decide, by decide⟩)) b2_add) (nm 4) (b2_mul (.inr ?_)))) e_int (b2_mod (by decide))) rfl ?_
      · have h1 := Int.emod_nonneg ((y + 48271 * (z + 1)) * (39373 + (z + 1)) % 2147483647) (show (40009 : Int) ≠ 0 by decide)
        have h2 := Int.emod_lt_of_pos ((y + 48271 * (z + 1)) * (39373 + (z + 1)) % 2147483647) (show (0 : Int) < 40009 by decide)
        constructor <;> omega
      · refine tb_ret rfl (e_bin (e_intI gd (e_bin (e_bin (e_intI gd (e_bin (e_bin (nm 5) e_int (b2_mul (.inr ⟨by decide, by decide⟩))) (nm 3) b2_add)) e_int (b2_mod (by decide))) e_int (b2_fdiv ⟨by decide, by decide⟩))) (nm 1) (b2_mod (by omega))) rfl (hmod _) ⟨hx, hy, hy2, by omega, by omega⟩
end
end Pn

set_option Elab.async false
set_option linter.all false
set_option maxRecDepth 100000
set_option maxHeartbeats 1000000
/-! PnL: what a body owns, several lists at once. -/
namespace Pn
open PySem PySem.Spec PyProof.Rows L2

/-! ### know what is owned, forget it -/
def Fre (T : Option Addr) (H0 N H : Hp) (a : Addr) : Prop := T ≠ some a ∧ H0 a = none ∧ N a = none ∧ ∃ o, H a = some o
noncomputable def addS (N H : Hp) (S : List Addr) : Hp := fun b => if b ∈ S then H b else N b
noncomputable def subS (N : Hp) (S : List Addr) : Hp := fun b => if b ∈ S then none else N b
section
variable {T : Option Addr} {G0 H0 N H N3 H' : Hp} {σ : Sg} {ρ : List Sl} {n n' n0 c0 c : Nat} {S : List Addr}
theorem addS_in {a : Addr} (h : a ∈ S) : addS N H S a = H a := if_pos h
theorem addS_out {a : Addr} (h : a ∉ S) : addS N H S a = N a := if_neg h
theorem subS_in {a : Addr} (h : a ∈ S) : subS N S a = none := if_pos h
theorem subS_out {a : Addr} (h : a ∉ S) : subS N S a = N a := if_neg h
theorem view_ex (hS : ∀ a ∈ S, Fre T H0 N H a) : Ex N (addS N H S) := fun a o e => by
  by_cases h : a ∈ S
  · rw [(hS a h).2.2.1] at e; cases e
  · rw [addS_out h]; exact e
theorem view_pre (hS : ∀ a ∈ S, Fre T H0 N H a) (pr : Pre T N σ ρ H n) : Pre T (addS N H S) σ ρ H n := ⟨pr.env.mono (view_ex hS), fun a o e => by
  by_cases h : a ∈ S
  · rw [addS_in h] at e; exact e
  · rw [addS_out h] at e; exact pr.ex a o e, fun a ha => by
  obtain ⟨z1, z2⟩ := pr.tin a ha
  have : a ∉ S := fun h => (hS a h).1 ha
  exact ⟨by rw [addS_out this]; exact z1, z2⟩⟩
theorem view_po (hS : ∀ a ∈ S, Fre T H0 N H a) (pr : Pre T N σ ρ H n) (po : Po T G0 H0 n0 c0 N H n) : Po T G0 H0 n0 c0 (addS N H S) H n := ⟨⟨po.gr.gn.trans (view_ex hS), fun a o e => by
  by_cases h : a ∈ S
  · exact .inr (hS a h).2.1
  · rw [addS_out h] at e; exact po.gr.fr a o e, (view_pre hS pr).ex, po.gr.hh, po.gr.ht⟩, (view_pre hS pr).tin, po.le⟩
theorem unview (hS : ∀ a ∈ S, Fre T H0 N H a) (o : Po T (addS N H S) H n c N3 H' n') : Po T N H n c (subS N3 S) H' n' := ⟨⟨fun a u e => by
  have h : a ∉ S := fun h => by rw [(hS a h).2.2.1] at e; cases e
  rw [subS_out h]
  exact o.gr.gn a u (by rw [addS_out h]; exact e), fun a u e => by
  by_cases h : a ∈ S
  · rw [subS_in h] at e; cases e
  · rw [subS_out h] at e
    rcases o.gr.fr a u e with y | y
    · rw [addS_out h] at y; exact .inl y
    · exact .inr y, fun a u e => by
  by_cases h : a ∈ S
  · rw [subS_in h] at e; cases e
  · rw [subS_out h] at e; exact o.gr.nh a u e, o.gr.hh, o.gr.ht⟩, fun a ha => by
  obtain ⟨z1, z2⟩ := o.tin a ha
  have : a ∉ S := fun h => (hS a h).1 ha
  exact ⟨by rw [subS_out this]; exact z1, z2⟩, o.le⟩
theorem Rp.unflat {v : V} {d : PyData} (r : Rp N v d) (hf : flatD d = true) : ∀ N' : Hp, Rp N' v d := fun N' => by
  cases r with
  | non => exact .non
  | bl b => exact .bl b
  | int i => exact .int i
  | str x => exact .str x
  | lst _ _ => exact absurd hf Bool.false_ne_true
  | tup _ _ => exact absurd hf Bool.false_ne_true
theorem RpA.unflat : ∀ {vs : List V} {ds : List PyData}, RpA N vs ds → ds.all flatD = true → ∀ N' : Hp, RpA N' vs ds
  | _, _, .nil, _, _ => .nil
  | _, _, .cons h t, e, N' => by
    rw [List.all_cons, Bool.and_eq_true] at e
    exact .cons (h.unflat e.1 N') (RpA.unflat t e.2 N')
end
/-! ### readings under what is held -/
def EvO (X : Cx) (T : Option Addr) (c : Nat) (e : Expr) (ρ : List Sl) (Ω : Om) (P : PyData → Prop) : Prop := ∀ G0 H0 n0 c0 N σ H n, Ω H0 N H → Pre T N σ ρ H n → Po T G0 H0 n0 c0 N H n → n + c ≤ LIM → ∀ Q : VK, (∀ v d N' H' n', P d → Po T N H n c N' H' n' → Rp N' v d → Q v H') → WE X e σ H Q
def EtO (X : Cx) (T : Option Addr) (c : Nat) (e : Expr) (ρ : List Sl) (Ω : Om) (P : Bool → Prop) : Prop := ∀ G0 H0 n0 c0 N σ H n, Ω H0 N H → Pre T N σ ρ H n → Po T G0 H0 n0 c0 N H n → n + c ≤ LIM → ∀ Q : Bool → Hp → Prop, (∀ b N' H' n', P b → Po T N H n c N' H' n' → Q b H') → WT X e σ H Q
def EiO (X : Cx) (tg : Expr) (T : Option Addr) (c : Nat) (iter : Expr) (ρ : List Sl) (Ω : Om) (P : List PyData → Prop) : Prop := ∀ G0 H0 n0 c0 N σ H n, Ω H0 N H → Pre T N σ ρ H n → Po T G0 H0 n0 c0 N H n → n + c ≤ LIM → ∀ R : It → Hp → Prop, (∀ ds J N' H' n', P ds → Po T N H n c N' H' n' → Walks N' J ds → R J H') → WI X tg iter σ H R
/-- what is owned, known: the slots then -/
def Knows (T : Option Addr) (Ω : Om) (S : List Addr) (ρ ρ' : List Sl) : Prop := ∀ H0 N H, Ω H0 N H → (∀ a ∈ S, Fre T H0 N H a) ∧ ∀ σ, EnvOk T (addS N H S) σ ρ → EnvOk T (addS N H S) σ ρ'
section
variable {X : Cx} {T : Option Addr} {c c1 c2 c3 k : Nat} {e t tg iter : Expr} {ss rest body orelse : List Stmt} {ρ ρ' : List Sl} {Ω Ω' : Om} {Ψ : List Sl → Om} {R P : PyData → Prop} {S : List Addr} {pos pos' : Pos}
theorem Ev.o (h : Ev X T c e ρ P) : EvO X T c e ρ Ω P := fun G0 H0 n0 c0 N σ H n _ pr _ hn Q q => h N σ H n pr hn Q q
theorem Et.o {P : Bool → Prop} (h : Et X T c e ρ P) : EtO X T c e ρ Ω P := fun G0 H0 n0 c0 N σ H n _ pr _ hn Q q => h N σ H n pr hn Q q
theorem Ei.o {P : List PyData → Prop} (h : Ei X tg T c iter ρ P) : EiO X tg T c iter ρ Ω P := fun G0 H0 n0 c0 N σ H n _ pr _ hn Q q => h N σ H n pr hn Q q
theorem evo_peek (hk : Knows T Ω S ρ ρ') (h : Ev X T c e ρ' P) (hf : ∀ d, P d → flatD d = true) : EvO X T c e ρ Ω P := fun G0 H0 n0 c0 N σ H n om pr po hn Q q => by
  obtain ⟨hS, he⟩ := hk H0 N H om
  have p2 := view_pre hS pr
  exact h _ σ H n ⟨he σ p2.env, p2.ex, p2.tin⟩ hn Q fun v d N3 H' n' hd o r => q v d _ H' n' hd (unview hS o) (r.unflat (hf d hd) _)
theorem eto_peek {P : Bool → Prop} (hk : Knows T Ω S ρ ρ') (h : Et X T c e ρ' P) : EtO X T c e ρ Ω P := fun G0 H0 n0 c0 N σ H n om pr po hn Q q => by
  obtain ⟨hS, he⟩ := hk H0 N H om
  have p2 := view_pre hS pr
  exact h _ σ H n ⟨he σ p2.env, p2.ex, p2.tin⟩ hn Q fun b N3 H' n' hd o => q b _ H' n' hd (unview hS o)
/-- a new list of plain things -/
def EF (X : Cx) (e : Expr) (ρ : List Sl) (ds : List PyData) : Prop := ∀ G σ H n, Pre none G σ ρ H n → n ≤ LIM → ∀ Q : VK, (∀ p N H' n', Po none G H n 0 N H' n' → H p = none → Rp N (.ref p) (.list ds) → Q (.ref p) H') → WE X e σ H Q
theorem EF.toE {ds : List PyData} (h : EF X e ρ ds) : E X e ρ (.list ds) := fun G σ H n pr hn Q q => h G σ H n pr (by omega) Q fun p N H' n' o _ r => q _ _ N H' n' rfl o r
theorem evo_fresh {ds : List PyData} (hk : Knows T Ω S ρ ρ') (h : EF X e ρ' ds) (hf : ds.all flatD = true) : EvO X T c e ρ Ω (fun z => z = .list ds) := fun G0 H0 n0 c0 N σ H n om pr po hn Q q => by
  obtain ⟨hS, he⟩ := hk H0 N H om
  have p2 := view_pre hS pr
  refine h _ σ H n (Pre.toNone ⟨he σ p2.env, p2.ex, p2.tin⟩) (by omega) Q fun p N3 H' n' o hp r => ?_
  have hpS : p ∉ S := fun z => by
    obtain ⟨_, _, _, u, e⟩ := hS p z
    rw [hp] at e
    cases e
  have o' := unview hS (Po.pure (c := c) p2.tin o.gr)
  cases r with
  | lst ha hr => exact q _ _ _ H' n rfl o' (.lst (by rw [subS_out hpS]; exact ha) (hr.unflat hf _))
theorem own_knows {p : Addr} {ds : List PyData} {i : Nat} (hi : ρ[i]? = some (.raw (.ref p))) (h : ∀ H0 N H, Ω H0 N H → Own T p ds H0 N H) : Knows T Ω [p] ρ (ρ.set i (.dat (.list ds))) := fun H0 N H om => by
  obtain ⟨h1, h2, h3, vs, h4, h5⟩ := h _ _ _ om
  have hS : ∀ a ∈ [p], Fre T H0 N H a := fun a ha => by
    rw [List.mem_singleton.mp ha]
    exact ⟨h1, h2, h3, _, h4⟩
  refine ⟨hS, fun σ en => ?_⟩
  have e2 := en.set i (v := .ref p) (d := .list ds) (.lst (by rw [addS_in (by simp)]; exact h4) (h5.mono (view_ex hS)))
  have z := en.rawAt hi
  have e : σ.set i (some (.ref p)) = σ := by
    refine List.ext_getElem? fun j => ?_
    by_cases q : i = j
    · subst q
      obtain ⟨hl, _⟩ := List.getElem?_eq_some_iff.mp z
      rw [List.getElem?_set_self hl, z]
    · rw [List.getElem?_set_ne q]
  rw [e] at e2
  exact e2
/-! ### statements -/
theorem rx_asgO {i : Nat} {x : Str} (hX : Good X k) (hi : X.N[i]? = some x) (st : Stb T Ω) (h : EvO X T c1 e ρ Ω P) (kk : ∀ d, P d → RX X T c2 rest (ρ.set i (.dat d)) Ω Ψ R) (hc : c1 + c2 ≤ c := by omega)
    (hx : Loc X.env.scope x := by first | exact .inl rfl | exact .inr rfl) (hs : swapsWith e (some (.Name x pos')) pos.line X.env = pure false := by rfl) (hf : X.fn x = true ∨ X.env.scope.names.lookup x = some .local := by first | exact .inl rfl | exact .inr rfl) :
    RX X T c (.Assign [.Name x pos'] e pos :: rest) ρ Ω Ψ R := fun G0 H0 n0 c0 N σ H n om pr po hn D q1 q2 => by
  refine WSs.of (pss_cons (ps_set hX.nd hi hx (we e) hs hf) (wss rest)) ?_
  refine h G0 H0 n0 c0 N σ H n om pr po (by have := po.le; omega) _ fun v d N1 H1 n1 e1 o1 r1 => ?_
  have p1 := pr.next o1
  exact kk d e1 G0 H0 n0 (c0 + c1) N1 _ H1 n1 (st _ _ _ _ _ om o1.gr) ⟨p1.env.set i r1, p1.ex, p1.tin⟩ (po.trans o1) (by omega) D (fun ρ' N' σ' H' n' s pr po => q1 ρ' N' σ' H' n' s pr (po.weak (by omega))) (fun v d N' H' n' hr r po => q2 v d N' H' n' hr r (po.weak (by omega)))
theorem rx_ifO {Pt : Bool → Prop} {Ω1 : List Sl → Om} (st : Stb T Ω) (h : EtO X T c1 t ρ Ω Pt) (h1 : Pt true → RX X T c2 body ρ Ω Ω1 R) (h2 : Pt false → RX X T c2 orelse ρ Ω Ω1 R) (kk : ∀ ρ', RX X T c3 rest ρ' (Ω1 ρ') Ψ R) (hc : c1 + c2 + c3 ≤ c := by omega) : RX X T c (.If t body orelse pos :: rest) ρ Ω Ψ R := fun G0 H0 n0 c0 N σ H n om pr po hn D q1 q2 => by
  refine WSs.of (pss_cons (ps_if (wt t) (wss body) (wss orelse)) (wss rest)) ?_
  refine h G0 H0 n0 c0 N σ H n om pr po (by have := po.le; omega) _ fun b N1 H1 n1 e1 o1 => ?_
  have p1 := pr.next o1
  have fin : ∀ {ss : List Stmt}, RX X T c2 ss ρ Ω Ω1 R → WSs X ss { D with nx := WSs X rest D } σ H1 := fun {ss} hr =>
    hr G0 H0 n0 (c0 + c1) N1 σ H1 n1 (st _ _ _ _ _ om o1.gr) p1 (po.trans o1) (by omega) _ (fun ρ' N2 σ' H2 n2 hp pr2 po2 => kk ρ' G0 H0 n0 (c0 + c1 + c2) N2 σ' H2 n2 hp pr2 po2 (by omega) D
        (fun ρ3 N3 σ3 H3 n3 hp3 pr3 o3 => q1 ρ3 N3 σ3 H3 n3 hp3 pr3 (o3.weak (by omega))) (fun v d N3 H3 n3 hr3 r3 o3 => q2 v d N3 H3 n3 hr3 r3 (o3.weak (by omega))))
      (fun v d N2 H2 n2 hr2 r2 o2 => q2 v d N2 H2 n2 hr2 r2 (o2.weak (by omega)))
  cases b with
  | true => exact iteT (fin (h1 e1))
  | false => exact iteF (fin (h2 e1))
theorem rx_retO (h : EvO X T c e ρ Ω R) : RX X T c (.Return (some e) pos :: rest) ρ Ω Ψ R := fun G0 H0 n0 c0 N σ H n om pr po hn D q1 q2 => by
  refine WSs.of (pss_cons (ps_ret (we e)) pss_never) ?_
  exact h G0 H0 n0 c0 N σ H n om pr po (by have := po.le; omega) _ fun v d N1 H1 n1 e1 o1 r1 => q2 v d N1 H1 n1 e1 r1 (po.trans o1)
/-- a write to a list that is owned: whatever else is held stays -/
theorem own_write {p : Addr} {vs' : List V} {G0 H0 N H : Hp} {σ : Sg} {n n0 c0 : Nat} (hF : Fre T H0 N H p) (pr : Pre T N σ ρ H n) (po : Po T G0 H0 n0 c0 N H n) : Pre T N σ ρ (upd H p (.lst vs')) n ∧ Po T G0 H0 n0 c0 N (upd H p (.lst vs')) n := by
  obtain ⟨tp, hp0, np, _, _⟩ := hF
  have ex : Ex N (upd H p (.lst vs')) := pr.ex.mut np
  have tin : TinOk T N (upd H p (.lst vs')) n := fun a ha => by
    obtain ⟨z1, x, y, w, z2, z3⟩ := pr.tin a ha
    have : a ≠ p := fun q => tp (by rw [ha, q])
    exact ⟨z1, x, y, w, by rw [upd_ne this]; exact z2, z3⟩
  refine ⟨⟨pr.env, ex, tin⟩, ⟨⟨po.gr.gn, po.gr.fr, ex, fun a o t z => ?_, fun a o z => ?_⟩, tin, po.le⟩⟩
  · rw [upd_ne (ne_of_none z hp0)]; exact po.gr.hh a o t z
  · obtain ⟨o', e'⟩ := po.gr.ht a o z
    exact ⟨o', by rw [upd_ne (ne_of_none z hp0)]; exact e'⟩
/-- x.append(e), x at p held: vs its values -/
theorem rx_appendO {p : Addr} {i : Nat} {x : Str} {np apos cpos spos : Pos} {vs : List V} (hi : X.N[i]? = some x) (hρ : ρ[i]? = some (.raw (.ref p))) (st : Stb T Ω) (hΩ : ∀ H0 N H, Ω H0 N H → Fre T H0 N H p ∧ H p = some (.lst vs)) (hlen : vs.length < 100000) (h : EvO X T c1 e ρ Ω P)
    (kk : ∀ d v, P d → RX X T c2 rest ρ (fun H0 N H => ∃ H1, H = upd H1 p (.lst (vs ++ [v])) ∧ Ω H0 N H1 ∧ Rp N v d) Ψ R) (hc : c1 + c2 ≤ c := by omega)
    (hv : Vis X.env.scope x := by first | exact Or.inl rfl | exact Or.inr (Or.inl rfl) | exact Or.inr (Or.inr rfl)) (hd : (x == ("__debug__" : Str)) = false := by decide) (hcd : (x == ("__classdict__" : Str)) = false := by decide)
    (hbase : attributeBase (.Name x np) "append" X.env (eval (.Name x np) X.env) = eval (.Name x np) X.env := by rfl)
    (hfew : ((backTo cpos (starEach [e] X.env)).all (fun x => !x.1) && (backToKw cpos (keywordEach [] X.env)).all (fun x => x.1.isSome) && decide ([e].length + ([] : List Keyword).length + (if ([] : List Keyword).isEmpty then 0 else 1) < 30)) = true := by rfl)
    (hline : (apos.endLine == cpos.line) = true := by rfl) (hs : starEach [e] X.env = (false, eval e X.env) :: starEach [] X.env := by exact se_cons rfl) (hplain : (backTo cpos (starEach [] X.env)).any (·.1) = false := by rfl)
    (hsw : swapsWith (.Call (.Attribute (.Name x np) "append" apos) [e] [] cpos) none spos.line X.env = pure false := by rfl) :
    RX X T c (.Expr (.Call (.Attribute (.Name x np) "append" apos) [e] [] cpos) spos :: rest) ρ Ω Ψ R := fun G0 H0 n0 c0 N σ H n om pr po hn D q1 q2 => by
  obtain ⟨hF, hH⟩ := hΩ _ _ _ om
  refine WSs.of (pss_cons (ps_expr (pe_bm PySem.F.plainAttrs_list PySem.F.slot_list_append PySem.F.type_list_append mt_append (pe_var hi hv hd hcd) (pa_cons (we e) pa_nil hs) hbase hfew hline hs hplain) hsw) (wss rest)) ?_
  refine ⟨.ref p, pr.env.rawAt hρ, .inl ⟨rfl, _, SqL.of hH⟩, ?_⟩
  refine h G0 H0 n0 c0 N σ H n om pr po (by have := po.le; omega) _ fun v d N1 H1 n1 e1 o1 r1 => ?_
  have om1 : Ω H0 N1 H1 := st _ _ _ _ _ om o1.gr
  obtain ⟨hF1, hH1⟩ := hΩ _ _ _ om1
  refine ⟨p, vs, v, rfl, rfl, hH1, by rw [sizeLine_eq]; omega, ?_⟩
  obtain ⟨pr2, po2⟩ := own_write (vs' := vs ++ [v]) hF1 (pr.next o1) (po.trans o1)
  exact kk d v e1 G0 H0 n0 (c0 + c1) N1 σ _ n1 ⟨H1, rfl, om1, r1⟩ pr2 po2 (by omega) D (fun ρ' N' σ' H' n' s pr po => q1 ρ' N' σ' H' n' s pr (po.weak (by omega))) (fun v d N' H' n' hr r po => q2 v d N' H' n' hr r (po.weak (by omega)))
/-- x[j] = e, x at p held -/
theorem rx_setO {p : Addr} {i : Nat} {x : Str} {np : Pos} {vs : List V} {ix : Expr} {j : Nat} (hi : X.N[i]? = some x) (hρ : ρ[i]? = some (.raw (.ref p))) (st : Stb T Ω) (hΩ : ∀ H0 N H, Ω H0 N H → Fre T H0 N H p ∧ H p = some (.lst vs)) (hj : j < vs.length) (h : EvO X T c1 e ρ Ω P) (hix : E X ix ρ (.int (j : Int)))
    (kk : ∀ d v, P d → RX X T c2 rest ρ (fun H0 N H => ∃ H1, H = upd H1 p (.lst (vs.set j v)) ∧ Ω H0 N H1 ∧ Rp N v d) Ψ R) (hc : c1 + c2 ≤ c := by omega)
    (hv : Vis X.env.scope x := by first | exact Or.inl rfl | exact Or.inr (Or.inl rfl) | exact Or.inr (Or.inr rfl)) (hd : (x == ("__debug__" : Str)) = false := by decide) (hcd : (x == ("__classdict__" : Str)) = false := by decide)
    (ha : ∀ v, assign (.Subscript (.Name x np) ix pos') X.env v = (do
      let ov ← holding [v] (eval (.Name x np) X.env)
      let iv ← holding [v, ov] (eval ix X.env)
      standAt pos'
      holding [v, ov, iv] (setItem ov iv v)
      release [v, ov, iv] []) := by intro _; rfl)
    (hs : swapsWithSole [.Subscript (.Name x np) ix pos'] e pos.line X.env = pure false := by rfl) (hw : swappedStores [.Subscript (.Name x np) ix pos'] e X.env = pure none := by rfl)
    (h1 : (assignEach [.Subscript (.Name x np) ix pos'] X.env).map (·.2) = [assign (.Subscript (.Name x np) ix pos') X.env] := by rfl) :
    RX X T c (.Assign [.Subscript (.Name x np) ix pos'] e pos :: rest) ρ Ω Ψ R := fun G0 H0 n0 c0 N σ H n om pr po hn D q1 q2 => by
  refine WSs.of (pss_cons (ps_asg (we e) (pg_sub (pe_var hi hv hd hcd) (we ix) set_list ha) hs hw h1) (wss rest)) ?_
  refine h G0 H0 n0 c0 N σ H n om pr po (by have := po.le; omega) _ fun v d N1 H1 n1 e1 o1 r1 => ?_
  have p1 := pr.next o1
  have om1 : Ω H0 N1 H1 := st _ _ _ _ _ om o1.gr
  refine ⟨.ref p, p1.env.rawAt hρ, ?_⟩
  refine hix.lift (T := T) (c := 0) N1 σ H1 n1 p1 (by have := po.le; have := o1.le; omega) _ fun vj dj N2 H2 n2 e2 o2 r2 => ?_
  subst e2
  cases r2
  have om2 : Ω H0 N2 H2 := st _ _ _ _ _ om1 o2.gr
  obtain ⟨hF2, hH2⟩ := hΩ _ _ _ om2
  refine ⟨p, vs, (j : Int), j, rfl, rfl, hH2, ?_, ?_⟩
  · unfold ixN
    rw [if_pos (by omega), if_pos (by omega)]
    congr 1
  · obtain ⟨pr2, po2⟩ := own_write (vs' := vs.set j v) hF2 (p1.next o2) ((po.trans o1).trans o2)
    exact kk d v e1 G0 H0 n0 (c0 + c1 + 0) N2 σ _ n2 ⟨H2, rfl, om2, r1.mono o2.gr.gn⟩ pr2 po2 (by omega) D (fun ρ' N' σ' H' n' s pr po => q1 ρ' N' σ' H' n' s pr (po.weak (by omega))) (fun v d N' H' n' hr r po => q2 v d N' H' n' hr r (po.weak (by omega)))
end
end Pn

set_option Elab.async false
set_option linter.all false
set_option maxRecDepth 100000
set_option maxHeartbeats 1000000
/-! PnM: parallel stores, loops, rows of one's own. -/
namespace Pn
open PySem PySem.Spec PyProof.Rows L2

/-! ### an expression into a slot -/
def EsO (X : Cx) (T : Option Addr) (c : Nat) (e : Expr) (ρ : List Sl) (Ω : Om) (W : Sl → Om) : Prop := ∀ G0 H0 n0 c0 N σ H n, Ω H0 N H → Pre T N σ ρ H n → Po T G0 H0 n0 c0 N H n → n + c ≤ LIM → ∀ Q : VK, (∀ v s N' H' n', W s H0 N' H' → SlOk T N' (some v) s → Ex N N' → Pre T N' σ ρ H' n' → Po T G0 H0 n0 (c0 + c) N' H' n' → n' ≤ n + c → Q v H') → WE X e σ H Q
section
variable {X : Cx} {T : Option Addr} {c c1 c2 c3 k : Nat} {a b e t tg iter : Expr} {ss rest body orelse : List Stmt} {ρ ρ' : List Sl} {Ω Ω' : Om} {Ψ : List Sl → Om} {R P : PyData → Prop} {S : List Addr} {pos pos' : Pos}
theorem eso_ev (st : Stb T Ω) (h : EvO X T c e ρ Ω P) : EsO X T c e ρ Ω (fun s H0 N H => (∃ d, s = .dat d ∧ P d) ∧ Ω H0 N H) := fun G0 H0 n0 c0 N σ H n om pr po hn Q q =>
  h G0 H0 n0 c0 N σ H n om pr po hn Q fun v d N' H' n' hd o r => q v (.dat d) N' H' n' ⟨⟨d, rfl, hd⟩, st _ _ _ _ _ om o.gr⟩ ⟨v, rfl, r⟩ o.gr.gn (pr.next o) (po.trans o) o.le
theorem eso_new {Pd : List PyData → Prop} (st : Stb T Ω) (h : Enew X T c e ρ Pd) : EsO X T c e ρ Ω (fun s H0 N H => (∃ p ds, s = .raw (.ref p) ∧ Pd ds ∧ Own T p ds H0 N H) ∧ Ω H0 N H) := fun G0 H0 n0 c0 N σ H n om pr po hn Q q =>
  h N σ H n pr hn Q fun p vs ds N' H' n' hd o hp np tp hH r => by
    have hp0 : H0 p = none := by
      cases z : H0 p with
      | none => rfl
      | some o =>
        obtain ⟨o', e'⟩ := po.gr.ht p o z
        rw [hp] at e'
        cases e'
    exact q (.ref p) (.raw (.ref p)) N' H' n' ⟨⟨p, ds, rfl, hd, tp, hp0, np, vs, hH, r⟩, st _ _ _ _ _ om o.gr⟩ rfl o.gr.gn (pr.next o) (po.trans o) o.le
theorem eso_newS {Pd : List PyData → Prop} (S : List Addr) (hS : ∀ H0 N H, Ω H0 N H → ∀ a ∈ S, ∃ o, H a = some o) (st : Stb T Ω) (h : Enew X T c e ρ Pd) : EsO X T c e ρ Ω (fun s H0 N H => ∃ p ds, (s = .raw (.ref p) ∧ Pd ds ∧ p ∉ S) ∧ Own T p ds H0 N H ∧ Ω H0 N H) := fun G0 H0 n0 c0 N σ H n om pr po hn Q q =>
  h N σ H n pr hn Q fun p vs ds N' H' n' hd o hp np tp hH r => by
    have hp0 : H0 p = none := by
      cases z : H0 p with
      | none => rfl
      | some o =>
        obtain ⟨o', e'⟩ := po.gr.ht p o z
        rw [hp] at e'
        cases e'
    refine q (.ref p) (.raw (.ref p)) N' H' n' ⟨p, ds, ⟨rfl, hd, fun z => ?_⟩, ⟨tp, hp0, np, vs, hH, r⟩, st _ _ _ _ _ om o.gr⟩ rfl o.gr.gn (pr.next o) (po.trans o) o.le
    obtain ⟨o', e'⟩ := hS _ _ _ om p z
    rw [hp] at e'
    cases e'
theorem enew_fin {G H N H1 : Hp} {n n1 : Nat} {vs : List V} {ds : List PyData} {Pd : List PyData → Prop} {l : Addr} {Q : VK} (o1 : Po T G H n c N H1 n1) (hl : H1 l = none) (r : RpA N vs ds) (hd : Pd ds) (q : ∀ p vs ds N H' n', Pd ds → Po T G H n c N H' n' → H p = none → N p = none → T ≠ some p → H' p = some (.lst vs) → RpA N vs ds → Q (.ref p) H') : Q (.ref l) (upd H1 l (.lst vs)) := by
  have hl0 : H l = none := by
    cases z : H l with
    | none => rfl
    | some o =>
      obtain ⟨o', e'⟩ := o1.gr.ht l o z
      rw [hl] at e'
      cases e'
  have hN : N l = none := o1.gr.nh.back hl
  have g : Gr T N H1 N (upd H1 l (.lst vs)) := ⟨Ex.refl N, fun _ _ z => .inl z, o1.gr.nh.mut hN, fun b o _ z => Ex.new hl b o z, fun b o z => ⟨o, Ex.new hl b o z⟩⟩
  refine q l vs ds N _ n1 hd ⟨o1.gr.trans g, fun b hb => ?_, o1.le⟩ hl0 hN (o1.tin.ne hl) upd_same r
  obtain ⟨z1, x, y, w, z2, z3⟩ := o1.tin b hb
  exact ⟨z1, x, y, w, Ex.new hl b _ z2, z3⟩
/-- list(..) of a list -/
theorem enew_list {ds : List PyData} {p2 pos2 : Pos} (hX : Good X k) (h : E X e ρ (.list ds)) (hg : Gl X "list" := by rfl) (hs : starEach [e] X.env = (false, eval e X.env) :: starEach [] X.env := by exact se_cons rfl) (hpl : (backTo pos2 (starEach [] X.env)).any (·.1) = false := by rfl) : Enew X T c (.Call (.Name "list" p2) [e] [] pos2) ρ (fun z => z = ds) := fun G σ H n pr hn Q q => by
  refine WE.of (pe_callTy (wc _) hg hX.bt.list PyProof.Rows.boot_list (wa [e]) (by decide) (by decide) hs hpl) ?_
  refine (Ea.lift (T := T) (c := c) (a_cons h a_nil hs)) G σ H n pr hn _ fun vs ds N H1 n1 e1 o1 r1 => ?_
  subst e1
  obtain ⟨v, rfl, rv⟩ := rpa1 r1
  cases rv with
  | lst ha hr => exact WC.of call_list_of ⟨_, _, rfl, .inl (SqL.of (o1.gr.nh _ _ ha)), fun l hl => enew_fin (Pd := fun z => z = _) o1 hl hr rfl q⟩
theorem enew_listT {ds : List PyData} {p2 pos2 : Pos} (hX : Good X k) (h : E X e ρ (.tuple ds)) (hg : Gl X "list" := by rfl) (hs : starEach [e] X.env = (false, eval e X.env) :: starEach [] X.env := by exact se_cons rfl) (hpl : (backTo pos2 (starEach [] X.env)).any (·.1) = false := by rfl) : Enew X T c (.Call (.Name "list" p2) [e] [] pos2) ρ (fun z => z = ds) := fun G σ H n pr hn Q q => by
  refine WE.of (pe_callTy (wc _) hg hX.bt.list PyProof.Rows.boot_list (wa [e]) (by decide) (by decide) hs hpl) ?_
  refine (Ea.lift (T := T) (c := c) (a_cons h a_nil hs)) G σ H n pr hn _ fun vs ds N H1 n1 e1 o1 r1 => ?_
  subst e1
  obtain ⟨v, rfl, rv⟩ := rpa1 r1
  cases rv with
  | tup ha hr => exact WC.of call_list_of ⟨_, _, rfl, .inr (SqT.of (o1.gr.nh _ _ ha)), fun l hl => enew_fin (Pd := fun z => z = _) o1 hl hr rfl q⟩
theorem rx_asgS {i : Nat} {x : Str} {W : Sl → Om} (hX : Good X k) (hi : X.N[i]? = some x) (h : EsO X T c1 e ρ Ω W) (kk : ∀ s, RX X T c2 rest (ρ.set i s) (W s) Ψ R) (hc : c1 + c2 ≤ c := by omega)
    (hx : Loc X.env.scope x := by first | exact .inl rfl | exact .inr rfl) (hs : swapsWith e (some (.Name x pos')) pos.line X.env = pure false := by rfl) (hf : X.fn x = true ∨ X.env.scope.names.lookup x = some .local := by first | exact .inl rfl | exact .inr rfl) :
    RX X T c (.Assign [.Name x pos'] e pos :: rest) ρ Ω Ψ R := fun G0 H0 n0 c0 N σ H n om pr po hn D q1 q2 => by
  refine WSs.of (pss_cons (ps_set hX.nd hi hx (we e) hs hf) (wss rest)) ?_
  refine h G0 H0 n0 c0 N σ H n om pr po (by have := po.le; omega) _ fun v s N1 H1 n1 w so ex p1 o1 le1 => ?_
  exact kk s G0 H0 n0 (c0 + c1) N1 _ H1 n1 w ⟨p1.env.put i so, p1.ex, p1.tin⟩ o1 (by omega) D (fun ρ' N' σ' H' n' s pr po => q1 ρ' N' σ' H' n' s pr (po.weak (by omega))) (fun v d N' H' n' hr r po => q2 v d N' H' n' hr r (po.weak (by omega)))
theorem rx_parS {i j : Nat} {x y : Str} {px py pt pt2 : Pos} {kt k2 : Nat} {W1 : Sl → Om} {W2 : Sl → Sl → Om} (hX : Good X k) (hi : X.N[i]? = some x) (hj : X.N[j]? = some y) (ha : EsO X T c1 a ρ Ω W1) (hb : ∀ s, EsO X T c2 b ρ (W1 s) (W2 s)) (kk : ∀ s u, RX X T c3 rest ((ρ.set i s).set j u) (W2 s u) Ψ R) (hc : c1 + c2 + c3 ≤ c := by omega)
    (hij : i ≠ j := by decide) (hx : X.env.scope.names.lookup x = some .local := by rfl) (hy : X.env.scope.names.lookup y = some .local := by rfl) (hw : swappedStores [.Tuple [.Name x px, .Name y py] kt pt] (.Tuple [a, b] k2 pt2) X.env = pure (some [x, y]) := by rfl)
    (hs : swapsWithSole [.Tuple [.Name x px, .Name y py] kt pt] (.Tuple [a, b] k2 pt2) pos.line X.env = pure false := by rfl) (h1 : starEach [a, b] X.env = (false, eval a X.env) :: starEach [b] X.env := by exact se_cons rfl) (h2 : starEach [b] X.env = (false, eval b X.env) :: starEach [] X.env := by exact se_cons rfl) :
    RX X T c (.Assign [.Tuple [.Name x px, .Name y py] kt pt] (.Tuple [a, b] k2 pt2) pos :: rest) ρ Ω Ψ R := fun G0 H0 n0 c0 N σ H n om pr po hn D q1 q2 => by
  refine WSs.of (pss_cons (ps_par hX.calm hX.nd hi hj hij hx hy (pa_cons (we a) (pa_cons (we b) pa_nil h2) h1) hw hs) (wss rest)) ?_
  refine ha G0 H0 n0 c0 N σ H n om pr po (by have := po.le; omega) _ fun v s N1 H1 n1 w1 so1 ex1 p1 o1 le1 => ?_
  refine hb s G0 H0 n0 (c0 + c1) N1 σ H1 n1 w1 p1 o1 (by have := o1.le; omega) _ fun u s2 N2 H2 n2 w2 so2 ex2 p2 o2 le2 => ?_
  exact ⟨v, u, rfl, kk s s2 G0 H0 n0 (c0 + c1 + c2) N2 _ H2 n2 w2 ⟨(p2.env.put i (so1.mono ex2)).put j so2, p2.ex, p2.tin⟩ o2 (by omega) D (fun ρ' N' σ' H' n' s pr po => q1 ρ' N' σ' H' n' s pr (po.weak (by omega))) (fun v d N' H' n' hr r po => q2 v d N' H' n' hr r (po.weak (by omega)))⟩
/-- for under what is held -/
theorem rx_forO {α : Type} {g : TG} {Pd : List PyData → Prop} (hX : Good X k) (hp : PassesOwn (model X.prog X.w) X.A X.env X.xe) (hg : PG X tg g) (st : Stb T Ω) (hi : EiO X tg T c1 iter ρ Ω Pd) (m : Nat)
    (kk : ∀ ds, Pd ds → ∃ (enc : α → PyData) (xs : List α) (js : List Nat) (put : α → List Sl → List Sl) (I : Nat → List Sl → Om), ds = xs.map enc ∧ xs.length ≤ m ∧ (∀ a ∈ xs, GOk g js (enc a) (put a)) ∧ (∀ i ρ', Stb T (I i ρ')) ∧ (∀ H0 N H, Ω H0 N H → I 0 ρ H0 N H) ∧
      (∀ i a ρ', xs[i]? = some a → RX X T c2 body (put a ρ') (I i ρ') (I (i + 1)) R) ∧ ∀ ρ', RX X T c3 rest ρ' (I xs.length ρ') Ψ R) (hc : c1 + m * c2 + c3 ≤ c)
    (hs : ∀ x, foldedSetIterable iter X.env x = pure x := by intro _; rfl) : RX X T c (.For tg iter body [] pos :: rest) ρ Ω Ψ R := fun G0 H0 n0 c0 N σ H n om pr0 po0 hn D q1 q2 => by
  refine WSs.of (pss_cons (ps_for hp hX.calm (wi tg iter) hg (wss body) hs) (wss rest)) ?_
  refine hi G0 H0 n0 c0 N σ H n om pr0 po0 (by have := po0.le; omega) _ fun ds J N1 H1 n1 e1 o1 wk => ?_
  obtain ⟨enc, xs, js, put, I, rfl, hm, hgk, hst, h0, hb, hd⟩ := kk ds e1
  refine ⟨fun i m σ' Hc => m = xs.length - i ∧ i ≤ xs.length ∧ ∃ ρ' M n', I i ρ' H0 M Hc ∧ Pre T M σ' ρ' Hc n' ∧ Po T G0 H0 n0 (c0 + (c1 + i * c2)) M Hc n' ∧ Ex N1 M, ⟨xs.length, rfl, Nat.zero_le _, ρ, N1, n1, h0 _ _ _ (st _ _ _ _ _ om o1.gr), pr0.next o1, (po0.trans o1).weak (by omega), Ex.refl N1⟩, ?_⟩
  rintro i _ σ' Hc ⟨rfl, hi', ρ', M, n', hI, pr, po, ex⟩
  by_cases hlt : i < xs.length
  · have hmul : (i + 1) * c2 ≤ m * c2 := Nat.mul_le_mul_right _ (by omega)
    have hs1 : (i + 1) * c2 = i * c2 + c2 := Nat.succ_mul _ _
    refine .inr ⟨wk.go Hc (ex.trans pr.ex) i (by rw [List.length_map]; exact hlt), fun σ2 H2 => i + 1 ≤ xs.length ∧ ∃ ρ' M n', I (i + 1) ρ' H0 M H2 ∧ Pre T M σ2 ρ' H2 n' ∧ Po T G0 H0 n0 (c0 + (c1 + (i + 1) * c2)) M H2 n' ∧ Ex N1 M, fun σ2 H2 h' => ⟨xs.length - (i + 1), by omega, rfl, h'⟩, fun x H' y => ?_⟩
    have hxi : xs[i]? = some xs[i] := List.getElem?_eq_getElem hlt
    obtain ⟨N', gy, ry⟩ := wk.yld Hc (ex.trans pr.ex) i (enc xs[i]) x H' (by rw [List.getElem?_map, hxi]; rfl) y
    obtain ⟨M2, gm, em⟩ := gy.more ex pr.ex (fun _ z => nomatch z)
    have po2 : Po T M Hc n' 0 M2 H' n' := Po.pure pr.tin gm
    have pr2 := pr.next po2
    refine hgk xs[i] (List.getElem_mem hlt) T M2 σ' ρ' H' x pr2.env pr2.ex (ry.mono em) _ fun σ3 env3 _ => ?_
    have po3 : Po T G0 H0 n0 (c0 + (c1 + i * c2)) M2 H' n' := (po.trans po2).weak (by omega)
    refine hb i xs[i] ρ' hxi M2 H0 n0 (c0 + (c1 + i * c2)) M2 σ3 H' n' (hst i ρ' _ _ _ _ _ hI gm.lift) ⟨env3, pr2.ex, pr2.tin⟩ ⟨po3.gr.rebase, po3.tin, po3.le⟩ (by omega) _ (fun ρ4 N4 σ4 H4 n4 hp4 pr4 o4 => ?_) (fun v d N4 H4 n4 hr4 r4 o4 => ?_)
    · exact ⟨hlt, ρ4, N4, n4, hp4, pr4, ⟨po3.gr.comb o4.gr, o4.tin, by have := o4.le; omega⟩, (ex.trans gm.gn).trans o4.gr.gn⟩
    · exact q2 v d N4 H4 n4 hr4 r4 ⟨po3.gr.comb o4.gr, o4.tin, by have := o4.le; omega⟩
  · have ei : i = xs.length := by omega
    subst ei
    have hmul : xs.length * c2 ≤ m * c2 := Nat.mul_le_mul_right _ hm
    refine .inl ⟨by have := wk.stop Hc (ex.trans pr.ex); rw [List.length_map] at this; exact this, ?_⟩
    exact hd ρ' G0 H0 n0 (c0 + (c1 + xs.length * c2)) M σ' Hc n' hI pr po (by omega) D (fun ρ4 N4 σ4 H4 n4 hp4 pr4 o4 => q1 ρ4 N4 σ4 H4 n4 hp4 pr4 (o4.weak (by omega))) (fun v d N4 H4 n4 hr4 r4 o4 => q2 v d N4 H4 n4 hr4 r4 (o4.weak (by omega)))
/-- range(e), e read under what is held -/
theorem eio_range {p : Pos} {Pi : Int → Prop} (hX : Good X k) (hg : Gl X "range") (h : EvO X T c e ρ Ω (fun z => ∃ n, z = .int n ∧ Pi n)) (hb : ∀ n, Pi n → -100000 ≤ n ∧ n ≤ 100000) (hs : starEach [e] X.env = [(false, eval e X.env)] := by rfl) (hs1 : starEach [e] X.env = (false, eval e X.env) :: starEach [] X.env := by exact se_cons rfl) :
    EiO X tg T c (.Call (.Name "range" p) [e] [] pos) ρ Ω (fun z => ∃ n, Pi n ∧ z = rangeD 0 n.toNat) := fun G0 H0 n0 c0 N σ H n om pr po hn R q => by
  refine WI.of (pi_range1 hg hX.bt.range (pa_cons (we e) pa_nil hs1) hs) ?_
  refine h G0 H0 n0 c0 N σ H n om pr po hn _ fun v d N' H' n' hd o r => ?_
  obtain ⟨m, rfl, hm⟩ := hd
  cases r
  obtain ⟨b1, b2⟩ := hb m hm
  exact ⟨m, rfl, by omega, by omega, q _ _ N' H' n' ⟨m, hm, rfl⟩ o walks_range⟩
end
/-! ### the call of take -/
section
variable {X : Cx} {a : Addr} {c k j : Nat} {e : Expr} {ρ : List Sl} {p tpos pos : Pos} {ps : List Str}
theorem ev_take {b : Int} (D : Dn X.prog X.w X.K X.mg X.base 1 "_law_take" p_take (spT 1 F_take)) (hX : Good X k) (hj : 1 ≤ k) (h : E X e ρ (.int b)) (h1 : 1 ≤ b) (h2 : b ≤ 100000) (ht : ρ[0]? = some .tin := by rfl) (hN : X.N[0]? = some ("_law_tin" : Str) := by rfl) (hg : Gl X "_law_take" := by rfl) (hv : Vis X.env.scope "_law_tin" := by first | exact Or.inl rfl | exact Or.inr (Or.inl rfl) | exact Or.inr (Or.inr rfl))
    (he : starEach (.Name "_law_tin" tpos :: [e]) X.env = (false, eval (.Name "_law_tin" tpos) X.env) :: starEach [e] X.env := by exact se_cons rfl) (he2 : starEach [e] X.env = (false, eval e X.env) :: starEach [] X.env := by exact se_cons rfl) (hpl : (backTo pos (starEach [e] X.env)).any (·.1) = false := by rfl) :
    Ev X (some a) 1 (.Call (.Name "_law_take" p) (.Name "_law_tin" tpos :: [e]) [] pos) ρ (fun d => ∃ i : Int, d = .int i ∧ 0 ≤ i ∧ i < b) :=
  ev_callT (c1 := 0) D hX hj hg hN hv ht rfl (Ea.lift (a_cons h a_nil he2)) (fun ds e1 => by rw [e1]; exact ⟨b, rfl, h1, h2, rfl⟩) (by omega) (by decide) (by decide) (by decide) he hpl
end
/-! ### of -/
def F_of : List PyData → (PyData → Prop) → Prop := fun ds R => ∃ gs : List PyData, ds = [.list gs] ∧ gs ≠ [] ∧ gs.length ≤ 100000 ∧ R = fun d => d ∈ gs
section
variable {P : Program} {w : World} {K : PySem.W.Frag} {mg : Str → Option Value} {base : Heap} {f : Addr} {fd : FuncData}
theorem dn_of (hB : Bt mg) (D : Dn P w K mg base 1 "_law_take" p_take (spT 1 F_take)) (hf : FnP K "_law_of" s_of f fd) (hm : mg "_law_of" = some (.ref f)) : Dn P w K mg base 2 "_law_of" p_of (spT 1 F_of) := by
  refine dn_draw hf hm hB sc_of (hf.bindsN fun _ _ _ _ _ _ us hl => match us, hl with | [_, _], _ => rfl) (fun ds R h => ?_) (fun cdv A0 outer s H X0 gd a ds R h => ?_)
  · obtain ⟨gs, rfl, _⟩ := h
    rfl
  · obtain ⟨gs, rfl, hne, hl, rfl⟩ := h
    have hpos := List.length_pos_iff.mpr hne
    refine run_ret (ev_ix (c1 := 0) (c2 := 1) (P1 := fun z => z = .list gs) (P2 := fun _ z => ∃ i : Int, z = .int i ∧ 0 ≤ i ∧ i < gs.length) (Ev.lift (nm 1)) (fun _ _ => ev_take D gd (Nat.le_refl _) (e_lenL gd (nm 1)) (by omega) (by omega)) (fun d1 d2 e1 e2 => ?_))
    obtain ⟨i, rfl, h1, h2⟩ := e2
    subst e1
    refine ⟨gs.getD i.toNat .none, ?_, bx_list (atI_in .none h1 h2)⟩
    rw [List.getD_eq_getElem?_getD, List.getElem?_eq_getElem (show i.toNat < gs.length by omega)]
    exact List.getElem_mem _
end
end Pn

set_option Elab.async false
set_option linter.all false
set_option maxRecDepth 100000
set_option maxHeartbeats 1000000
/-! PnN: a line drawn; a pick. -/
namespace Pn
open PySem PySem.Spec PyProof.Rows L2

section
variable {X : Cx} {T : Option Addr} {c k : Nat} {ss : List Stmt} {ρ : List Sl} {Ψ : List Sl → Om} {R : PyData → Prop}
theorem rx_ex {α : Type} {Ωf : α → Om} (h : ∀ x, RX X T c ss ρ (Ωf x) Ψ R) : RX X T c ss ρ (fun H0 N H => ∃ x, Ωf x H0 N H) Ψ R := fun G0 H0 n0 c0 N σ H n ⟨x, om⟩ pr po hn D q1 q2 => h x G0 H0 n0 c0 N σ H n om pr po hn D q1 q2
theorem rx_and {φ : Prop} {Ω : Om} (h : φ → RX X T c ss ρ Ω Ψ R) : RX X T c ss ρ (fun H0 N H => φ ∧ Ω H0 N H) Ψ R := fun G0 H0 n0 c0 N σ H n ⟨x, om⟩ pr po hn D q1 q2 => h x G0 H0 n0 c0 N σ H n om pr po hn D q1 q2
theorem Stb.ex {α : Type} {Ωf : α → Om} (h : ∀ x, Stb T (Ωf x)) : Stb T (fun H0 N H => ∃ x, Ωf x H0 N H) := fun H0 N H N' H' ⟨x, om⟩ g => ⟨x, h x _ _ _ _ _ om g⟩
theorem RX.weak {c' : Nat} {Ω : Om} (h : RX X T c ss ρ Ω Ψ R) (hc : c ≤ c') : RX X T c' ss ρ Ω Ψ R := fun G0 H0 n0 c0 N σ H n om pr po hn D q1 q2 => h G0 H0 n0 c0 N σ H n om pr po (by omega) D (fun ρ' N' σ' H' n' s pr po => q1 ρ' N' σ' H' n' s pr (po.weak (by omega))) (fun v d N' H' n' hr r po => q2 v d N' H' n' hr r (po.weak (by omega)))
end
theorem Own.upd_ne {T : Option Addr} {p q : Addr} {fs : List PyData} {H0 N H : Hp} {o : HO} (h : Own T q fs H0 N H) (hne : q ≠ p) : Own T q fs H0 N (upd H p o) := by
  obtain ⟨h1, h2, h3, vs, h4, h5⟩ := h
  exact ⟨h1, h2, h3, vs, by rw [L2.upd_ne hne]; exact h4, h5⟩
section
variable {X : Cx} {T : Option Addr} {c c1 c2 k : Nat} {e : Expr} {ss rest : List Stmt} {ρ : List Sl} {Ω : Om} {Ψ : List Sl → Om} {R : PyData → Prop}
/-- x.pop(e), x at p held -/
theorem eso_pop {p : Addr} {i : Nat} {x : Str} {np apos cpos : Pos} {ds : List PyData} (hi : X.N[i]? = some x) (hρ : ρ[i]? = some (.raw (.ref p))) (st : Stb T Ω) (hΩ : ∀ H0 N H, Ω H0 N H → Own T p ds H0 N H) (hlen : ds.length ≤ 100000) (h : EvO X T c e ρ Ω (fun z => ∃ j : Int, z = .int j ∧ 0 ≤ j ∧ j < ds.length))
    (hv : Vis X.env.scope x := by first | exact Or.inl rfl | exact Or.inr (Or.inl rfl) | exact Or.inr (Or.inr rfl)) (hd : (x == ("__debug__" : Str)) = false := by decide) (hcd : (x == ("__classdict__" : Str)) = false := by decide)
    (hbase : attributeBase (.Name x np) "pop" X.env (eval (.Name x np) X.env) = eval (.Name x np) X.env := by rfl)
    (hfew : ((backTo cpos (starEach [e] X.env)).all (fun x => !x.1) && (backToKw cpos (keywordEach [] X.env)).all (fun x => x.1.isSome) && decide ([e].length + ([] : List Keyword).length + (if ([] : List Keyword).isEmpty then 0 else 1) < 30)) = true := by rfl)
    (hline : (apos.endLine == cpos.line) = true := by rfl) (hs : starEach [e] X.env = (false, eval e X.env) :: starEach [] X.env := by exact se_cons rfl) (hplain : (backTo cpos (starEach [] X.env)).any (·.1) = false := by rfl) :
    EsO X T c (.Call (.Attribute (.Name x np) "pop" apos) [e] [] cpos) ρ Ω (fun s H0 N H => ∃ j : Nat, (j < ds.length ∧ s = .dat (ds.getD j .none)) ∧ Own T p (ds.eraseIdx j) H0 N H ∧ ∃ vs H1, Ω H0 N H1 ∧ H = upd H1 p (.lst vs)) := fun G0 H0 n0 c0 N σ H n om pr po hn Q q => by
  obtain ⟨tp, hp0, np', vs, hH, r⟩ := hΩ _ _ _ om
  refine WE.of (pe_bm PySem.F.plainAttrs_list PySem.F.slot_list_pop PySem.F.type_list_pop mt_popAt (pe_var hi hv hd hcd) (pa_cons (we e) pa_nil hs) hbase hfew hline hs hplain) ?_
  refine ⟨.ref p, pr.env.rawAt hρ, .inl ⟨rfl, _, SqL.of hH⟩, ?_⟩
  refine h G0 H0 n0 c0 N σ H n om pr po hn _ fun v d N1 H1 n1 e1 o1 r1 => ?_
  obtain ⟨j, rfl, hj0, hj1⟩ := e1
  cases r1
  have om1 : Ω H0 N1 H1 := st _ _ _ _ _ om o1.gr
  obtain ⟨tp, hp0, np1, vs1, hH1, rv1⟩ := hΩ _ _ _ om1
  have hlv := rv1.length
  have hjl : j.toNat < ds.length := by omega
  have hg : ds[j.toNat]? = some (ds.getD j.toNat .none) := by rw [List.getD_eq_getElem?_getD, List.getElem?_eq_getElem hjl]; rfl
  obtain ⟨y, hy, ry⟩ := rv1.get hg
  refine ⟨p, vs1, j, j.toNat, y, rfl, rfl, hH1, by omega, by omega, ?_, hy, ?_⟩
  · exact (ixN_seq (n := vs1.length) (i := j) (j := j.toNat) (by unfold ixN; rw [if_pos hj0, if_pos (by omega)])).1
  · obtain ⟨pr2, po2⟩ := own_write (vs' := vs1.eraseIdx j.toNat) ⟨tp, hp0, np1, _, hH1⟩ (pr.next o1) (po.trans o1)
    exact q y (.dat _) N1 _ n1 ⟨j.toNat, ⟨hjl, rfl⟩, ⟨tp, hp0, np1, _, upd_same, rv1.eraseIdx _⟩, _, H1, om1, rfl⟩ ⟨y, rfl, ry⟩ o1.gr.gn pr2 po2 o1.le
/-- x.append(e) where e changes what is held -/
theorem rx_appendS {p : Addr} {i : Nat} {x : Str} {np apos cpos spos : Pos} {W : Sl → Om} (hi : X.N[i]? = some x) (hρ : ρ[i]? = some (.raw (.ref p))) (hΩ : ∀ H0 N H, Ω H0 N H → ∃ vs, H p = some (.lst vs)) (h : EsO X T c1 e ρ Ω W) (hW : ∀ s H0 N H, W s H0 N H → Fre T H0 N H p ∧ ∃ vs, H p = some (.lst vs) ∧ vs.length < 100000)
    (kk : ∀ s, RX X T c2 rest ρ (fun H0 N H => ∃ H1 vs v, H = upd H1 p (.lst (vs ++ [v])) ∧ W s H0 N H1 ∧ H1 p = some (.lst vs) ∧ SlOk T N (some v) s) Ψ R) (hc : c1 + c2 ≤ c := by omega)
    (hv : Vis X.env.scope x := by first | exact Or.inl rfl | exact Or.inr (Or.inl rfl) | exact Or.inr (Or.inr rfl)) (hd : (x == ("__debug__" : Str)) = false := by decide) (hcd : (x == ("__classdict__" : Str)) = false := by decide)
    (hbase : attributeBase (.Name x np) "append" X.env (eval (.Name x np) X.env) = eval (.Name x np) X.env := by rfl)
    (hfew : ((backTo cpos (starEach [e] X.env)).all (fun x => !x.1) && (backToKw cpos (keywordEach [] X.env)).all (fun x => x.1.isSome) && decide ([e].length + ([] : List Keyword).length + (if ([] : List Keyword).isEmpty then 0 else 1) < 30)) = true := by rfl)
    (hline : (apos.endLine == cpos.line) = true := by rfl) (hs : starEach [e] X.env = (false, eval e X.env) :: starEach [] X.env := by exact se_cons rfl) (hplain : (backTo cpos (starEach [] X.env)).any (·.1) = false := by rfl)
    (hsw : swapsWith (.Call (.Attribute (.Name x np) "append" apos) [e] [] cpos) none spos.line X.env = pure false := by rfl) :
    RX X T c (.Expr (.Call (.Attribute (.Name x np) "append" apos) [e] [] cpos) spos :: rest) ρ Ω Ψ R := fun G0 H0 n0 c0 N σ H n om pr po hn D q1 q2 => by
  obtain ⟨vs0, hH⟩ := hΩ _ _ _ om
  refine WSs.of (pss_cons (ps_expr (pe_bm PySem.F.plainAttrs_list PySem.F.slot_list_append PySem.F.type_list_append mt_append (pe_var hi hv hd hcd) (pa_cons (we e) pa_nil hs) hbase hfew hline hs hplain) hsw) (wss rest)) ?_
  refine ⟨.ref p, pr.env.rawAt hρ, .inl ⟨rfl, _, SqL.of hH⟩, ?_⟩
  refine h G0 H0 n0 c0 N σ H n om pr po (by have := po.le; omega) _ fun v s N1 H1 n1 w so ex p1 o1 le1 => ?_
  obtain ⟨hF1, vs, hH1, hl⟩ := hW _ _ _ _ w
  refine ⟨p, vs, v, rfl, rfl, hH1, by rw [sizeLine_eq]; omega, ?_⟩
  obtain ⟨pr2, po2⟩ := own_write (vs' := vs ++ [v]) hF1 p1 o1
  exact kk s G0 H0 n0 (c0 + c1) N1 σ _ n1 ⟨H1, vs, v, rfl, w, hH1, so⟩ pr2 po2 (by omega) D (fun ρ' N' σ' H' n' s pr po => q1 ρ' N' σ' H' n' s pr (po.weak (by omega))) (fun v d N' H' n' hr r po => q2 v d N' H' n' hr r (po.weak (by omega)))
end
theorem erase_map {α β : Type} (f : α → β) : ∀ (xs : List α) (i : Nat), (xs.map f).eraseIdx i = (xs.eraseIdx i).map f
  | [], _ => rfl
  | _ :: _, 0 => rfl
  | x :: xs, i + 1 => congrArg (f x :: ·) (erase_map f xs i)
theorem ns_ne {ns : List Int} {i : Nat} (h : ns.length = i + 1) : ns ≠ [] := fun z => by rw [z] at h; cases h
def F_line : List PyData → (PyData → Prop) → Prop := fun ds R => ∃ S rows L g, ds = [layD S rows, tupI g] ∧ Lay S rows L ∧ Grp rows g ∧ R = fun d => ∃ line : List Int, d = tupI line ∧ line.length = L
section
variable {P : Program} {w : World} {K : PySem.W.Frag} {mg : Str → Option Value} {base : Heap} {f : Addr} {fd : FuncData}
theorem dn_line (hB : Bt mg) (D : Dn P w K mg base 1 "_law_take" p_take (spT 1 F_take)) (D1 : Dn P w K mg base 1 "_law_exact" p_exact (spD F_exact_row)) (hf : FnP K "_law_line" s_line f fd) (hm : mg "_law_line" = some (.ref f)) : Dn P w K mg base 2 "_law_line" p_line (spT 3000 F_line) := by
  refine dn_draw hf hm hB sc_line (hf.bindsN fun _ _ _ _ _ _ us hl => match us, hl with | [_, _, _], _ => rfl) (fun ds R h => ?_) (fun cdv A0 outer s H X0 gd a ds R h => ?_)
  · obtain ⟨S, rows, L, g, rfl, _⟩ := h
    rfl
  · obtain ⟨S, rows, L, g, rfl, hL, hg, rfl⟩ := h
    have hS1 := hL.S1
    have hS2 := hL.S2
    have hL1 := hL.L1
    have hL2 := hL.L2
    refine rx_start (Ω := fun _ _ _ => True) (Ψ := fun _ _ _ _ => False) ?_ (fun _ _ => True.intro) (fun _ _ _ _ h => h.elim)
    refine rx_parS (c1 := 0) (c2 := 1) (c3 := 2 * L) (i := 3) (j := 4) gd rfl rfl (eso_new (c := 0) Stb.triv (enew_lst (Ea.lift (a_cons e_int a_nil)) (fun ds e => by rw [e]; decide)))
      (W2 := fun s u H0 N H => ∃ p, ∃ near : Int, (s = .raw (.ref p) ∧ u = .dat (.int near)) ∧ Own (some a) p [.int 0] H0 N H) (fun s => ?_) (fun s u => ?_) (by omega)
    · refine fun G0 H0 n0 c0 N σ H n om pr po hn Q q => ?_
      obtain ⟨⟨p, ds, rfl, rfl, ow⟩, _⟩ := om
      exact eso_ev (Ω := Own (some a) p [.int 0]) Own.stb (ev_take D gd (Nat.le_refl _) e_int (by decide) (by decide)).o G0 H0 n0 c0 N σ H n ow pr po hn Q fun v s N' H' n' h => q v s N' H' n' (by
        obtain ⟨⟨d, rfl, i, rfl, _⟩, h2⟩ := h
        exact ⟨p, i, ⟨rfl, rfl⟩, h2⟩)
    refine rx_ex fun p => rx_ex fun near => rx_and fun ⟨h1, h2⟩ => ?_
    subst h1 h2
    refine rx_forO (α := Nat) (c1 := 0) (c2 := 2) (c3 := 0) (Pd := fun z => z = (List.range (L - 1)).map fun (i : Nat) => PyData.int ((i : Int) + 1)) gd .never (pg_name (i := 5) gd.nd rfl (.inl rfl)) Own.stb (Ei.o (Ei.lift (i_range1N gd e_int (len_widths gd hL (nm 1)) (by omega)))) (L - 1) (fun ds e => ?_) (by omega)
    subst e
    refine ⟨fun i => .int ((i : Int) + 1), List.range (L - 1), [5], fun i ρ => ρ.set 5 (.dat (.int ((i : Int) + 1))), fun i ρ' H0 N H => ∃ ns : List Int, (ns.length = i + 1 ∧ ∃ x y z, ρ' = [.tin, .dat (layD S rows), .dat (tupI g), .raw (.ref p), .dat (.int near), x, y, z]) ∧ Own (some a) p (ns.map .int) H0 N H, rfl, by rw [List.length_range]; exact Nat.le_refl _, fun _ _ => gok_name, fun _ _ => Stb.ex fun _ => Own.stb.and, fun _ _ _ h => ⟨[0], ⟨rfl, _, _, _, rfl⟩, h⟩, fun i j ρ' hj => ?_, fun ρ' => ?_⟩
    · refine rx_ex fun ns => rx_and fun ⟨hl, x, y, z, hρ⟩ => ?_
      subst hρ
      obtain ⟨hi, e⟩ := List.getElem?_eq_some_iff.mp hj
      rw [List.getElem_range] at e
      rw [List.length_range] at hi
      subst e
      have last : ∀ {ρ : List Sl}, ρ[3]? = some (.dat (lstI ns)) → ∀ {p1 p2 p3 p4 : Pos} {k1 : Nat}, E (cxD P w K mg base n_line "_law_line" (defScope s_line) f cdv A0 outer s H X0) (.Subscript (.Name "_law_found" p1) (.UnaryOp .USub (.Constant (.int 1) k1 p2) p3) p4) ρ (.int (lastI ns)) := fun {_} h {_ _ _ _ _} => e_ix (nm 3 h) (e_un e_int b1_neg) (bx_lstI (atI_lastI (ns_ne hl)))
      refine rx_asgO (c1 := 0) (c2 := 2) (i := 6) (P := fun z => ∃ i : Int, z = .int i) gd rfl Own.stb (evo_peek (own_knows (i := 3) rfl (fun _ _ _ h => h)) (Ev.mono (Ev.lift (c := 0) (e_bin (e_ix (e_call D1 gd (by decide) (by rfl) (a_cons (nm 1) (a_cons (nm 2) a_nil)) ⟨S, rows, L, g, rfl, hL, hg, rfl⟩) (nm 5) (bx_lstI (z := exAt rows g (i + 1)) ?_)) (e_bin (last rfl) (e_ix (nm 1) e_int (bx_tup rfl)) (b2_mul (.inr ⟨by omega, by omega⟩))) b2_sub)) (fun d e => ⟨_, e⟩) (Nat.le_refl _)) (fun d ⟨i, e⟩ => by rw [e]; rfl)) fun d e => ?_
      · refine (atI_nat (j := i + 1) ?_ : atI _ (((i + 1 : Nat)) : Int) = _)
        unfold exRow
        rw [List.getElem?_map, List.getElem?_range (by omega)]
        rfl
      obtain ⟨lacks, rfl⟩ := e
      refine rx_asgO (c1 := 2) (c2 := 0) (i := 7) (P := fun z => ∃ i : Int, z = .int i) gd rfl Own.stb (Ev.o (ev_if (c1 := 1) (c2 := 1) (Pt := fun _ => True) (Ew.et ((ew_and (c1 := 0) (c2 := 1) (P1 := fun _ => True) (P2 := fun _ => True) ((Et.lift (eb_cmp (nm 4) e_int b2_gt)).mono (fun _ _ => True.intro) (Nat.le_refl _)) (fun _ => ew_and1 (et_cmp (c1 := 1) (c2 := 0) (P2 := fun _ z => z = .int 0) (ev_take D gd (Nat.le_refl _) e_int (by decide) (by decide)) (fun _ _ => Ev.lift e_int) (fun d1 d2 ⟨i, e1, _⟩ e2 => ⟨_, True.intro, by rw [e1, e2]; exact b2_gt⟩)))).mono (fun _ _ => True.intro) (Nat.le_refl _)))
        (fun _ => Ev.mono (Ev.lift (c := 0) (e_intB gd (e_cmp (e_bin e_int (nm 6) (b2_mul (.inl ⟨by decide, by decide⟩))) (e_ix (nm 1) e_int (bx_tup rfl)) b2_gt))) (fun d e => ⟨_, e⟩) (by omega)) (fun _ => Ev.mono (ev_take D gd (Nat.le_refl _) e_int (by decide) (by decide)) (fun d ⟨i, e, _⟩ => ⟨i, e⟩) (Nat.le_refl _)))) fun d e => ?_
      obtain ⟨step, rfl⟩ := e
      refine rx_append1 (i := 3) (c1 := 0) (c2 := 0) (P := fun z => z = .int (lastI ns + step)) rfl rfl (.inr ⟨Ev.lift (e_bin (last rfl) (nm 7) b2_add), fun d e => by rw [e]; rfl⟩) (by rw [List.length_map]; omega) fun d e => rx_nil fun H0 N H h => ⟨ns ++ [lastI ns + step], ⟨by rw [List.length_append, hl]; rfl, _, _, _, rfl⟩, ?_⟩
      subst e
      rw [List.map_append]
      exact h
    · refine rx_ex fun ns => rx_and fun ⟨hl, x, y, z, hρ⟩ => ?_
      subst hρ
      refine rx_freeze (p := p) (i := 3) rfl (fun _ _ _ h => h) (run_ret (Ev.mono (Ev.lift (c := 0) (e_tupleL gd (nm 3))) (fun d e => ⟨ns, e, by rw [hl, List.length_range]; omega⟩) (Nat.le_refl _)))
def F_pick : List PyData → (PyData → Prop) → Prop := fun ds R => ∃ (gs : List Int) (n : Int), ds = [lstI gs, .int n] ∧ 1 ≤ n ∧ n ≤ 1000 ∧ gs ≠ [] ∧ gs.length ≤ 1000 ∧ R = fun d => ∃ fs : List Int, d = lstI fs ∧ fs ≠ [] ∧ fs.length ≤ gs.length ∧ ∀ x ∈ fs, x ∈ gs
theorem dn_pick (hB : Bt mg) (D : Dn P w K mg base 1 "_law_take" p_take (spT 1 F_take)) (hf : FnP K "_law_pick" s_pick f fd) (hm : mg "_law_pick" = some (.ref f)) : Dn P w K mg base 2 "_law_pick" p_pick (spT 1000 F_pick) := by
  refine dn_draw hf hm hB sc_pick (hf.bindsN fun _ _ _ _ _ _ us hl => match us, hl with | [_, _, _], _ => rfl) (fun ds R h => ?_) (fun cdv A0 outer s H X0 gd a ds R h => ?_)
  · obtain ⟨gs, n, rfl, _⟩ := h
    rfl
  · obtain ⟨gs, n, rfl, hn1, hn2, hne, hgl, rfl⟩ := h
    have hpos := List.length_pos_iff.mpr hne
    refine rx_start (Ω := fun _ _ _ => True) (Ψ := fun _ _ _ _ => False) ?_ (fun _ _ => True.intro) (fun _ _ _ _ h => h.elim)
    refine rx_parS (c1 := 0) (c2 := 0) (c3 := 1000) (i := 3) (j := 4) gd rfl rfl (eso_new (c := 0) (Pd := fun z => z = gs.map .int) Stb.triv (enew_list gd (nm 1)))
      (W2 := fun s u H0 N H => ∃ p q, (s = .raw (.ref p) ∧ u = .raw (.ref q) ∧ q ≠ p) ∧ Own (some a) p (gs.map .int) H0 N H ∧ Own (some a) q [] H0 N H) (fun s => ?_) (fun s u => ?_) (by omega)
    · refine fun G0 H0 n0 c0 N σ H n om pr po hn Q q => ?_
      obtain ⟨⟨p, ds, rfl, rfl, ow⟩, _⟩ := om
      exact eso_newS (c := 0) (Pd := fun z => z = []) [p] (Ω := Own (some a) p (gs.map .int)) (fun _ _ _ h b hb => by rw [List.mem_singleton.mp hb]; exact ⟨_, h.2.2.2.choose_spec.1⟩) Own.stb (enew_lst (Ea.lift a_nil) (fun ds e => by rw [e]; decide)) G0 H0 n0 c0 N σ H n ow pr po hn Q fun v s N' H' n' h => q v s N' H' n' (by
        obtain ⟨p2, ds, ⟨rfl, rfl, hne⟩, ow2, h2⟩ := h
        exact ⟨p, p2, ⟨rfl, rfl, fun z => hne (by rw [z]; exact List.mem_singleton.mpr rfl)⟩, h2, ow2⟩)
    refine rx_ex fun p => rx_ex fun q => rx_and fun ⟨h1, h2, hpq⟩ => ?_
    subst h1 h2
    have knowP : ∀ {ds : List PyData} {ρ : List Sl} {Ω : Om}, ρ[3]? = some (.raw (.ref p)) → (∀ H0 N H, Ω H0 N H → Own (some a) p ds H0 N H) → Knows (some a) Ω [p] ρ (ρ.set 3 (.dat (.list ds))) := fun h1 h2 => own_knows h1 h2
    refine rx_forO (α := Nat) (c1 := 0) (c2 := 1) (c3 := 0) (Pd := fun z => ∃ m, m = min n (gs.map PyData.int).length ∧ z = rangeD 0 m.toNat) gd .never (pg_name (i := 5) gd.nd rfl (.inl rfl)) (fun _ _ _ _ _ h g => ⟨Own.stb _ _ _ _ _ h.1 g, Own.stb _ _ _ _ _ h.2 g⟩)
      (eio_range gd (by rfl) (evo_peek (P := fun z => ∃ m, z = .int m ∧ m = min n (gs.map PyData.int).length) (own_knows (i := 3) rfl (fun _ _ _ h => h.1)) (Ev.mono (Ev.lift (c := 0) (e_callB (by rfl) gd.bt.min PyProof.Rows.boot_min (a_cons (e_intI gd (nm 2)) (a_cons (e_lenL gd (nm 3)) a_nil)) (c_min2 gd))) (fun d e => ⟨_, e, rfl⟩) (Nat.le_refl _)) (fun d ⟨m, e, _⟩ => by rw [e]; rfl)) (fun m e => by rw [List.length_map] at e; omega)) 1000 (fun ds e => ?_) (by omega)
    obtain ⟨m, hm, rfl⟩ := e
    rw [List.length_map] at hm
    refine ⟨fun i => .int (i : Int), List.range m.toNat, [5], fun i ρ => ρ.set 5 (.dat (.int (i : Int))), fun i ρ' H0 N H => ∃ ps fs : List Int, (ps.length + i = gs.length ∧ fs.length = i ∧ (∀ x ∈ ps, x ∈ gs) ∧ (∀ x ∈ fs, x ∈ gs) ∧ ∃ x, ρ' = [.tin, .dat (lstI gs), .dat (.int n), .raw (.ref p), .raw (.ref q), x]) ∧ Own (some a) p (ps.map .int) H0 N H ∧ Own (some a) q (fs.map .int) H0 N H, rangeD0 _, by rw [List.length_range]; omega, fun _ _ => gok_name, fun _ _ => Stb.ex fun _ => Stb.ex fun _ => Stb.and (fun _ _ _ _ _ h g => ⟨Own.stb _ _ _ _ _ h.1 g, Own.stb _ _ _ _ _ h.2 g⟩), fun _ _ _ h => ⟨gs, [], ⟨rfl, rfl, fun x h => h, fun x h => absurd h (by simp), _, rfl⟩, h⟩, fun i j ρ' hj => ?_, fun ρ' => ?_⟩
    · refine rx_ex fun ps => rx_ex fun fs => rx_and fun ⟨hl, hfl, hps, hfs, x, hρ⟩ => ?_
      subst hρ
      obtain ⟨hi, e⟩ := List.getElem?_eq_some_iff.mp hj
      rw [List.getElem_range] at e
      rw [List.length_range] at hi
      subst e
      have hpl : (ps.map PyData.int).length = ps.length := List.length_map ..
      have hst : Stb (some a) (fun H0 N H => Own (some a) p (ps.map .int) H0 N H ∧ Own (some a) q (fs.map .int) H0 N H) := fun _ _ _ _ _ h g => ⟨Own.stb _ _ _ _ _ h.1 g, Own.stb _ _ _ _ _ h.2 g⟩
      refine rx_appendS (c1 := 1) (c2 := 0) (i := 4) (p := q) rfl rfl (fun _ _ _ h => ⟨_, h.2.2.2.2.choose_spec.1⟩) (eso_pop (i := 3) (p := p) (ds := ps.map .int) rfl rfl hst (fun _ _ _ h => h.1) (by omega) ?_) (fun s H0 N H h => ?_) (fun s => ?_)
      · refine fun G0 H0 n0 c0 N σ H n' om pr po hn Q qq => ?_
        obtain ⟨f1, fd1, FO, hm1, hk1, hb1⟩ := D.ex
        refine WE.of (pe_call FO (gd.room.mono (by decide)) (by rfl) hm1 hk1 hb1 .nil pass0 (pa_cons (pe_var (i := 0) rfl (.inl rfl) (by decide) (by decide)) (wa [_]) (se_cons rfl)) (by decide) (se_cons rfl) rfl) ?_
        refine ⟨.ref a, pr.env.tinAt rfl rfl, ?_⟩
        obtain ⟨hS, he⟩ := own_knows (i := 3) (Ω := fun H0 N H => Own (some a) p (ps.map .int) H0 N H ∧ Own (some a) q (fs.map .int) H0 N H) (ρ := [.tin, .dat (lstI gs), .dat (.int n), .raw (.ref p), .raw (.ref q), .dat (.int (i : Int))]) rfl (fun _ _ _ h => h.1) H0 N H om
        have p2 := view_pre hS pr
        refine (Ea.lift (T := some a) (c := 0) (a_cons (e_lenL gd (nm 3)) a_nil)) _ σ H n' ⟨he σ p2.env, p2.ex, p2.tin⟩ (by omega) _ fun vs ds N3 H3 n3 e1 o1 r1 => ?_
        subst e1
        have o2 := unview hS o1
        have r2 := r1.unflat (by rfl) (subS N3 [p])
        refine ⟨_, a, vs, _, _, n3, by rw [List.append_nil], o2.gr.nh, o2.tin, by have := o2.le; omega, r2, ⟨_, rfl, by rw [hpl]; omega, by rw [hpl]; omega, rfl⟩, fun v d' N4 H4 n4 hd' o4 r4 => ?_⟩
        exact qq v d' N4 H4 n4 hd' ((o2.trans o4).weak (by omega)) r4
      · obtain ⟨j, _, ow, vs, H1, om1, rfl⟩ := h
        have := om1.2.upd_ne (o := .lst vs) hpq
        obtain ⟨t1, t2, t3, vs2, t4, t5⟩ := this
        exact ⟨⟨t1, t2, t3, _, t4⟩, vs2, t4, by rw [t5.length, List.length_map]; omega⟩
      · refine rx_nil fun H0 N H h => ?_
        obtain ⟨H1, vs, v, rfl, ⟨j, ⟨hj, rfl⟩, ow, vs1, H2, om2, rfl⟩, hq, so⟩ := h
        rw [hpl] at hj
        have hget : (ps.map PyData.int).getD j .none = .int (ps.getD j 0) := by
          rw [List.getD_eq_getElem?_getD, List.getElem?_map, List.getElem?_eq_getElem hj, List.getD_eq_getElem?_getD, List.getElem?_eq_getElem hj]
          rfl
        obtain ⟨v', e1, rv⟩ := so
        cases e1
        rw [hget] at rv
        have hmem : ps.getD j 0 ∈ gs := hps _ (by rw [List.getD_eq_getElem?_getD, List.getElem?_eq_getElem hj]; exact List.getElem_mem _)
        obtain ⟨t1, t2, t3, vs2, t4, t5⟩ := om2.2.upd_ne (o := .lst vs1) hpq
        rw [hq] at t4
        cases t4
        refine ⟨ps.eraseIdx j, fs ++ [ps.getD j 0], ⟨?_, by rw [List.length_append, hfl]; rfl, fun x h => hps x (List.mem_of_mem_eraseIdx h), fun x h => ?_, _, rfl⟩, ?_, t1, t2, t3, _, upd_same, ?_⟩
        · rw [List.length_eraseIdx, if_pos hj]
          omega
        · rcases List.mem_append.mp h with h | h
          · exact hfs x h
          · rw [List.mem_singleton.mp h]; exact hmem
        · rw [erase_map] at ow
          exact ow.upd_ne hpq.symm
        · rw [List.map_append]
          exact t5.append (.cons rv .nil)
    · refine rx_ex fun ps => rx_ex fun fs => rx_and fun ⟨hl, hfl, hps, hfs, x, hρ⟩ => ?_
      subst hρ
      rw [List.length_range] at hfl
      refine rx_freeze (p := q) (i := 4) rfl (fun _ _ _ h => h.2) (run_ret (Ev.mono (Ev.lift (c := 0) (nm 4)) (fun d e => ⟨fs, e, fun z => ?_, by omega, hfs⟩) (Nat.le_refl _)))
      rw [z] at hfl
      have : (0 : Nat) = m.toNat := hfl
      omega
end
end Pn

set_option Elab.async false
set_option linter.all false
set_option maxRecDepth 100000
set_option maxHeartbeats 1000000
/-! PnSo: sorted of a tuple of ints; of a list of tuples of ints, their lengths at will. -/
namespace Pn
open PySem PySem.Spec PyProof.Rows L2

/-! ### ranks -/
def zs (a : Nat) : List Int := List.replicate a 0
theorem code_zs (B : Int) : ∀ a, TS.code B (zs a) = 0
  | 0 => rfl
  | a + 1 => by
    show 0 * B ^ (zs a).length + TS.code B (zs a) = 0
    rw [code_zs B a, Int.zero_mul]
    rfl
def up1 (ns : List Int) : List Int := ns.map (· + 1)
theorem bd_up {B : Int} (hB : 0 < B) {ns : List Int} (h : TS.Bd B ns) (a : Nat) : TS.Bd (B + 1) (up1 ns ++ zs a) := fun m hm => by
  rcases List.mem_append.mp hm with hm | hm
  · obtain ⟨x, hx, rfl⟩ := List.mem_map.mp hm
    have := h x hx
    omega
  · rw [List.eq_of_mem_replicate hm]
    omega
theorem code_pos {B : Int} (hB : 0 < B) {q : Int} {ms : List Int} (h : TS.Bd B (q :: ms)) (b : Nat) : 0 < TS.code (B + 1) (up1 (q :: ms) ++ zs b) := by
  have h1 := (TS.code_bd _ (bd_up hB h.tail b)).1
  have h2 := h.head
  show 0 < (q + 1) * (B + 1) ^ (up1 ms ++ zs b).length + TS.code (B + 1) (up1 ms ++ zs b)
  have h3 : 0 < (q + 1) * (B + 1) ^ (up1 ms ++ zs b).length := Int.mul_pos (by omega) (Int.pow_pos (by omega))
  omega
section
variable {prog : Program} {w : World} {A : Around} {E : Value → Shared → Prop} {s : Shared}
theorem lexV {B : Int} (hB : 0 < B) {bb : Bool} {Q : Bool → Shared → Prop} {xs ys : List Value} {ns ms : List Int} (i a b : Nat) (hx : IntsAre xs ns) (hy : IntsAre ys ms) (hl : ns.length + a = ms.length + b) (h1 : TS.Bd B ns) (h2 : TS.Bd B ms) {fin : Bool} (hf : fin = decide (ns.length < ms.length))
    (h : Q (decide (TS.code (B + 1) (up1 ns ++ zs a) < TS.code (B + 1) (up1 ms ++ zs b))) s) : PySem.W.KatLex prog w A bb fin Q (xs.zip ys) i s := by
  induction hx generalizing ys ms i with
  | nil =>
    cases hy with
    | nil =>
      refine PySem.W.kat_nil ?_
      rw [hf]
      have e : decide (TS.code (B + 1) (up1 [] ++ zs a) < TS.code (B + 1) (up1 [] ++ zs b)) = false := decide_eq_false (by
        show ¬ TS.code (B + 1) (zs a) < TS.code (B + 1) (zs b)
        rw [code_zs, code_zs]
        exact Int.lt_irrefl _)
      rw [e] at h
      exact h
    | @cons q u ys ms hy =>
      refine PySem.W.kat_nil ?_
      rw [hf]
      have e : decide (TS.code (B + 1) (up1 [] ++ zs a) < TS.code (B + 1) (up1 (q :: ms) ++ zs b)) = true := decide_eq_true (by
        show TS.code (B + 1) (zs a) < _
        rw [code_zs]
        exact code_pos hB h2 b)
      rw [e] at h
      rw [decide_eq_true (by simp)]
      exact h
  | @cons p t xs ns hx ih =>
    cases hy with
    | nil =>
      refine PySem.W.kat_nil ?_
      rw [hf]
      have e : decide (TS.code (B + 1) (up1 (p :: ns) ++ zs a) < TS.code (B + 1) (up1 [] ++ zs b)) = false := decide_eq_false (by
        show ¬ _ < TS.code (B + 1) (zs b)
        rw [code_zs]
        have := code_pos hB h1 a
        omega)
      rw [e] at h
      rw [decide_eq_false (by simp)]
      exact h
    | @cons q u ys ms hy =>
      have hl' : ns.length + a = ms.length + b := by
        rw [List.length_cons, List.length_cons] at hl
        omega
      have hlen : (up1 ns ++ zs a).length = (up1 ms ++ zs b).length := by
        simp only [up1, zs, List.length_append, List.length_map, List.length_replicate]
        exact hl'
      show PySem.W.KatLex prog w A bb fin Q ((Value.int p t, Value.int q u) :: xs.zip ys) i s
      refine PySem.W.kat_cons (wpAny_eqBool_int ?_)
      by_cases e : p = q
      · subst e
        rw [beq_self_eq_true]
        have d : decide (TS.code (B + 1) (up1 (p :: ns) ++ zs a) < TS.code (B + 1) (up1 (p :: ms) ++ zs b)) = decide (TS.code (B + 1) (up1 ns ++ zs a) < TS.code (B + 1) (up1 ms ++ zs b)) := decide_eq_decide.mpr (TS.code_same hlen)
        rw [d] at h
        refine PySem.W.kat_yes ?_
        exact ih (i + 1) hy hl' h1.tail h2.tail (by rw [hf]; exact decide_eq_decide.mpr (by simp)) h
      · rw [show (p == q) = false from beq_eq_false_iff_ne.mpr e]
        refine PySem.W.kat_no (TS.oneLt_ints _ ?_)
        have d : decide (TS.code (B + 1) (up1 (p :: ns) ++ zs a) < TS.code (B + 1) (up1 (q :: ms) ++ zs b)) = decide (p < q) := by
          refine decide_eq_decide.mpr ⟨fun x => ?_, fun x => TS.code_lt hlen (bd_up hB h1.tail a) (bd_up hB h2.tail b) (show p + 1 < q + 1 by omega)⟩
          rcases Int.lt_trichotomy p q with y | y | y
          · exact y
          · exact absurd y e
          · exact absurd (Int.lt_trans x (TS.code_lt hlen.symm (bd_up hB h2.tail b) (bd_up hB h1.tail a) (show q + 1 < p + 1 by omega))) (Int.lt_irrefl _)
        rw [d] at h
        exact h
/-- tuples of at least one, at most D ints in [0, B) -/
def TupsV (h : Heap) (D : Nat) (B : Int) (vs : List Value) : Prop := ∀ v, v ∈ vs → ∃ ns, TS.TupInts h v ns ∧ 1 ≤ ns.length ∧ ns.length ≤ D ∧ TS.Bd B ns
theorem TupsV.keeps {h h' : Heap} {D : Nat} {B : Int} {vs : List Value} (x : TupsV h D B vs) (k : ∀ b o, h.get? b = some o → o.cls = .type "tuple" → h'.get? b = some o) : TupsV h' D B vs := fun v hv =>
  let ⟨ns, t, r⟩ := x v hv; ⟨ns, t.keeps k, r⟩
theorem firstsV {h : Heap} {D : Nat} {B : Int} : ∀ vs : List Value, TupsV h D B vs → ∃ fs, PySem.W.KatTups h vs fs ∧ fs.length = vs.length ∧ ∀ f, f ∈ fs → ∃ n t, f = Value.int n t
  | [], _ => ⟨[], PySem.W.KatTups.nil, rfl, fun f hf => by simp at hf⟩
  | v :: vs, x => by
    obtain ⟨fs, k, hl, hi⟩ := firstsV vs fun u hu => x u (List.mem_cons_of_mem _ hu)
    obtain ⟨ns, ⟨a, xs, rfl, ⟨o, ho, hc, n, hdt⟩, i⟩, hn, _⟩ := x v (List.mem_cons_self ..)
    cases ns with
    | nil => simp at hn
    | cons m ms =>
      generalize hq : xs.toList = l at i
      cases i with
      | @cons _ t l' _ i' =>
        refine ⟨.int m t :: fs, PySem.W.KatTups.cons ho hc hdt (by rw [← Array.getElem?_toList, hq]; rfl) k, by rw [List.length_cons, List.length_cons, hl], fun f hf => ?_⟩
        rcases List.mem_cons.mp hf with rfl | hf
        · exact ⟨m, t, rfl⟩
        · exact hi f hf
noncomputable def rkV (h : Heap) (D : Nat) (B : Int) (v : Value) : Int := TS.code (B + 1) (up1 (TS.intsOf h v) ++ zs (D - (TS.intsOf h v).length))
theorem kindV {D : Nat} {B : Int} (hB : 0 < B) {vs : List Value} (h2 : 2 ≤ vs.length) (x : TupsV s.heap D B vs) (r : Value → Int) (hr : ∀ v, v ∈ vs → ∀ ns, TS.TupInts s.heap v ns → r v = TS.code (B + 1) (up1 ns ++ zs (D - ns.length))) (Q : SortKind → Shared → Prop)
    (h : ∀ κ, TS.Cmp prog w A s κ (pairsOf vs) r → Q κ s) : wpAny (model prog w) A (keyKind' vs.toArray) Q E s := by
  obtain ⟨fs, k, hl, hi⟩ := firstsV vs x
  refine PySem.W.kat_kind (T := Value.type "int") k (by omega) (fun f hf => ?_) rfl (h _ ?_)
  · obtain ⟨n, t, rfl⟩ := hi f hf
    exact PySem.W.Looks.of_pure rfl
  · intro p q hp hq Q' E' hQ
    rw [pairsOf_toList] at hp hq
    obtain ⟨ns, tp, lp, lp2, bp⟩ := x _ (mem_zip_self hp).2
    obtain ⟨ms, tq, lq, lq2, bq⟩ := x _ (mem_zip_self hq).2
    have ep := hr _ (mem_zip_self hp).2 _ tp
    have eq2 := hr _ (mem_zip_self hq).2 _ tq
    rw [ep, eq2] at hQ
    obtain ⟨a, xs, e1, ⟨o, ho, hc, n, hdt⟩, i⟩ := tp
    obtain ⟨a', ys, e2, ⟨o', ho', hc', n', hdt'⟩, i'⟩ := tq
    rw [e1, e2]
    refine PySem.W.kat_lt ho hdt ho' hdt' ?_
    refine lexV hB 0 (D - ns.length) (D - ms.length) i i' (by omega) bp bq ?_ hQ
    have l1 := i.length
    have l2 := i'.length
    rw [Array.length_toList] at l1 l2
    rw [l1, l2]
theorem sortV {a : Addr} {vs : List Value} {n D : Nat} {B : Int} {P : PySem.Fin → Shared → Prop} (hB : 0 < B) (ho : s.heap.get? a = some (seqObj "list" vs.toArray n)) (h64 : vs.length < 64) (x : TupsV s.heap D B vs)
    (h : ∀ out : Array Value, out.toList.Perm vs → P (.done (.ret .none)) { s with heap := sortedHeap s.heap a vs out }) :
    wpAny (model prog w) A (Builtin.«list.sort» ⟨[.ref a], []⟩) P E s := by
  have keep : ∀ b o, s.heap.get? b = some o → o.cls = .type "tuple" → (TS.midHeap s.heap a vs).get? b = some o := fun b o e hc => by
    refine TS.midHeap_old ?_ e
    rintro rfl
    rw [ho] at e
    have e' : seqObj "list" vs.toArray n = o := Option.some.inj e
    rw [← e'] at hc
    have c' : Value.type "list" = Value.type "tuple" := hc
    injection c' with c''
    exact absurd c'' (by decide)
  refine SK.plain_sort (r := rkV s.heap D B) ho h64 (fun h2 Q hQ => ?_) fun ps out h1 h2 h3 => ?_
  · refine kindV (s := { s with heap := TS.midHeap s.heap a vs }) hB h2 (x.keeps keep) (rkV s.heap D B) (fun v hv ns t => ?_) Q hQ
    obtain ⟨ns0, t0, _⟩ := x v hv
    have e : ns = ns0 := t.ints.symm.trans (t0.keeps keep).ints
    rw [e]
    unfold rkV
    rw [t0.ints]
  · exact h out (TS.out_rank h1 h2 h3).1
theorem sorted_tupsV {l : Addr} {vs : List Value} {D : Nat} {B : Int} {Q : Value → Shared → Prop} (hB : 0 < B) (hl : s.heap.IsList l vs.toArray) (h64 : vs.length < 64) (x : TupsV s.heap D B vs)
    (h : ∀ out : Array Value, out.toList.Perm vs → Q (.ref (s.heap.objs.size + 1)) { s with heap := sortedAll s.heap vs out }) :
    wpAny (model prog w) A (call (.builtin "sorted") [.ref l]) Q E s := by
  refine Calls.call_function_entry kind_sorted plain_sorted entry_sorted (args_sorted1 _) ?_
  unfold Builtin.«sorted»
  refine wpAny_bind (m := checkCount "sorted" 1 1 _) (wpAny_pure ?_)
  refine wpAny_bind (collect_list hl ?_ (by rw [sizeLine_eq]; omega))
  refine wpAny_bind (wpAny_newList ?_ (by rw [sizeLine_eq]; omega))
  have hsz : ((s.heap.push (seqObj "list" #[] 0)).update s.heap.objs.size (Obj.mapSeq (· ++ vs.toArray))).objs.size = s.heap.objs.size + 1 := by
    rw [Heap.size_update, size_push']
  have hoL : (((s.heap.push (seqObj "list" #[] 0)).update s.heap.objs.size (Obj.mapSeq (· ++ vs.toArray))).push (seqObj "list" vs.toArray 0)).get? (s.heap.objs.size + 1) = some (seqObj "list" vs.toArray 0) := by
    rw [← hsz]; exact Heap.get?_push_size _ rfl
  have keep : ∀ b o, s.heap.get? b = some o → o.cls = .type "tuple" → (((s.heap.push (seqObj "list" #[] 0)).update s.heap.objs.size (Obj.mapSeq (· ++ vs.toArray))).push (seqObj "list" vs.toArray 0)).get? b = some o := fun b o q _ => by
    have hlt : b < s.heap.objs.size := Heap.lt_size q
    rw [Heap.get?_push_ne _ _ _ (by rw [hsz]; exact Nat.ne_of_lt (Nat.lt_succ_of_lt hlt)), Heap.get?_update_ne _ _ _ _ (Nat.ne_of_lt hlt), Heap.get?_push_ne _ _ _ (Nat.ne_of_lt hlt)]
    exact q
  show wpAny _ _ _ _ _ { s with heap := ((s.heap.push (seqObj "list" #[] 0)).update s.heap.objs.size (Obj.mapSeq (· ++ vs.toArray))).push (seqObj "list" vs.toArray 0) }
  rw [hsz]
  refine wpAny_bind (wpAny_holding (wpAny_call_entry slot_list_sort ⟨_, hoL, rfl⟩ entry_list_sort (sortV hB hoL h64 (x.keeps keep) fun out a1 => ⟨_, rfl, ?_⟩) (args_list_sort _)))
  exact wpAny_pure ⟨_, rfl, h out a1⟩
/-! ### a tuple collected -/
theorem collect_tup {l : Addr} {vs : List Value} {Q : List Value → Shared → Prop} (hl : s.heap.IsTuple l vs.toArray)
    (h : Q vs { s with heap := (s.heap.push (seqObj "list" #[] 0)).update s.heap.objs.size (Obj.mapSeq (· ++ vs.toArray)) }) (hsz : vs.length ≤ sizeLine) :
    wpAny (model prog w) A (collect (.ref l)) Q E s := by
  obtain ⟨o, ho, hc, n, hd⟩ := id hl
  unfold collect
  refine wpAny_bind (wpAny_runValue (codeAny_builtin entry_proto_collect' ?_))
  show wpAny _ _ (do again (.builtin "list.__iadd__" ⟨[← newList [], .ref l], []⟩)) _ _ s
  refine wpAny_bind (wpAny_newList (wpAny_pure ⟨Code.quiet_builtin _ (by decide +kernel), codeAny_builtin entry_list_iadd' ?_⟩) (Nat.zero_le _))
  show wpAny _ _ (Builtin.List.listExtendWith (.ref s.heap.objs.size) (.ref l) (.ref s.heap.objs.size)) _ _ { s with heap := s.heap.push (seqObj "list" #[] 0) }
  unfold Builtin.List.listExtendWith
  have ho' : (s.heap.push (seqObj "list" #[] 0)).get? l = some o := Heap.get?_push_of_some _ ho
  refine wpAny_bind (wpAny_typeOf (T := "tuple") ⟨o, ho', hc⟩ ?_)
  have ht : (Value.type "tuple" == Value.type "tuple") = true := by rfl
  rw [if_pos (by rw [ht]; simp)]
  refine wpAny_bind (listItems_at ho' hd ?_)
  refine wpAny_bind (listItems_at (xs := #[]) (n := 0) (Heap.get?_push_size _ rfl) rfl ?_)
  rw [if_neg (by simp)]
  refine wpAny_bind (listUpdate_at (xs := #[]) (n := 0) (Heap.get?_push_size _ rfl) rfl ?_ (Nat.zero_le _) (by show (#[] ++ vs.toArray).size ≤ sizeLine + 1; simp only [Array.size_append, List.size_toArray, List.length_nil]; omega))
  refine wpAny_pure ?_
  show wpAny (model prog w) A (do
      let o ← load s.heap.objs.size
      match o.data with
      | .seq xs _ => pure xs.toList
      | _ => unsupported "internal:collect") Q E { s with heap := (s.heap.push (seqObj "list" #[] 0)).update s.heap.objs.size (Obj.mapSeq (· ++ vs.toArray)) }
  refine wpAny_bind (wpAny_load (get?_update_seq (Heap.get?_push_size _ rfl) _) ?_)
  show wpAny _ _ (pure ((#[] : Array Value) ++ vs.toArray).toList) Q E _
  rw [show ((#[] : Array Value) ++ vs.toArray).toList = vs by simp]
  exact wpAny_pure h
theorem sorted_intsT {l : Addr} {vs : List Value} {ns : List Int} {Q : Value → Shared → Prop} (hl : s.heap.IsTuple l vs.toArray) (hI : IntsAre vs ns) (h64 : vs.length < 64)
    (h : ∀ (out : Array Value) (ns' : List Int), IntsAre out.toList ns' → ns'.Perm ns → ns'.Pairwise (· ≤ ·) → Q (.ref (s.heap.objs.size + 1)) { s with heap := sortedAll s.heap vs out }) :
    wpAny (model prog w) A (call (.builtin "sorted") [.ref l]) Q E s := by
  refine Calls.call_function_entry kind_sorted plain_sorted entry_sorted (args_sorted1 _) ?_
  unfold Builtin.«sorted»
  refine wpAny_bind (m := checkCount "sorted" 1 1 _) (wpAny_pure ?_)
  refine wpAny_bind (collect_tup hl ?_ (by rw [sizeLine_eq]; omega))
  refine wpAny_bind (wpAny_newList ?_ (by rw [sizeLine_eq]; omega))
  have hsz : ((s.heap.push (seqObj "list" #[] 0)).update s.heap.objs.size (Obj.mapSeq (· ++ vs.toArray))).objs.size = s.heap.objs.size + 1 := by
    rw [Heap.size_update, size_push']
  have hoL : (((s.heap.push (seqObj "list" #[] 0)).update s.heap.objs.size (Obj.mapSeq (· ++ vs.toArray))).push (seqObj "list" vs.toArray 0)).get? (s.heap.objs.size + 1) = some (seqObj "list" vs.toArray 0) := by
    rw [← hsz]; exact Heap.get?_push_size _ rfl
  show wpAny _ _ _ _ _ { s with heap := ((s.heap.push (seqObj "list" #[] 0)).update s.heap.objs.size (Obj.mapSeq (· ++ vs.toArray))).push (seqObj "list" vs.toArray 0) }
  rw [hsz]
  refine wpAny_bind (wpAny_holding (wpAny_call_entry slot_list_sort ⟨_, hoL, rfl⟩ entry_list_sort (list_sort_tree hoL hI h64 fun out ns' a1 a2 a3 => ⟨_, rfl, ?_⟩) (args_list_sort _)))
  exact wpAny_pure ⟨_, rfl, h out ns' a1 a2 a3⟩
end
/-! ### the calls -/
section
variable {X : Cx} {k : Nat}
/-- sorted(t), t a tuple of ints -/
def rSortedT (K : PySem.W.Frag) : List V → Hp → VK → Prop := fun vs H Q => ∃ (a : Addr) (ns : List Int), vs = [V.ref a] ∧ SqT K H a (ns.map V.int) ∧ ns.length < 64 ∧
  ∀ (ns' : List Int) (p : Addr), ns'.Perm ns → H p = none → Q (.ref p) (upd H p (.lst (ns'.map V.int)))
theorem cr_sortedTup : CallR X (.builtin "sorted") (rSortedT X.K) := by
  intro pins s σ H vs us Q I r h
  obtain ⟨a, ns, rfl, hs, h64, q⟩ := h
  obtain ⟨its, rv, hl, _⟩ := I.tuple hs
  rw [Vals.ref1 r]
  have hi := rv.ints
  have hi' : IntsAre its.toArray.toList ns := by simpa using hi
  refine sorted_intsT hl hi (by rw [hi.length]; exact h64) fun out ns' h1 h2 h3 => ?_
  obtain ⟨ep, he'⟩ := PyProof.Rows.sortedAll_at s.heap its out
  have hlen : (ns'.map V.int).length ≤ sizeLine := by rw [List.length_map, h2.length_eq, sizeLine_eq]; omega
  exact ⟨.ref _, upd H (s.heap.objs.size + 1) (.lst (ns'.map V.int)), I.laid (t' := s.toks) (fun _ _ => PyProof.Rows.sortedAll_old) (Nat.le_succ _) ⟨hlen, out.toList, ep, vals_of_ints h1, he'⟩, rfl, q ns' _ h2 (I.hok.fresh (Nat.le_succ _))⟩
/-- sorted(xs), xs a list of tuples of ints -/
def rSortedV (K : PySem.W.Frag) (D : Nat) (B : Int) : List V → Hp → VK → Prop := fun vs H Q => ∃ (a : Addr) (xs : List V), vs = [V.ref a] ∧ SqL K H a xs ∧ xs.length < 64 ∧ (∀ x ∈ xs, ∃ ns, TupI K H x ns ∧ 1 ≤ ns.length ∧ ns.length ≤ D ∧ TS.Bd B ns) ∧
  ∀ (ys : List V) (p : Addr), ys.Perm xs → H p = none → Q (.ref p) (upd H p (.lst ys))
theorem cr_sortedV {D : Nat} {B : Int} (hB : 0 < B) : CallR X (.builtin "sorted") (rSortedV X.K D B) := by
  intro pins s σ H vs us Q I r h
  obtain ⟨a, xs, rfl, hs, h64, hx, q⟩ := h
  obtain ⟨its, rv, hl, hz⟩ := I.list hs
  rw [Vals.ref1 r]
  obtain ⟨e1, e2⟩ := bkV_refs rv fun x m => by
    obtain ⟨ns, ⟨t, e, _⟩, _⟩ := hx x m
    exact ⟨t, e⟩
  refine sorted_tupsV (D := D) (B := B) hB hl.isList (by rw [← rv.length]; exact h64) (fun v hv => ?_) fun out h1 => ?_
  · obtain ⟨t, rfl⟩ := e2 v hv
    have hm : V.ref t ∈ xs := by
      rw [e1]
      exact List.mem_map.mpr ⟨_, hv, rfl⟩
    obtain ⟨ns, ⟨t', e, ht⟩, hn, hn2, hb⟩ := hx _ hm
    cases e
    exact ⟨ns, tupI_raw I ht, hn, hn2, hb⟩
  · obtain ⟨ep, he'⟩ := PyProof.Rows.sortedAll_at s.heap its out
    have h3 : ∀ u ∈ out.toList, ∃ a, u = Value.ref a := fun u hu => e2 u (h1.mem_iff.mp hu)
    have hp : (out.toList.map bkV).Perm xs := by
      rw [e1]
      exact h1.map bkV
    have hlen : (out.toList.map bkV).length ≤ sizeLine := by
      rw [hp.length_eq]
      exact hz
    exact ⟨.ref _, upd H (s.heap.objs.size + 1) (.lst (out.toList.map bkV)), I.laid (t' := s.toks) (fun _ _ => PyProof.Rows.sortedAll_old) (Nat.le_succ _) ⟨hlen, out.toList, ep, bkV_vals h3, he'⟩, rfl, q _ _ hp (I.hok.fresh (Nat.le_succ _))⟩
theorem RpA.perm {N : Hp} : ∀ {xs ys : List V}, ys.Perm xs → ∀ {ds : List PyData}, RpA N xs ds → ∃ es, RpA N ys es ∧ es.Perm ds := by
  intro xs ys h
  induction h with
  | nil => intro ds r; cases r; exact ⟨[], .nil, .nil⟩
  | cons x _ ih =>
    intro ds r
    cases r with
    | cons r t =>
      obtain ⟨es, h1, h2⟩ := ih t
      exact ⟨_ :: es, .cons r h1, h2.cons _⟩
  | swap x y l =>
    intro ds r
    cases r with
    | cons r1 t =>
      cases t with
      | cons r2 t => exact ⟨_, .cons r2 (.cons r1 t), .swap _ _ _⟩
  | trans _ _ ih1 ih2 =>
    intro ds r
    obtain ⟨es, h1, h2⟩ := ih2 r
    obtain ⟨fs, h3, h4⟩ := ih1 h1
    exact ⟨fs, h3, h4.trans h2⟩
theorem c_sortedT {ns : List Int} (h64 : ns.length < 64) : C1 X (.builtin "sorted") [tupI ns] (fun z => ∃ ms : List Int, z = lstI ms ∧ ms.Perm ns) := fun G H xs e r Q q => by
  obtain ⟨v, rfl, h⟩ := rpa1 r
  cases h with
  | tup ha hr =>
    rw [hr.ofInts] at ha
    refine WC.of cr_sortedTup ⟨_, ns, rfl, SqT.of (e _ _ ha), h64, fun ms p h1 hp => ?_⟩
    exact newLst e hp (RpA.ints ms) fun v N H' g r => q _ _ _ _ ⟨ms, rfl, h1⟩ g r
theorem c_sortedV {gs : List (List Int)} (h64 : gs.length < 64) (hg : ∀ g ∈ gs, 1 ≤ g.length ∧ g.length ≤ 1000 ∧ TS.Bd 1000 g) : C1 X (.builtin "sorted") [.list (gs.map tupI)] (fun z => ∃ hs : List (List Int), z = .list (hs.map tupI) ∧ hs.Perm gs) := fun G H xs e r Q q => by
  obtain ⟨v, rfl, h⟩ := rpa1 r
  cases h with
  | lst ha hr =>
    refine WC.of (cr_sortedV (D := 1000) (B := 1000) (by decide)) ⟨_, _, rfl, SqL.of (e _ _ ha), by rw [hr.length, List.length_map]; exact h64, fun x hx => ?_, fun ys p hp hn => ?_⟩
    · obtain ⟨i, hi⟩ := List.mem_iff_getElem?.mp hx
      obtain ⟨d, hd, rd⟩ := hr.getV hi
      rw [List.getElem?_map] at hd
      cases z : gs[i]? with
      | none => rw [z] at hd; cases hd
      | some g =>
        rw [z] at hd
        cases hd
        obtain ⟨h1, h2, h3⟩ := hg g (List.mem_of_getElem? z)
        cases rd with
        | tup hb hrb =>
          rw [hrb.ofInts] at hb
          exact ⟨g, ⟨_, rfl, SqT.of (e _ _ hb)⟩, h1, h2, h3⟩
    · obtain ⟨es, h1, h2⟩ := hr.perm hp
      obtain ⟨hs, p2, e2⟩ := perm_lift tupI h2 gs rfl
      subst e2
      exact newLst e hn h1 fun v N H' g r => q _ _ _ _ ⟨hs, rfl, p2⟩ g r
end
end Pn

set_option Elab.async false
set_option linter.all false
set_option maxRecDepth 100000
set_option maxHeartbeats 1000000
/-! PnP: a parting drawn: a dict of one's own. -/
namespace Pn
open PySem PySem.Spec PyProof.Rows L2

/-- a dict of one's own: its values tuples of ints -/
def OwnD (T : Option Addr) (p : Addr) (kvs : List (L2.Key × V)) (gs : List (List Int)) : Om := fun H0 N H => T ≠ some p ∧ H0 p = none ∧ N p = none ∧ H p = some (.dK kvs) ∧ RpA N (kvs.map (·.2)) (gs.map tupI)
theorem OwnD.stb {T : Option Addr} {p : Addr} {kvs : List (L2.Key × V)} {gs : List (List Int)} : Stb T (OwnD T p kvs gs) := fun H0 N H N' H' ⟨h1, h2, h3, h4, h5⟩ g => ⟨h1, h2, g.none_of h3 h4, g.hh p _ h1 h4, h5.mono g.gn⟩
theorem OwnD.fre {T : Option Addr} {p : Addr} {kvs : List (L2.Key × V)} {gs : List (List Int)} {H0 N H : Hp} (h : OwnD T p kvs gs H0 N H) : Fre T H0 N H p := ⟨h.1, h.2.1, h.2.2.1, _, h.2.2.2.1⟩
theorem valV_mem {kvs : List (L2.Key × V)} {k : L2.Key} {v : V} (h : valV kvs k = some v) : v ∈ kvs.map (·.2) := by
  unfold valV at h
  cases q : kvs.find? fun kv => decide (kv.1 = k) with
  | none => rw [q] at h; cases h
  | some kv =>
    rw [q] at h
    cases h
    exact List.mem_map.mpr ⟨kv, List.mem_of_find?_eq_some q, rfl⟩
theorem valV_some {kvs : List (L2.Key × V)} {k : L2.Key} {v0 : V} {i : Nat} (h : kvs[i]? = some (k, v0)) : ∃ v, valV kvs k = some v := by
  unfold valV
  cases q : kvs.find? fun kv => decide (kv.1 = k) with
  | none =>
    have := List.find?_eq_none.mp q (k, v0) (List.mem_of_getElem? h)
    simp at this
  | some kv => exact ⟨_, rfl⟩
theorem rpa_mem {N : Hp} {vs : List V} {ds : List PyData} {v : V} (r : RpA N vs ds) (h : v ∈ vs) : ∃ d ∈ ds, Rp N v d := by
  obtain ⟨i, hi⟩ := List.mem_iff_getElem?.mp h
  obtain ⟨d, hd, rd⟩ := r.getV hi
  exact ⟨d, List.mem_of_getElem? hd, rd⟩
/-- what putK leaves -/
theorem putK_rpa {N : Hp} {k : L2.Key} {v : V} {g : List Int} (rv : Rp N v (tupI g)) {kvs : List (L2.Key × V)} {gs : List (List Int)} (r : RpA N (kvs.map (·.2)) (gs.map tupI)) :
    ∃ gs' : List (List Int), RpA N ((putK kvs k v).map (·.2)) (gs'.map tupI) ∧ gs' ≠ [] ∧ gs'.length ≤ gs.length + 1 ∧ ∀ x ∈ gs', x = g ∨ x ∈ gs := by
  have rep : ∀ {kvs : List (L2.Key × V)} {gs : List (List Int)}, RpA N (kvs.map (·.2)) (gs.map tupI) → ∃ gs' : List (List Int), RpA N ((kvs.map fun kv => if kv.1 = k then (kv.1, v) else kv).map (·.2)) (gs'.map tupI) ∧ gs'.length = gs.length ∧ ∀ x ∈ gs', x = g ∨ x ∈ gs := by
    intro kvs
    induction kvs with
    | nil =>
      intro gs r
      cases gs with
      | nil => exact ⟨[], .nil, rfl, fun x h => absurd h (by simp)⟩
      | cons _ _ => cases r
    | cons kv kvs ih =>
      intro gs r
      cases gs with
      | nil => cases r
      | cons g0 gs =>
        cases r with
        | cons r1 t =>
          obtain ⟨gs', h1, h2, h3⟩ := ih t
          by_cases z : kv.1 = k
          · refine ⟨g :: gs', ?_, by rw [List.length_cons, List.length_cons, h2], fun x hx => ?_⟩
            · rw [List.map_cons, if_pos z]
              exact .cons rv h1
            · rcases List.mem_cons.mp hx with h | h
              · exact .inl h
              · rcases h3 x h with h | h
                · exact .inl h
                · exact .inr (List.mem_cons_of_mem _ h)
          · refine ⟨g0 :: gs', ?_, by rw [List.length_cons, List.length_cons, h2], fun x hx => ?_⟩
            · rw [List.map_cons, if_neg z]
              exact .cons r1 h1
            · rcases List.mem_cons.mp hx with h | h
              · exact .inr (by rw [h]; exact List.mem_cons_self)
              · rcases h3 x h with h | h
                · exact .inl h
                · exact .inr (List.mem_cons_of_mem _ h)
  unfold putK
  split
  · rename_i hany
    obtain ⟨gs', h1, h2, h3⟩ := rep r
    refine ⟨gs', h1, fun z => ?_, by omega, h3⟩
    subst z
    have e : gs = [] := List.eq_nil_of_length_eq_zero h2.symm
    subst e
    have e2 := r.length
    rw [List.length_map] at e2
    have e3 : kvs = [] := List.eq_nil_of_length_eq_zero e2
    subst e3
    cases hany
  · refine ⟨gs ++ [g], ?_, by simp, by simp, fun x hx => ?_⟩
    · rw [List.map_append, List.map_append]
      exact r.append (.cons rv .nil)
    · rcases List.mem_append.mp hx with h | h
      · exact .inr h
      · exact .inl (List.mem_singleton.mp h)
section
variable {X : Cx} {T : Option Addr} {c c1 c2 k : Nat} {e a b ix : Expr} {ss rest : List Stmt} {ρ : List Sl} {Ω : Om} {Ψ : List Sl → Om} {R P P1 : PyData → Prop} {pos pos' : Pos}
theorem own_writeG {p : Addr} {u : HO} {G0 H0 N H : Hp} {σ : Sg} {n n0 c0 : Nat} (hF : Fre T H0 N H p) (pr : Pre T N σ ρ H n) (po : Po T G0 H0 n0 c0 N H n) : Pre T N σ ρ (upd H p u) n ∧ Po T G0 H0 n0 c0 N (upd H p u) n := by
  obtain ⟨tp, hp0, np, _, _⟩ := hF
  have ex : Ex N (upd H p u) := pr.ex.mut np
  have tin : TinOk T N (upd H p u) n := fun a ha => by
    obtain ⟨z1, x, y, w, z2, z3⟩ := pr.tin a ha
    have : a ≠ p := fun q => tp (by rw [ha, q])
    exact ⟨z1, x, y, w, by rw [upd_ne this]; exact z2, z3⟩
  refine ⟨⟨pr.env, ex, tin⟩, ⟨⟨po.gr.gn, po.gr.fr, ex, fun a o t z => ?_, fun a o z => ?_⟩, tin, po.le⟩⟩
  · rw [upd_ne (ne_of_none z hp0)]; exact po.gr.hh a o t z
  · obtain ⟨o', e'⟩ := po.gr.ht a o z
    exact ⟨o', by rw [upd_ne (ne_of_none z hp0)]; exact e'⟩
theorem evo_bin {op : Operator} {d2 : PyData} (st : Stb T Ω) (h1 : EvO X T c a ρ Ω P1) (h2 : E X b ρ d2) (ho : ∀ d1, P1 d1 → ∃ d, P d ∧ B2 X (binaryOp op) d1 d2 d) : EvO X T c (.BinOp a op b pos) ρ Ω P := fun G0 H0 n0 c0 N σ H n om pr po hn Q q => by
  refine WE.of (pe_op (w2 _) (we a) (we b)) ?_
  refine h1 G0 H0 n0 c0 N σ H n om pr po hn _ fun x d1 N1 H1 n1 e1 o1 r1 => ?_
  refine h2.lift (T := T) (c := 0) N1 σ H1 n1 (pr.next o1) (by have := o1.le; omega) _ fun y d2' N2 H2 n2 e2 o2 r2 => ?_
  subst e2
  obtain ⟨d, hd, hb⟩ := ho d1 e1
  refine hb N2 H2 x y o2.gr.nh (r1.mono o2.gr.gn) r2 Q fun v N3 H3 g r => ?_
  exact q v d N3 H3 n2 hd (((o1.trans o2).trans (Po.pure (c := 0) o2.tin g)).weak (by omega)) r
/-- d.get(j, ()) -/
theorem evo_dget {p : Addr} {i : Nat} {x : Str} {j : Int} {kvs : List (L2.Key × V)} {gs : List (List Int)} {np apos cpos tpos : Pos} {kk : Nat} (hX : Good X k) (hi : X.N[i]? = some x) (hρ : ρ[i]? = some (.raw (.ref p))) (st : Stb T Ω) (hΩ : ∀ H0 N H, Ω H0 N H → OwnD T p kvs gs H0 N H) (hix : E X ix ρ (.int j))
    (m : M2 X (.Name x np) "get" apos ix (.Tuple [] kk tpos) cpos) (hv : Vis X.env.scope x := by first | exact Or.inl rfl | exact Or.inr (Or.inl rfl) | exact Or.inr (Or.inr rfl)) (hd : (x == ("__debug__" : Str)) = false := by decide) (hcd : (x == ("__classdict__" : Str)) = false := by decide) :
    EvO X T c (.Call (.Attribute (.Name x np) "get" apos) [ix, .Tuple [] kk tpos] [] cpos) ρ Ω (fun z => ∃ g, z = tupI g ∧ (g = [] ∨ g ∈ gs)) := fun G0 H0 n0 c0 N σ H n om pr po hn Q q => by
  have hu : X.A.units + 1 < cLine := by have := hX.room.un; omega
  refine WE.of (pe_dget2 hu (pe_var hi hv hd hcd) (we ix) (we _) m) ?_
  have ow := hΩ _ _ _ om
  refine ⟨.ref p, pr.env.rawAt hρ, p, rfl, .inl ⟨kvs, .inl ow.2.2.2.1⟩, ?_⟩
  refine hix.lift (T := T) (c := 0) N σ H n pr (by omega) _ fun vj dj N1 H1 n1 e1 o1 r1 => ?_
  subst e1
  cases r1
  refine (e_tup (ds := []) a_nil).lift (T := T) (c := 0) N1 σ H1 n1 (pr.next o1) (by have := o1.le; omega) _ fun vt dt N2 H2 n2 e2 o2 r2 => ?_
  subst e2
  have ow2 := hΩ _ _ _ (st _ _ _ _ _ (st _ _ _ _ _ om o1.gr) o2.gr)
  obtain ⟨_, _, _, hH2, rv2⟩ := ow2
  refine ⟨valV kvs (.inl j), .inl ⟨kvs, .inl j, .inl hH2, rfl, rfl⟩, ?_⟩
  have o12 := (o1.trans o2).weak (c2 := c) (by omega)
  cases z : valV kvs (.inl j) with
  | none => exact q vt _ N2 H2 n2 ⟨[], rfl, .inl rfl⟩ o12 r2
  | some v =>
    obtain ⟨d, hdm, rd⟩ := rpa_mem rv2 (valV_mem z)
    obtain ⟨g, hg, rfl⟩ := List.mem_map.mp hdm
    exact q v _ N2 H2 n2 ⟨g, rfl, .inr hg⟩ o12 rd
/-- d[j] = e -/
theorem rx_dput {p : Addr} {i : Nat} {x : Str} {j : Int} {kvs : List (L2.Key × V)} {np : Pos} {Pg : List Int → Prop} (hX : Good X k) (hi : X.N[i]? = some x) (hρ : ρ[i]? = some (.raw (.ref p))) (st : Stb T Ω) (hΩ : ∀ H0 N H, Ω H0 N H → Fre T H0 N H p ∧ H p = some (.dK kvs)) (hl : kvs.length < 100000) (hix : E X ix ρ (.int j)) (h : EvO X T c1 e ρ Ω (fun z => ∃ g, z = tupI g ∧ Pg g))
    (kk : ∀ g v, Pg g → RX X T c2 rest ρ (fun H0 N H => ∃ H1, H = upd H1 p (.dK (putK kvs (.inl j) v)) ∧ Ω H0 N H1 ∧ Rp N v (tupI g)) Ψ R) (hc : c1 + c2 ≤ c := by omega)
    (hv : Vis X.env.scope x := by first | exact Or.inl rfl | exact Or.inr (Or.inl rfl) | exact Or.inr (Or.inr rfl)) (hd : (x == ("__debug__" : Str)) = false := by decide) (hcd : (x == ("__classdict__" : Str)) = false := by decide)
    (hs : swapsWith e (some (.Subscript (.Name x np) ix pos')) pos.line X.env = pure false := by rfl) :
    RX X T c (.Assign [.Subscript (.Name x np) ix pos'] e pos :: rest) ρ Ω Ψ R := fun G0 H0 n0 c0 N σ H n om pr po hn D q1 q2 => by
  have hu : X.A.units + 1 < cLine := by have := hX.room.un; omega
  refine WSs.of (pss_cons (ps_dput hu (pe_var hi hv hd hcd) (we ix) (we e) hs) (wss rest)) ?_
  refine h G0 H0 n0 c0 N σ H n om pr po (by have := po.le; omega) _ fun v d N1 H1 n1 e1 o1 r1 => ?_
  obtain ⟨g, rfl, hg⟩ := e1
  have p1 := pr.next o1
  have om1 := st _ _ _ _ _ om o1.gr
  refine ⟨.ref p, p1.env.rawAt hρ, ?_⟩
  refine hix.lift (T := T) (c := 0) N1 σ H1 n1 p1 (by have := po.le; have := o1.le; omega) _ fun vj dj N2 H2 n2 e2 o2 r2 => ?_
  subst e2
  cases r2
  have om2 := st _ _ _ _ _ om1 o2.gr
  obtain ⟨hF2, hH2⟩ := hΩ _ _ _ om2
  refine ⟨p, _, rfl, .inl ⟨kvs, .inl j, hH2, rfl, by rw [sizeLine_eq]; omega, rfl⟩, ?_⟩
  obtain ⟨pr2, po2⟩ := own_writeG (u := .dK (putK kvs (.inl j) v)) hF2 (p1.next o2) ((po.trans o1).trans o2)
  exact kk g v hg G0 H0 n0 (c0 + c1 + 0) N2 σ _ n2 ⟨H2, rfl, om2, r1.mono o2.gr.gn⟩ pr2 po2 (by omega) D (fun ρ' N' σ' H' n' s pr po => q1 ρ' N' σ' H' n' s pr (po.weak (by omega))) (fun v d N' H' n' hr r po => q2 v d N' H' n' hr r (po.weak (by omega)))
/-- x, y = a, b through a tuple -/
theorem rx_tupS {i j : Nat} {x y : Str} {px py pt pt2 : Pos} {kt k2 : Nat} {W1 : Sl → Om} {W2 : Sl → Sl → Om} {c3 : Nat} (hX : Good X k) (hg : PG X (.Tuple [.Name x px, .Name y py] kt pt) (gTup X.K 2 (gCons (gName i) (gCons (gName j) gNil)))) (ha : EsO X T c1 a ρ Ω W1) (hb : ∀ s, EsO X T c2 b ρ (W1 s) (W2 s)) (hst : ∀ s u, Stb T (W2 s u)) (kk : ∀ s u, RX X T c3 rest ((ρ.set i s).set j u) (W2 s u) Ψ R) (hc : c1 + c2 + c3 ≤ c := by omega)
    (hs : swapsWithSole [.Tuple [.Name x px, .Name y py] kt pt] (.Tuple [a, b] k2 pt2) pos.line X.env = pure false := by rfl) (hw : swappedStores [.Tuple [.Name x px, .Name y py] kt pt] (.Tuple [a, b] k2 pt2) X.env = pure none := by rfl)
    (h1 : (assignEach [.Tuple [.Name x px, .Name y py] kt pt] X.env).map (·.2) = [assign (.Tuple [.Name x px, .Name y py] kt pt) X.env] := by rfl)
    (h2 : starEach [a, b] X.env = (false, eval a X.env) :: starEach [b] X.env := by exact se_cons rfl) (h3 : starEach [b] X.env = (false, eval b X.env) :: starEach [] X.env := by exact se_cons rfl) :
    RX X T c (.Assign [.Tuple [.Name x px, .Name y py] kt pt] (.Tuple [a, b] k2 pt2) pos :: rest) ρ Ω Ψ R := fun G0 H0 n0 c0 N σ H n om pr po hn D q1 q2 => by
  refine WSs.of (pss_cons (ps_asg (pe_tup (pa_cons (we a) (pa_cons (we b) pa_nil h3) h2)) hg hs hw h1) (wss rest)) ?_
  refine ha G0 H0 n0 c0 N σ H n om pr po (by have := po.le; omega) _ fun v s N1 H1 n1 w1 so1 ex1 p1 o1 le1 => ?_
  refine hb s G0 H0 n0 (c0 + c1) N1 σ H1 n1 w1 p1 o1 (by have := o1.le; omega) _ fun u s2 N2 H2 n2 w2 so2 ex2 p2 o2 le2 => ?_
  refine ⟨by show 2 ≤ sizeLine; decide, fun l hl => ?_⟩
  have hN : N2 l = none := p2.ex.back hl
  have g : Gr T N2 H2 N2 (upd H2 l (.tup [v, u])) := ⟨Ex.refl N2, fun _ _ z => .inl z, p2.ex.mut hN, fun b o _ z => Ex.new hl b o z, fun b o z => ⟨o, Ex.new hl b o z⟩⟩
  have o3 : Po T N2 H2 n2 0 N2 (upd H2 l (.tup [v, u])) n2 := ⟨g, fun b hb => by
    obtain ⟨z1, x, y, w, z2, z3⟩ := p2.tin b hb
    exact ⟨z1, x, y, w, Ex.new hl b _ z2, z3⟩, by omega⟩
  have p3 := p2.next o3
  refine ⟨l, [v, u], rfl, SqT.of upd_same, rfl, v, [u], rfl, u, [], rfl, rfl, ?_⟩
  exact kk s s2 G0 H0 n0 (c0 + c1 + c2 + 0) N2 _ _ n2 (hst s s2 _ _ _ _ _ w2 g) ⟨(p3.env.put i (so1.mono ex2)).put j so2, p3.ex, p3.tin⟩ (o2.trans o3) (by omega) D (fun ρ' N' σ' H' n' s pr po => q1 ρ' N' σ' H' n' s pr (po.weak (by omega))) (fun v d N' H' n' hr r po => q2 v d N' H' n' hr r (po.weak (by omega)))
/-! ### [tuple(sorted(d[k])) for k in d] -/
theorem lc_dict {scope : Scope} {own : List (Str × Nat)} {i j : Nat} {x y : Str} {p : Addr} {kvs : List (L2.Key × V)} {gs : List (List Int)} {xp yp p1 p2 p3 p4 p5 p6 p7 : Pos} (hX : Good X k) (ok : BlkOk X.N X.env.scope scope own) (hi : X.N[i]? = some x) (hj : X.N[j]? = some y) (hij : i ≠ j)
    (hown : own.map (·.2) = [j]) (hjl : j < ρ.length) (hρ : ρ[i]? = some (.raw (.ref p))) (hvx : Vis X.env.scope x) (hvx2 : ∀ (s : Shared) (H : Hp) (C : Addr) (cl : List (Str × Addr)) (fp : List Addr), Vis (X.blk s H scope (compEnvC scope cl C X.env) fp).env.scope x) (hvy : ∀ (s : Shared) (H : Hp) (C : Addr) (cl : List (Str × Addr)) (fp : List Addr), Vis (X.blk s H scope (compEnvC scope cl C X.env) fp).env.scope y)
    (hkeys : ∀ kv ∈ kvs, ∃ z : Int, kv.1 = .inl z) (h1000 : kvs.length ≤ 1000) (hg64 : ∀ g ∈ gs, g.length < 64)
    (hgt : ∀ (s : Shared) (H : Hp) (C : Addr) (cl : List (Str × Addr)) (fp : List Addr), Gl (X.blk s H scope (compEnvC scope cl C X.env) fp) "tuple") (hgs : ∀ (s : Shared) (H : Hp) (C : Addr) (cl : List (Str × Addr)) (fp : List Addr), Gl (X.blk s H scope (compEnvC scope cl C X.env) fp) "sorted")
    (hpg : ∀ (s : Shared) (H : Hp) (C : Addr) (cl : List (Str × Addr)) (fp : List Addr), PG (X.blk s H scope (compEnvC scope cl C X.env) fp) (.Name y yp) (gName j))
    (dx : (x == ("__debug__" : Str)) = false) (dx2 : (x == ("__classdict__" : Str)) = false) (dy : (y == ("__debug__" : Str)) = false) (dy2 : (y == ("__classdict__" : Str)) = false)
    {N H : Hp} {σ : Sg} (en : EnvOk none N σ ρ) (ex : Ex N H) (np : N p = none) (hH : H p = some (.dK kvs)) (rv : RpA N (kvs.map (·.2)) (gs.map tupI))
    (Q : VK) (q : ∀ v (hs : List (List Int)) N' H', hs.length = kvs.length → (∀ h ∈ hs, ∃ g ∈ gs, h.Perm g) → Gr none N H N' H' → Rp N' v (.list (hs.map tupI)) → Q v H') {spos : Pos} (hs : ∀ z, foldedSetIterable (.Name x xp) X.env z = pure z := by intro _; rfl) :
    WE X (.ListComp (.Call (.Name "tuple" p1) [.Call (.Name "sorted" p2) [.Subscript (.Name x p3) (.Name y p4) p5] [] p6] [] p7) [⟨.Name y yp, .Name x xp, [], 0⟩] scope spos) σ H Q := by
  refine WE.of (pe_lock (pe_lc (te := teB X scope _) hX.calm hX.nd (wi _ _) ok hpg (fun _ _ _ _ _ => pts_nil) (fun s H C cl fp => ⟨fun pins s' σ H' Q I h => (h s H C cl fp).go pins s' I⟩) hs)) ?_
  refine ⟨p, .dK kvs, hH, True.intro, fun od => ?_⟩
  rw [hown]
  refine WI.of (pi_keys (pe_var hi hvx dx dx2)) ?_
  refine ⟨.ref p, en.rawAt hρ, p, od, rfl, .inl ⟨kvs, upd_same, ?_⟩⟩
  intro D hD
  have hpD : D ≠ p := fun z => by rw [z, upd_same] at hD; cases hD
  have hHD : H D = none := by rw [upd_ne hpD] at hD; exact hD
  have nD : N D = none := ex.back hHD
  refine ⟨fun i m Hc => m = kvs.length - i ∧ i ≤ kvs.length ∧ ∃ (M : Hp) (vs : List V) (hs : List (List Int)), Gr none N (upd H p (.frz od (.dK kvs))) M Hc ∧ M p = none ∧ M D = none ∧ Hc p = some (.frz od (.dK kvs)) ∧ Hc D = some (.lst vs) ∧ RpA M vs (hs.map tupI) ∧ hs.length = i ∧ ∀ h ∈ hs, ∃ g ∈ gs, h.Perm g, ⟨kvs.length, rfl, Nat.zero_le _, N, [], [], ?_, np, nD, ?_, upd_same, .nil, rfl, fun h z => absurd z (by simp)⟩, ?_⟩
  · refine ⟨Ex.refl N, fun _ _ z => .inl z, (ex.mut np).mut nD, fun a o _ z => Ex.new hD a o z, fun a o z => ⟨o, Ex.new hD a o z⟩⟩
  · rw [upd_ne hpD.symm]; exact upd_same
  · rintro i' m Hc ⟨rfl, hi', M, vs, hs, gr, mp, mD, hcp, hcD, rvs, hlen, hall⟩
    by_cases hlt : i' < kvs.length
    · refine .inr ⟨⟨hcp, hlt⟩, fun Hc => i' + 1 ≤ kvs.length ∧ ∃ (M : Hp) (vs : List V) (hs : List (List Int)), Gr none N (upd H p (.frz od (.dK kvs))) M Hc ∧ M p = none ∧ M D = none ∧ Hc p = some (.frz od (.dK kvs)) ∧ Hc D = some (.lst vs) ∧ RpA M vs (hs.map tupI) ∧ hs.length = i' + 1 ∧ ∀ h ∈ hs, ∃ g ∈ gs, h.Perm g, fun H' h' => ⟨kvs.length - (i' + 1), by omega, rfl, h'⟩, fun x' H' yl => ?_⟩
      obtain ⟨rfl, kq, v0, hkv, rfl⟩ := yl
      obtain ⟨z, hz⟩ := hkeys _ (List.mem_of_getElem? hkv)
      have hz' : kq = .inl z := hz
      subst hz'
      have en2 : EnvOk none M (wipe σ [j]) (wipeS ρ [j]) := (en.mono gr.gn).wipe _
      have en3 := en2.set j (v := .int z) (d := .int z) (.int z)
      refine ⟨by rw [wipe_set (by simp), wipe_wipe], ?_⟩
      unfold tYes
      refine iteT ?_
      intro s H0 C cl fp
      have hu : (X.blk s H0 scope (compEnvC scope cl C X.env) fp).A.units + 1 < cLine := by have := hX.room.un; show X.A.units + 1 < cLine; omega
      refine WE.of (pe_callTy (wc _) (hgt s H0 C cl fp) hX.bt.tuple PyProof.Rows.boot_tuple (pa_cons (pe_callB (wc _) (hgs s H0 C cl fp) hX.bt.sorted PyProof.Rows.boot_sorted (pa_cons (pe_dget hu (pe_var hi (hvx2 s H0 C cl fp) dx dx2) (pe_var hj (hvy s H0 C cl fp) dy dy2) (fun _ _ => rfl)) pa_nil (se_cons rfl)) (by decide) (by decide) (se_cons rfl) rfl) pa_nil (se_cons rfl)) (by decide) (by decide) (se_cons rfl) rfl) ?_
      obtain ⟨v1, hv1⟩ := valV_some hkv
      have hraw : ((wipeS ρ [j]).set j (.dat (.int z)))[i]? = some (.raw (.ref p)) := by
        show ((ρ.set j .no).set j _)[i]? = _
        rw [List.getElem?_set_ne hij.symm, List.getElem?_set_ne hij.symm]
        exact hρ
      have hdat : ((wipeS ρ [j]).set j (.dat (.int z)))[j]? = some (.dat (.int z)) := List.getElem?_set_self (by
        show j < (ρ.set j .no).length
        rw [List.length_set]
        exact hjl)
      obtain ⟨vj, ej, rj⟩ := en3.get hdat
      cases rj
      refine ⟨.ref p, en3.rawAt hraw, .int z, ej, p, v1, rfl, .inl ⟨kvs, .inl z, .inr ⟨od, hcp⟩, rfl, hv1.symm⟩, ?_⟩
      have rvM : RpA M (kvs.map (·.2)) (gs.map tupI) := rv.mono gr.gn
      obtain ⟨d, hdm, rd⟩ := rpa_mem rvM (valV_mem hv1)
      obtain ⟨g, hg, rfl⟩ := List.mem_map.mp hdm
      refine c_sortedT (hg64 g hg) M H' _ gr.nh (.cons rd .nil) _ fun v2 d2 N2 H2 e2 g2 r2 => ?_
      obtain ⟨ms, rfl, hp⟩ := e2
      refine c_tupleL N2 H2 _ g2.nh (.cons r2 .nil) _ fun v3 d3 N3 H3 e3 g3 r3 => ?_
      subst e3
      have g23 := g2.trans g3
      have hD3 : H3 D = some (.lst vs) := g23.ex D _ hcD
      have mD3 : N3 D = none := g23.none_of mD hcD
      have hp3 : H3 p = some (.frz od (.dK kvs)) := g23.ex p _ hcp
      have mp3 : N3 p = none := g23.none_of mp hcp
      refine ⟨vs, hD3, by rw [rvs.length, List.length_map, sizeLine_eq]; omega, hlt, N3, vs ++ [v3], hs ++ [ms], ?_, mp3, mD3, by rw [upd_ne hpD.symm]; exact hp3, upd_same, ?_, by rw [List.length_append, hlen]; rfl, fun h hm => ?_⟩
      · have gr3 := gr.trans g23
        exact ⟨gr3.gn, gr3.fr, gr3.nh.mut mD3, fun a o t z => by rw [upd_ne (ne_of_none z hD)]; exact gr3.ex a o z, fun a o z => ⟨o, by rw [upd_ne (ne_of_none z hD)]; exact gr3.ex a o z⟩⟩
      · rw [List.map_append]
        exact (rvs.mono g23.gn).append (.cons r3 .nil)
      · rcases List.mem_append.mp hm with h1 | h1
        · exact hall h h1
        · rw [List.mem_singleton.mp h1]
          exact ⟨g, hg, hp⟩
    · have ei : i' = kvs.length := by omega
      subst ei
      refine .inl ⟨⟨hcp, Nat.le_refl _⟩, hcp, ?_⟩
      have back : ∀ a o, (upd H p (.frz od (.dK kvs))) a = some o → a ≠ p → H a = some o := fun a o z w => by rw [upd_ne w] at z; exact z
      refine q (.ref D) hs (upd M D (.lst vs)) _ hlen hall ⟨fun a o z => Ex.new mD a o (gr.gn a o z), fun a o z => ?_, fun a o z => ?_, fun a o _ z => ?_, fun a o z => ?_⟩ (.lst upd_same (rvs.mono (Ex.new mD)))
      · by_cases w : a = D
        · exact .inr (by rw [w]; exact hHD)
        · rw [upd_ne w] at z
          rcases gr.fr a o z with y | y
          · exact .inl y
          · by_cases w2 : a = p
            · rw [w2, mp] at z; cases z
            · rw [upd_ne w2] at y; exact .inr y
      · by_cases w2 : a = p
        · rw [w2, upd_ne hpD.symm, mp] at z; cases z
        · rw [upd_ne w2]
          by_cases w : a = D
          · rw [w, upd_same] at z; rw [w, hcD]; exact z
          · rw [upd_ne w] at z; exact gr.nh a o z
      · by_cases w2 : a = p
        · rw [w2] at z ⊢; rw [upd_same, ← z, hH]
        · rw [upd_ne w2]; exact gr.ex a o (by rw [upd_ne w2]; exact z)
      · by_cases w2 : a = p
        · exact ⟨_, by rw [w2]; exact upd_same⟩
        · exact ⟨o, by rw [upd_ne w2]; exact gr.ex a o (by rw [upd_ne w2]; exact z)⟩
end
end Pn

set_option Elab.async false
set_option linter.all false
set_option maxRecDepth 100000
set_option maxHeartbeats 1000000
/-! PnQ: parted. -/
namespace Pn
open PySem PySem.Spec PyProof.Rows L2

def F_parted : List PyData → (PyData → Prop) → Prop := fun ds R => ∃ S rows L most, ds = [layD S rows, .int most] ∧ Lay S rows L ∧ rows.length ≤ 7 ∧ 1 ≤ most ∧ most ≤ 1000 ∧ R = fun d => ∃ split : List (List Int), d = tupII split ∧ split ≠ [] ∧ split.length ≤ 7 ∧ (∀ g ∈ split, Grp rows g) ∧ split.flatten.length < 64
theorem eso_dnew {X : Cx} {T : Option Addr} {c : Nat} {ρ : List Sl} {Ω : Om} {pos : Pos} (st : Stb T Ω) : EsO X T c (.Dict [] [] pos) ρ Ω (fun s H0 N H => ∃ p, (s = .raw (.ref p)) ∧ OwnD T p [] [] H0 N H ∧ Ω H0 N H) := fun G0 H0 n0 c0 N σ H n om pr po hn Q q => by
  refine WE.of pe_dnewK fun p hp => ?_
  have hp0 : H0 p = none := by
    cases z : H0 p with
    | none => rfl
    | some o =>
      obtain ⟨o', e'⟩ := po.gr.ht p o z
      rw [hp] at e'
      cases e'
  have hN : N p = none := pr.ex.back hp
  have g : Gr T N H N (upd H p (.dK [])) := ⟨Ex.refl N, fun _ _ z => .inl z, pr.ex.mut hN, fun b o _ z => Ex.new hp b o z, fun b o z => ⟨o, Ex.new hp b o z⟩⟩
  have o1 : Po T N H n c N (upd H p (.dK [])) n := ⟨g, fun b hb => by
    obtain ⟨z1, x, y, w, z2, z3⟩ := pr.tin b hb
    exact ⟨z1, x, y, w, Ex.new hp b _ z2, z3⟩, by omega⟩
  exact q (.ref p) (.raw (.ref p)) N _ n ⟨p, rfl, ⟨pr.tin.ne hp, hp0, hN, upd_same, .nil⟩, st _ _ _ _ _ om g⟩ rfl (Ex.refl N) (pr.next o1) (po.trans o1) (by omega)
theorem split_flat {gs : List (List Int)} {a b : Nat} (h1 : gs.length ≤ a) (h2 : ∀ g ∈ gs, g.length ≤ b) : gs.flatten.length ≤ a * b := by
  induction gs generalizing a with
  | nil => simp
  | cons g gs ih =>
    cases a with
    | zero => simp at h1
    | succ a =>
      have h3 := ih (a := a) (by simpa using h1) (fun g hg => h2 g (List.mem_cons_of_mem _ hg))
      have h4 := h2 g List.mem_cons_self
      rw [List.flatten_cons, List.length_append, Nat.succ_mul]
      omega
section
variable {P : Program} {w : World} {K : PySem.W.Frag} {mg : Str → Option Value} {base : Heap} {f : Addr} {fd : FuncData}
theorem dn_parted (hB : Bt mg) (D : Dn P w K mg base 1 "_law_take" p_take (spT 1 F_take)) (D1 : Dn P w K mg base 2 "_law_pick" p_pick (spT 1000 F_pick)) (hf : FnP K "_law_parted" s_parted f fd) (hm : mg "_law_parted" = some (.ref f)) : Dn P w K mg base 3 "_law_parted" p_parted (spT 2000 F_parted) := by
  refine dn_draw hf hm hB sc_parted (hf.bindsN fun _ _ _ _ _ _ us hl => match us, hl with | [_, _, _], _ => rfl) (fun ds R h => ?_) (fun cdv A0 outer s H X0 gd a ds R h => ?_)
  · obtain ⟨S, rows, L, most, rfl, _⟩ := h
    rfl
  · obtain ⟨S, rows, L, most, rfl, hL, hr7, hm1, hm2, rfl⟩ := h
    have hr1 : 1 ≤ rows.length := List.length_pos_iff.mpr hL.ne
    have hpan : rangeD 0 rows.length = ((List.range rows.length).map fun (i : Nat) => (i : Int)).map PyData.int := by rw [rangeD0, List.map_map]; rfl
    generalize hP : ((List.range rows.length).map fun (i : Nat) => (i : Int)) = panes at hpan
    have hpl : panes.length = rows.length := by rw [← hP]; simp
    have hpm : ∀ x ∈ panes, 0 ≤ x ∧ x < rows.length := fun x hx => by
      rw [← hP] at hx
      obtain ⟨i, hi, rfl⟩ := List.mem_map.mp hx
      have := List.mem_range.mp hi
      omega
    have hml : (panes.map PyData.int).length = rows.length := by rw [List.length_map, hpl]
    have hlr : (rows.map tupI).length = rows.length := List.length_map ..
    refine rx_start (Ω := fun _ _ _ => True) (Ψ := fun _ _ _ _ => False) ?_ (fun _ _ => True.intro) (fun _ _ _ _ h => h.elim)
    refine rx_tupS (c1 := 0) (c2 := 0) (c3 := 2000) (i := 3) (j := 4) gd (pg_tup gd.calm (pgs_cons (pg_name (i := 3) gd.nd rfl (.inr rfl)) (pgs_cons (pg_name (i := 4) gd.nd rfl (.inl rfl)) pgs_nil))) (eso_dnew (c := 0) Stb.triv) (W2 := fun s u H0 N H => ∃ p, (s = .raw (.ref p) ∧ u = .dat (lstI panes)) ∧ OwnD (some a) p [] [] H0 N H) (fun s => ?_) (fun _ _ => Stb.ex fun _ => Stb.and OwnD.stb) (fun s u => ?_) (by omega)
    · refine fun G0 H0 n0 c0 N σ H n om pr po hn Q q => ?_
      obtain ⟨p, rfl, ow, _⟩ := om
      refine eso_ev (Ω := OwnD (some a) p [] []) (P := fun z => z = lstI panes) OwnD.stb (Ev.o (Ev.lift (c := 0) (Ev.to (e_listRange1 (n := (rows.map tupI).length) gd (by rfl) (by rfl) (e_lenT gd (e_ix (nm 1) e_int (d := .tuple (rows.map tupI)) (bx_tup rfl))) (by omega) (by rw [hlr]; omega)) ?_))) G0 H0 n0 c0 N σ H n ow pr po hn Q fun v s N' H' n' h => q v s N' H' n' ?_
      · rw [hlr]
        show PyData.list (rangeD 0 rows.length) = lstI panes
        rw [hpan]
        rfl
      · obtain ⟨⟨d, rfl, rfl⟩, h2⟩ := h
        exact ⟨p, ⟨rfl, rfl⟩, h2⟩
    refine rx_ex fun p => rx_and fun ⟨h1, h2⟩ => ?_
    subst h1 h2
    refine rx_forO (α := Int) (c1 := 1001) (c2 := 1) (c3 := 0) (Pd := fun z => ∃ fs : List Int, z = fs.map .int ∧ fs ≠ [] ∧ fs.length ≤ panes.length ∧ ∀ x ∈ fs, x ∈ panes) gd .never (pg_name (i := 5) gd.nd rfl (.inl rfl)) OwnD.stb
      (Ei.o (ei_list (Ev.mono (ev_callT (c1 := 1) (c2 := 1000) (P := fun d => ∃ fs : List Int, d = lstI fs ∧ fs ≠ [] ∧ fs.length ≤ panes.length ∧ ∀ x ∈ fs, x ∈ panes) D1 gd (by decide) (by rfl) (i := 0) rfl (.inl rfl) rfl rfl (ea_cons (c1 := 0) (c2 := 1) (Ev.lift (nm 4)) (fun _ _ => ea_cons (c1 := 1) (c2 := 0) (P1 := fun z => ∃ m : Int, z = .int m ∧ 1 ≤ m ∧ m ≤ 1000) (ev_bin (c1 := 0) (c2 := 1) (P2 := fun _ z => ∃ m : Int, z = .int m ∧ 0 ≤ m ∧ m < (panes.map PyData.int).length) (Ev.lift e_int) (fun _ _ => ev_take D gd (by decide) (e_lenL gd (nm 4)) (by omega) (by omega)) (fun d1 d2 e1 ⟨m, e2, h3, h4⟩ => ⟨_, ⟨1 + m, rfl, by omega, by omega⟩, by rw [e1, e2]; exact b2_add⟩)) (fun _ _ => ea_nil)))
        (fun ds h => ?_)) (fun d ⟨fs, e, h⟩ => ⟨fs.map .int, ⟨fs, rfl, h⟩, e⟩) (Nat.le_refl _)))) rows.length (fun ds e => ?_) (by omega)
    · obtain ⟨d, ds', rfl, rfl, d2, ds2, rfl, ⟨m, rfl, h3, h4⟩, rfl⟩ := h
      exact ⟨panes, m, rfl, h3, h4, by intro z; rw [z] at hpl; simp at hpl; omega, by omega, rfl⟩
    obtain ⟨fs, rfl, hfne, hfl, hfm⟩ := e
    refine ⟨PyData.int, fs, [5], fun x ρ => ρ.set 5 (.dat (.int x)), fun i ρ' H0 N H => ∃ (kvs : List (L2.Key × V)) (gs : List (List Int)), ((∀ kv ∈ kvs, ∃ z : Int, kv.1 = .inl z) ∧ gs.length ≤ i ∧ (i ≠ 0 → gs ≠ []) ∧ (∀ g ∈ gs, 1 ≤ g.length ∧ g.length ≤ i ∧ ∀ x ∈ g, x ∈ panes) ∧ ∃ x y, ρ' = [.tin, .dat (layD S rows), .dat (.int most), .raw (.ref p), .dat (lstI panes), x, y]) ∧ OwnD (some a) p kvs gs H0 N H, rfl, by omega, fun _ _ => gok_name, fun _ _ => Stb.ex fun _ => Stb.ex fun _ => Stb.and OwnD.stb, fun _ _ _ h => ⟨[], [], ⟨fun _ h => absurd h (by simp), Nat.le_refl _, fun h => absurd rfl h, fun _ h => absurd h (by simp), _, _, rfl⟩, h⟩, fun i x ρ' hx => ?_, fun ρ' => ?_⟩
    · refine rx_ex fun kvs => rx_ex fun gs => rx_and fun ⟨hk, hgl, hgne, hgs, x1, x2, hρ⟩ => ?_
      subst hρ
      have hxm : x ∈ panes := hfm x (List.mem_of_getElem? hx)
      obtain ⟨hil, _⟩ := List.getElem?_eq_some_iff.mp hx
      refine rx_asgO (c1 := 1) (c2 := 0) (i := 6) (P := fun z => ∃ i : Int, z = .int i) gd rfl OwnD.stb (Ev.o (Ev.mono (ev_take D gd (by decide) (nm 2) hm1 (by omega)) (fun d ⟨i, e, _⟩ => ⟨i, e⟩) (Nat.le_refl _))) fun d e => ?_
      obtain ⟨kq, rfl⟩ := e
      refine rx_pure (φ := kvs.length = gs.length) (fun H0 N H h => by have := h.2.2.2.2.length; rw [List.length_map, List.length_map] at this; exact this) fun hkl => ?_
      refine rx_dput (c1 := 0) (c2 := 0) (i := 3) (j := kq) (Pg := fun g => 1 ≤ g.length ∧ g.length ≤ i + 1 ∧ ∀ y ∈ g, y ∈ panes) gd rfl rfl OwnD.stb (fun _ _ _ h => ⟨h.fre, h.2.2.2.1⟩) (by omega) (nm 6) (evo_bin (P1 := fun z => ∃ g, z = tupI g ∧ (g = [] ∨ g ∈ gs)) OwnD.stb (evo_dget (i := 3) gd rfl rfl OwnD.stb (fun _ _ _ h => h) (nm 6) ⟨rfl, rfl, rfl, rfl⟩) (e_tup (a_cons (nm 5) a_nil)) (fun d1 e1 => ?_)) fun g v hg => ?_
      · obtain ⟨g, rfl, hg⟩ := e1
        have hgb : g.length ≤ i ∧ ∀ y ∈ g, y ∈ panes := by
          rcases hg with rfl | hg
          · exact ⟨Nat.zero_le _, fun _ h => absurd h (by simp)⟩
          · exact ⟨(hgs g hg).2.1, (hgs g hg).2.2⟩
        refine ⟨tupI (g ++ [x]), ⟨g ++ [x], rfl, by simp, by simp; omega, fun y hy => ?_⟩, ?_⟩
        · rcases List.mem_append.mp hy with h | h
          · exact hgb.2 y h
          · rw [List.mem_singleton.mp h]; exact hxm
        · have e := b2_catT (X := cxD P w K mg base n_parted "_law_parted" (defScope s_parted) f cdv A0 outer s H X0) (xs := g.map .int) (ys := [.int x]) (by simp; omega)
          show B2 _ _ _ _ (.tuple ((g ++ [x]).map .int))
          rw [List.map_append]
          exact e
      · refine rx_nil fun H0 N H h => ?_
        obtain ⟨H1, rfl, ⟨t1, t2, t3, t4, t5⟩, rv⟩ := h
        obtain ⟨gs', r', hne', hlen', hmem'⟩ := putK_rpa rv (k := .inl kq) t5
        refine ⟨putK kvs (.inl kq) v, gs', ⟨fun kv hkv => ?_, by omega, fun _ => hne', fun g' hg' => ?_, _, _, rfl⟩, t1, t2, t3, upd_same, r'⟩
        · unfold putK at hkv
          split at hkv
          · obtain ⟨kv0, h0, rfl⟩ := List.mem_map.mp hkv
            split
            · exact hk kv0 h0
            · exact hk kv0 h0
          · rcases List.mem_append.mp hkv with h | h
            · exact hk kv h
            · rw [List.mem_singleton.mp h]; exact ⟨kq, rfl⟩
        · rcases hmem' g' hg' with rfl | h
          · exact hg
          · have := hgs g' h
            exact ⟨this.1, by omega, this.2.2⟩
    · refine rx_ex fun kvs => rx_ex fun gs => rx_and fun ⟨hk, hgl, hgne, hgs, x1, x2, hρ⟩ => ?_
      subst hρ
      have hfpos := List.length_pos_iff.mpr hfne
      refine fun G0 H0 n0 c0 N σ H n om pr po hn Dd q1 q2 => ?_
      obtain ⟨t1, t2, t3, t4, t5⟩ := om
      have hkl : kvs.length = gs.length := by have := t5.length; rw [List.length_map, List.length_map] at this; exact this
      refine WSs.of (pss_cons (ps_ret (pe_callTy (wc _) (by rfl) gd.bt.tuple PyProof.Rows.boot_tuple (pa_cons (pe_callB (wc _) (by rfl) gd.bt.sorted PyProof.Rows.boot_sorted (pa_cons (we _) pa_nil (se_cons rfl)) (by decide) (by decide) (se_cons rfl) rfl) pa_nil (se_cons rfl)) (by decide) (by decide) (se_cons rfl) rfl)) pss_never) ?_
      refine lc_dict (own := [("_law_k", 6)]) (i := 3) (j := 6) gd (blkOk_by (by show blkC n_parted (defScope s_parted) _ _ = true; decide +kernel)) rfl rfl (by decide) rfl (by simp) rfl (by first | exact Or.inl rfl | exact Or.inr (Or.inl rfl) | exact Or.inr (Or.inr rfl)) (fun _ _ _ _ _ => by first | exact Or.inl rfl | exact Or.inr (Or.inl rfl) | exact Or.inr (Or.inr rfl)) (fun _ _ _ _ _ => by first | exact Or.inl rfl | exact Or.inr (Or.inl rfl) | exact Or.inr (Or.inr rfl)) hk (by omega) (fun g hg => by have := (hgs g hg).2.1; omega) (fun _ _ _ _ _ => by rfl) (fun _ _ _ _ _ => by rfl) (fun _ _ _ _ _ => pg_own gd.nd rfl (.inl rfl) (fun z => by cases z)) (by decide) (by decide) (by decide) (by decide) pr.env.toNone pr.ex t3 t4 t5 _ fun v hs N1 H1 hlen hall g1 r1 => ?_
      have hallB : ∀ h ∈ hs, 1 ≤ h.length ∧ h.length ≤ 7 ∧ ∀ y ∈ h, y ∈ panes := fun h hh => by
        obtain ⟨g, hg, hp⟩ := hall h hh
        obtain ⟨b1, b2, b3⟩ := hgs g hg
        have := hp.length_eq
        exact ⟨by omega, by omega, fun y hy => b3 y (hp.mem_iff.mp hy)⟩
      refine c_sortedV (gs := hs) (by omega) (fun g hg => ?_) N1 H1 _ g1.nh (.cons r1 .nil) _ fun v2 d2 N2 H2 e2 g2 r2 => ?_
      · obtain ⟨b1, b2, b3⟩ := hallB g hg
        exact ⟨b1, by omega, fun y hy => by have := hpm y (b3 y hy); omega⟩
      obtain ⟨ks, rfl, hperm⟩ := e2
      refine c_tupleL N2 H2 _ g2.nh (.cons r2 .nil) _ fun v3 d3 N3 H3 e3 g3 r3 => ?_
      subst e3
      have g123 : Gr (some a) N H N3 H3 := ((g1.trans g2).trans g3).lift
      refine q2 v3 _ N3 H3 n ⟨ks, rfl, ?_, ?_, ?_, ?_⟩ r3 ((po.trans (Po.pure (c := 0) pr.tin ((g1.trans g2).trans g3))).weak (by omega))
      · intro z
        rw [z] at hperm
        have := hperm.length_eq
        have h0 : gs.length ≠ 0 := fun z => hgne (by omega) (List.eq_nil_of_length_eq_zero z)
        simp at this
        omega
      · have := hperm.length_eq
        omega
      · intro g hg
        obtain ⟨b1, b2, b3⟩ := hallB g (hperm.mem_iff.mp hg)
        exact ⟨by omega, fun y hy => hpm y (b3 y hy)⟩
      · have h1 := split_flat (gs := ks) (a := 7) (b := 7) (by have := hperm.length_eq; omega) (fun g hg => (hallB g (hperm.mem_iff.mp hg)).2.1)
        omega
end
end Pn

set_option Elab.async false
set_option linter.all false
set_option maxRecDepth 100000
set_option maxHeartbeats 1000000
/-! PnR: rows of one's own: a list of lists that all are written. -/
namespace Pn
open PySem PySem.Spec PyProof.Rows L2

theorem nodup_at {α : Type} {l : List α} (h : l.Nodup) {i j : Nat} {a : α} (h1 : l[i]? = some a) (h2 : l[j]? = some a) : i = j := by
  obtain ⟨hi, e1⟩ := List.getElem?_eq_some_iff.mp h1
  obtain ⟨hj, e2⟩ := List.getElem?_eq_some_iff.mp h2
  have p := List.pairwise_iff_getElem.mp h
  rcases Nat.lt_trichotomy i j with z | z | z
  · exact absurd (e1.trans e2.symm) (p i j hi hj z)
  · exact z
  · exact absurd (e2.trans e1.symm) (p j i hj hi z)
structure Rws (T : Option Addr) (p : Addr) (qs : List Addr) (iss : List (List Int)) (H0 N H : Hp) : Prop where
  nd : (p :: qs).Nodup
  fr : ∀ a ∈ p :: qs, T ≠ some a ∧ H0 a = none ∧ N a = none
  hp : H p = some (.lst (qs.map .ref))
  hq : ∀ (i : Nat) (q : Addr) (is : List Int), qs[i]? = some q → iss[i]? = some is → H q = some (.lst (is.map .int))
  len : qs.length = iss.length
section
variable {T : Option Addr} {p : Addr} {qs : List Addr} {iss : List (List Int)} {H0 N H : Hp}
theorem Rws.some_of (r : Rws T p qs iss H0 N H) {a : Addr} (h : a ∈ p :: qs) : ∃ o, H a = some o := by
  rcases List.mem_cons.mp h with h | h
  · rw [h]; exact ⟨_, r.hp⟩
  · obtain ⟨i, hi⟩ := List.mem_iff_getElem?.mp h
    have hl : i < iss.length := by rw [← r.len]; exact (List.getElem?_eq_some_iff.mp hi).1
    exact ⟨_, r.hq i a _ hi (List.getElem?_eq_getElem hl)⟩
theorem Rws.fre (r : Rws T p qs iss H0 N H) : ∀ a ∈ p :: qs, Fre T H0 N H a := fun a h => ⟨(r.fr a h).1, (r.fr a h).2.1, (r.fr a h).2.2, r.some_of h⟩
theorem Rws.stb : Stb T (Rws T p qs iss) := fun H0 N H N' H' r g => ⟨r.nd, fun a h => ⟨(r.fr a h).1, (r.fr a h).2.1, by
  obtain ⟨o, e⟩ := r.some_of h
  exact g.none_of (r.fr a h).2.2 e⟩, g.hh p _ (r.fr p List.mem_cons_self).1 r.hp, fun i q is e1 e2 => g.hh q _ (r.fr q (List.mem_cons_of_mem _ (List.mem_of_getElem? e1))).1 (r.hq i q is e1 e2), r.len⟩
theorem Rws.upd_ne (r : Rws T p qs iss H0 N H) {a : Addr} {o : HO} (h : a ∉ p :: qs) : Rws T p qs iss H0 N (upd H a o) := ⟨r.nd, r.fr, by rw [L2.upd_ne (fun z => h (by rw [← z]; exact List.mem_cons_self))]; exact r.hp, fun i q is e1 e2 => by rw [L2.upd_ne (fun z => h (by rw [← z]; exact List.mem_cons_of_mem _ (List.mem_of_getElem? e1)))]; exact r.hq i q is e1 e2, r.len⟩
theorem Rws.own (r : Rws T p qs iss H0 N H) {i : Nat} {q : Addr} {is : List Int} (e1 : qs[i]? = some q) (e2 : iss[i]? = some is) : Own T q (is.map .int) H0 N H := ⟨(r.fr q (List.mem_cons_of_mem _ (List.mem_of_getElem? e1))).1, (r.fr q (List.mem_cons_of_mem _ (List.mem_of_getElem? e1))).2.1, (r.fr q (List.mem_cons_of_mem _ (List.mem_of_getElem? e1))).2.2, _, r.hq i q is e1 e2, RpA.ints is⟩
/-- one row written -/
theorem Rws.write (r : Rws T p qs iss H0 N H) {i : Nat} {q : Addr} {js : List Int} (e1 : qs[i]? = some q) : Rws T p qs (iss.set i js) H0 N (upd H q (.lst (js.map .int))) := by
  have hqp : p ≠ q := fun z => (List.nodup_cons.mp r.nd).1 (by rw [z]; exact List.mem_of_getElem? e1)
  refine ⟨r.nd, r.fr, by rw [L2.upd_ne hqp]; exact r.hp, fun i' q' is' e1' e2' => ?_, by rw [List.length_set]; exact r.len⟩
  by_cases z : i' = i
  · subst z
    rw [e1] at e1'
    cases e1'
    obtain ⟨hl, _⟩ := List.getElem?_eq_some_iff.mp e2'
    rw [List.length_set] at hl
    rw [List.getElem?_set_self hl] at e2'
    cases e2'
    exact upd_same
  · have hne : q' ≠ q := fun w => by
      subst w
      exact z (nodup_at (List.nodup_cons.mp r.nd).2 e1' e1)
    rw [List.getElem?_set_ne (Ne.symm z)] at e2'
    rw [L2.upd_ne hne]
    exact r.hq i' q' is' e1' e2'
end
section
variable {X : Cx} {T : Option Addr} {c c1 c2 k : Nat} {e iter : Expr} {ss rest : List Stmt} {ρ : List Sl} {Ω Ω' : Om} {Ψ : List Sl → Om} {R P : PyData → Prop} {pos : Pos} {p : Addr} {qs : List Addr} {iss : List (List Int)}
theorem rws_rpa {H0 N H M : Hp} (r : Rws T p qs iss H0 N H) (hM : ∀ a ∈ qs, M a = H a) : RpA M (qs.map .ref) (iss.map lstI) := by
  have key : ∀ (qs : List Addr) (iss : List (List Int)), qs.length = iss.length → (∀ (i : Nat) (q : Addr) (is : List Int), qs[i]? = some q → iss[i]? = some is → M q = some (.lst (is.map .int))) → RpA M (qs.map .ref) (iss.map lstI) := by
    intro qs
    induction qs with
    | nil =>
      intro iss hl _
      cases iss with
      | nil => exact .nil
      | cons _ _ => cases hl
    | cons q qs ih =>
      intro iss hl h
      cases iss with
      | nil => cases hl
      | cons is iss => exact .cons (.lst (h 0 q is rfl rfl) (RpA.ints is)) (ih iss (by simpa using hl) fun i q' is' e1 e2 => h (i + 1) q' is' e1 e2)
  exact key qs iss r.len fun i q is e1 e2 => by rw [hM q (List.mem_of_getElem? e1)]; exact r.hq i q is e1 e2
theorem rws_knows {i : Nat} (hi : ρ[i]? = some (.raw (.ref p))) (h : ∀ H0 N H, Ω H0 N H → Rws T p qs iss H0 N H) : Knows T Ω (p :: qs) ρ (ρ.set i (.dat (.list (iss.map lstI)))) := fun H0 N H om => by
  have r := h _ _ _ om
  refine ⟨r.fre, fun σ en => ?_⟩
  have e2 := en.set i (v := .ref p) (d := .list (iss.map lstI)) (.lst (by rw [addS_in List.mem_cons_self]; exact r.hp) (rws_rpa r fun a ha => addS_in (List.mem_cons_of_mem _ ha)))
  have z := en.rawAt hi
  have e : σ.set i (some (.ref p)) = σ := by
    refine List.ext_getElem? fun j => ?_
    by_cases q : i = j
    · subst q
      obtain ⟨hl, _⟩ := List.getElem?_eq_some_iff.mp z
      rw [List.getElem?_set_self hl, z]
    · rw [List.getElem?_set_ne q]
  rw [e] at e2
  exact e2
/-- from now on known -/
theorem rx_freezeS {S : List Addr} {ρ' : List Sl} (hk : Knows T Ω S ρ ρ') (h : Run X T c ss ρ' (fun _ => False) R) : RX X T c ss ρ Ω Ψ R := fun G0 H0 n0 c0 N σ H n om pr po hn D q1 q2 => by
  obtain ⟨hS, he⟩ := hk H0 N H om
  have p2 := view_pre hS pr
  exact h _ σ H n ⟨he σ p2.env, p2.ex, p2.tin⟩ (by have := po.le; omega) D (fun ρ' N' σ' H' n' f _ _ => f.elim) (fun v d N' H' n' hr r o => q2 v d N' H' n' hr r ((view_po hS pr po).trans o))
theorem rx_know {S : List Addr} {ρ' : List Sl} (hk : Knows T Ω S ρ ρ') (hΩ : ∀ H0 N H, Ω H0 N H → Ω' H0 (addS N H S) H) (h : RX X T c ss ρ' Ω' Ψ R) : RX X T c ss ρ Ω Ψ R := fun G0 H0 n0 c0 N σ H n om pr po hn D q1 q2 => by
  obtain ⟨hS, he⟩ := hk H0 N H om
  have p2 := view_pre hS pr
  exact h G0 H0 n0 c0 _ σ H n (hΩ _ _ _ om) ⟨he σ p2.env, p2.ex, p2.tin⟩ (view_po hS pr po) hn D q1 q2
/-- a slot forgotten -/
theorem EnvOk.forget {N : Hp} {σ : Sg} (en : EnvOk T N σ ρ) (i : Nat) : EnvOk T N σ (ρ.set i .no) := by
  refine ⟨by rw [List.length_set]; exact en.1, fun j s q => ?_⟩
  by_cases z : i = j
  · subst z
    have hl : i < ρ.length := by
      obtain ⟨h1, _⟩ := List.getElem?_eq_some_iff.mp q
      rw [List.length_set] at h1
      exact h1
    rw [List.getElem?_set_self hl] at q
    cases q
    exact ⟨_, List.getElem?_eq_getElem (by rw [en.1]; exact hl), True.intro⟩
  · rw [List.getElem?_set_ne z] at q
    exact en.2 j s q
theorem rx_forget (i : Nat) (h : RX X T c ss (ρ.set i .no) Ω Ψ R) : RX X T c ss ρ Ω Ψ R := fun G0 H0 n0 c0 N σ H n om pr po hn D q1 q2 => h G0 H0 n0 c0 N σ H n om ⟨pr.env.forget i, pr.ex, pr.tin⟩ po hn D q1 q2
/-- [[0] for y in iter] -/
theorem lc_rows {α : Type} {scope : Scope} {own : List (Str × Nat)} {j : Nat} {y : Str} {yp pc pl : Pos} {kc : Nat} (hX : Good X k) (enc : α → PyData) (xs : List α) (hl : xs.length ≤ 100000) (hi : Ei0 X (.Name y yp) iter ρ (xs.map enc)) (hown : own.map (·.2) = [j])
    {G H : Hp} {σ : Sg} {n : Nat} (pr : Pre none G σ ρ H n) (hn : n ≤ LIM) (Q : VK)
    (q : ∀ p qs N H', Gr none G H N H' → (p :: qs).Nodup → (∀ a ∈ p :: qs, H a = none ∧ N a = none) → qs.length = xs.length → H' p = some (.lst (qs.map .ref)) → (∀ a ∈ qs, H' a = some (.lst [.int 0])) → Q (.ref p) H') :
    tLc (WI X (.Name y yp) iter) (gName j) tYes (teB X scope (.List [.Constant (.int 0) kc pc] pl)) (own.map (·.2)) σ H Q := by
  rw [hown]
  refine hi G σ H n pr (by omega) _ fun ds J N H1 n1 e1 o1 wk => ?_
  subst e1
  have old : ∀ a, H1 a = none → H a = none := fun a z => by
    cases w : H a with
    | none => rfl
    | some o => rw [o1.gr.ex a o w] at z; cases z
  intro D hD
  have nD : N D = none := o1.gr.nh.back hD
  refine ⟨fun i m Hc => m = xs.length - i ∧ i ≤ xs.length ∧ ∃ (M : Hp) (qs : List Addr), Gr none N H1 M Hc ∧ (D :: qs).Nodup ∧ (∀ a ∈ D :: qs, H1 a = none ∧ M a = none) ∧ qs.length = i ∧ Hc D = some (.lst (qs.map .ref)) ∧ ∀ a ∈ qs, Hc a = some (.lst [.int 0]), ⟨xs.length, rfl, Nat.zero_le _, N, [], ?_, by simp, fun a ha => by rw [List.mem_singleton.mp ha]; exact ⟨hD, nD⟩, rfl, upd_same, fun a ha => absurd ha (by simp)⟩, ?_⟩
  · exact ⟨Ex.refl N, fun _ _ z => .inl z, o1.gr.nh.mut nD, fun a o _ z => Ex.new hD a o z, fun a o z => ⟨o, Ex.new hD a o z⟩⟩
  · rintro i m Hc ⟨rfl, hi', M, qs, gr, nd, hfr, hlen, hcD, hcq⟩
    by_cases hlt : i < xs.length
    · refine .inr ⟨wk.go Hc (gr.gn.trans gr.nh) i (by rw [List.length_map]; exact hlt), fun Hc => i + 1 ≤ xs.length ∧ ∃ (M : Hp) (qs : List Addr), Gr none N H1 M Hc ∧ (D :: qs).Nodup ∧ (∀ a ∈ D :: qs, H1 a = none ∧ M a = none) ∧ qs.length = i + 1 ∧ Hc D = some (.lst (qs.map .ref)) ∧ ∀ a ∈ qs, Hc a = some (.lst [.int 0]), fun H' h' => ⟨xs.length - (i + 1), by omega, rfl, h'⟩, fun x H' yl => ?_⟩
      have hxi : xs[i]? = some xs[i] := List.getElem?_eq_getElem hlt
      obtain ⟨N', gy, ry⟩ := wk.yld Hc (gr.gn.trans gr.nh) i (enc xs[i]) x H' (by rw [List.getElem?_map, hxi]; rfl) yl
      obtain ⟨M2, gm, em⟩ := gy.more gr.gn gr.nh (fun _ z => nomatch z)
      have here : ∀ a ∈ D :: qs, ∃ o, Hc a = some o := fun a ha => by
        rcases List.mem_cons.mp ha with h | h
        · rw [h]; exact ⟨_, hcD⟩
        · exact ⟨_, hcq a h⟩
      have gr2 := gr.trans gm
      refine ⟨by rw [wipe_set (by simp), wipe_wipe], ?_⟩
      unfold tYes
      refine iteT ?_
      intro s H0 C cl fp
      refine WE.of (pe_lst (pa_cons pe_int pa_nil (se_cons rfl))) ⟨by show 1 ≤ sizeLine; decide, fun l hl' => ?_⟩
      have hlD : l ∉ D :: qs := fun z => by
        obtain ⟨o, e⟩ := here l z
        rw [gm.ex l o e] at hl'
        cases hl'
      have hDl : D ≠ l := fun z => hlD (by rw [← z]; exact List.mem_cons_self)
      have hl1 : H1 l = none := by
        cases w : H1 l with
        | none => rfl
        | some o => rw [gr2.ex l o w] at hl'; cases hl'
      have hM2 : ∀ a ∈ D :: qs, M2 a = none := fun a ha => by
        obtain ⟨o, e⟩ := here a ha
        exact gm.none_of (hfr a ha).2 e
      have hMl : M2 l = none := gm.nh.back hl'
      refine ⟨qs.map .ref, by rw [L2.upd_ne hDl]; exact gm.ex D _ hcD, by rw [List.length_map, sizeLine_eq]; omega, hlt, M2, qs ++ [l], ?_, ?_, fun a ha => ?_, by rw [List.length_append, hlen]; rfl, ?_, fun a ha => ?_⟩
      · refine ⟨gr2.gn, gr2.fr, (gr2.nh.mut hMl).mut (hM2 D List.mem_cons_self), fun a o _ z => ?_, fun a o z => ⟨o, ?_⟩⟩ <;>
        · rw [L2.upd_ne (ne_of_none z hD), L2.upd_ne (ne_of_none z hl1)]; exact gr2.ex a o z
      · rw [← List.cons_append]
        refine List.nodup_append.mpr ⟨nd, by simp, fun a ha b hb z => ?_⟩
        rw [List.mem_singleton.mp hb] at z
        exact hlD (by rw [← z]; exact ha)
      · rw [← List.cons_append] at ha
        rcases List.mem_append.mp ha with h | h
        · exact ⟨(hfr a h).1, hM2 a h⟩
        · rw [List.mem_singleton.mp h]; exact ⟨hl1, hMl⟩
      · rw [List.map_append]; exact upd_same
      · have haD : a ≠ D := fun z => by
          rcases List.mem_append.mp ha with h | h
          · exact (List.nodup_cons.mp nd).1 (by rw [← z]; exact h)
          · exact hDl (by rw [← z]; exact List.mem_singleton.mp h)
        rw [L2.upd_ne haD]
        rcases List.mem_append.mp ha with h | h
        · rw [L2.upd_ne (fun z => hlD (by rw [← z]; exact List.mem_cons_of_mem _ h))]
          exact gm.ex a _ (hcq a h)
        · rw [List.mem_singleton.mp h]; exact upd_same
    · have ei : i = xs.length := by omega
      subst ei
      refine .inl ⟨by have := wk.stop Hc (gr.gn.trans gr.nh); rw [List.length_map] at this; exact this, ?_⟩
      exact q D qs M Hc (o1.gr.trans gr) nd (fun a ha => ⟨old a (hfr a ha).1, (hfr a ha).2⟩) hlen hcD hcq
theorem rws_new {G0 H0 G H N H' : Hp} {σ : Sg} {n n0 c0 m : Nat} (pr : Pre T G σ ρ H n) (po : Po T G0 H0 n0 c0 G H n) (g : Gr none G H N H') (nd : (p :: qs).Nodup) (hf : ∀ a ∈ p :: qs, H a = none ∧ N a = none) (hl : qs.length = m) (hp : H' p = some (.lst (qs.map .ref))) (hq : ∀ a ∈ qs, H' a = some (.lst [.int 0])) : Rws T p qs (List.replicate m [0]) H0 N H' := by
  refine ⟨nd, fun a ha => ⟨pr.tin.ne (hf a ha).1, ?_, (hf a ha).2⟩, hp, fun i q is e1 e2 => ?_, by rw [List.length_replicate]; exact hl⟩
  · cases z : H0 a with
    | none => rfl
    | some o =>
      obtain ⟨o', e'⟩ := po.gr.ht a o z
      rw [(hf a ha).1] at e'
      cases e'
  · have e := List.eq_of_mem_replicate (List.mem_of_getElem? e2)
    subst e
    exact hq q (List.mem_of_getElem? e1)
/-- x = [[0] for y in iter], x a local -/
theorem rx_setRows {α : Type} {i j : Nat} {x y : Str} {xp yp pc pl lp : Pos} {kc : Nat} {scope : Scope} {own : List (Str × Nat)} (hX : Good X k) (hx : X.N[i]? = some x) (ok : BlkOk X.N X.env.scope scope own) (hown : own.map (·.2) = [j]) (enc : α → PyData) (xs : List α) (hl : xs.length ≤ 100000) (hi : Ei0 X (.Name y yp) iter ρ (xs.map enc))
    (hpg : ∀ (s : Shared) (H : Hp) (C : Addr) (cl : List (Str × Addr)) (fp : List Addr), PG (X.blk s H scope (compEnvC scope cl C X.env) fp) (.Name y yp) (gName j)) (st : Stb T Ω)
    (kk : ∀ p qs, RX X T c rest (ρ.set i (.raw (.ref p))) (fun H0 N H => Rws T p qs (List.replicate xs.length [0]) H0 N H ∧ Ω H0 N H) Ψ R)
    (hyl : X.env.scope.names.lookup x = some .local := by rfl) (hsw : swapsWith (.ListComp (.List [.Constant (.int 0) kc pc] pl) [⟨.Name y yp, iter, [], 0⟩] scope lp) (some (.Name x xp)) pos.line X.env = pure true := by exact sw_true rfl rfl rfl (by decide +kernel)) (hs : ∀ x, foldedSetIterable iter X.env x = pure x := by intro _; rfl) :
    RX X T c (.Assign [.Name x xp] (.ListComp (.List [.Constant (.int 0) kc pc] pl) [⟨.Name y yp, iter, [], 0⟩] scope lp) pos :: rest) ρ Ω Ψ R := fun G0 H0 n0 c0 N σ H n om pr po hn D q1 q2 => by
  refine WSs.of (pss_cons (ps_setLc (te := teB X scope _) hX.calm hX.nd hx hyl hsw (wi _ _) ok hpg (fun _ _ _ _ _ => pts_nil) (fun s H C cl fp => ⟨fun pins s' σ H' Q I h => (h s H C cl fp).go pins s' I⟩) hs) (wss rest)) ?_
  show tLc _ _ _ _ _ σ H (fun x H1 => WSs X rest D (σ.set i (some x)) H1)
  refine lc_rows hX enc xs hl hi hown pr.toNone (by have := po.le; omega) _ fun p qs N' H' g nd hf hlen hp hq => ?_
  have o1 : Po T N H n 0 N' H' n := Po.pure pr.tin g
  have p1 := pr.next o1
  exact kk p qs G0 H0 n0 (c0 + 0) N' _ H' n ⟨rws_new pr po g nd hf hlen hp hq, st _ _ _ _ _ om o1.gr⟩ ⟨p1.env.put i rfl, p1.ex, p1.tin⟩ (po.trans o1) (by omega) D (fun ρ' N' σ' H' n' s pr po => q1 ρ' N' σ' H' n' s pr (po.weak (by omega))) (fun v d N' H' n' hr r po => q2 v d N' H' n' hr r (po.weak (by omega)))
theorem eso_rows {α : Type} {j : Nat} {y : Str} {yp pc pl lp : Pos} {kc : Nat} {scope : Scope} {own : List (Str × Nat)} (hX : Good X k) (ok : BlkOk X.N X.env.scope scope own) (hown : own.map (·.2) = [j]) (enc : α → PyData) (xs : List α) (hl : xs.length ≤ 100000) (hi : Ei0 X (.Name y yp) iter ρ (xs.map enc))
    (hpg : ∀ (s : Shared) (H : Hp) (C : Addr) (cl : List (Str × Addr)) (fp : List Addr), PG (X.blk s H scope (compEnvC scope cl C X.env) fp) (.Name y yp) (gName j)) (st : Stb T Ω) (hs : ∀ x, foldedSetIterable iter X.env x = pure x := by intro _; rfl) :
    EsO X T c (.ListComp (.List [.Constant (.int 0) kc pc] pl) [⟨.Name y yp, iter, [], 0⟩] scope lp) ρ Ω (fun s H0 N H => ∃ p qs, s = .raw (.ref p) ∧ Rws T p qs (List.replicate xs.length [0]) H0 N H ∧ Ω H0 N H) := fun G0 H0 n0 c0 N σ H n om pr po hn Q q => by
  refine WE.of (pe_lc (te := teB X scope _) hX.calm hX.nd (wi _ _) ok hpg (fun _ _ _ _ _ => pts_nil) (fun s H C cl fp => ⟨fun pins s' σ H' Q I h => (h s H C cl fp).go pins s' I⟩) hs) ?_
  refine lc_rows hX enc xs hl hi hown pr.toNone (by omega) _ fun p qs N' H' g nd hf hlen hp hq => ?_
  have o1 : Po T N H n c N' H' n := Po.pure pr.tin g
  exact q (.ref p) (.raw (.ref p)) N' H' n ⟨p, qs, rfl, rws_new pr po g nd hf hlen hp hq, st _ _ _ _ _ om o1.gr⟩ rfl o1.gr.gn (pr.next o1) (po.trans o1) (by omega)
end
end Pn

set_option Elab.async false
set_option linter.all false
set_option maxRecDepth 100000
set_option maxHeartbeats 1000000
/-! PnS: every row grown; deal. -/
namespace Pn
open PySem PySem.Spec PyProof.Rows L2

def grow (f : List Int → Int → Int) (is : List Int) (b : Int) : List Int := is ++ [f is b]
def mix (f : List Int → Int → Int) (iss : List (List Int)) (bs : List Int) (i : Nat) : List (List Int) := (List.range iss.length).map fun j => if j < i then grow f (iss.getD j []) (bs.getD j 0) else iss.getD j []
section
variable {f : List Int → Int → Int} {iss : List (List Int)} {bs : List Int} {i : Nat}
theorem mix_length : (mix f iss bs i).length = iss.length := by simp [mix]
theorem mix_at {j : Nat} (h : j < iss.length) : (mix f iss bs i)[j]? = some (if j < i then grow f (iss.getD j []) (bs.getD j 0) else iss.getD j []) := by
  unfold mix
  rw [List.getElem?_map, List.getElem?_range h]
  rfl
theorem get_some {α : Type} {xs : List α} {d : α} {j : Nat} (h : j < xs.length) : xs[j]? = some (xs.getD j d) := by
  rw [List.getD_eq_getElem?_getD, List.getElem?_eq_getElem h]
  rfl
theorem mix_zero : mix f iss bs 0 = iss := by
  refine List.ext_getElem? fun j => ?_
  by_cases h : j < iss.length
  · rw [mix_at h, if_neg (Nat.not_lt_zero _), get_some h]
  · rw [List.getElem?_eq_none (by rw [mix_length]; omega), List.getElem?_eq_none (by omega)]
theorem mix_full (hb : bs.length = iss.length) : mix f iss bs iss.length = List.zipWith (grow f) iss bs := by
  refine List.ext_getElem? fun j => ?_
  by_cases h : j < iss.length
  · rw [mix_at h, if_pos h, List.getElem?_zipWith, get_some (d := []) h, get_some (xs := bs) (d := 0) (by omega)]
  · rw [List.getElem?_eq_none (by rw [mix_length]; omega), List.getElem?_eq_none (by rw [List.length_zipWith]; omega)]
theorem mix_get (h : i < iss.length) : (mix f iss bs i)[i]? = some (iss.getD i []) := by
  rw [mix_at h, if_neg (Nat.lt_irrefl _)]
theorem mix_set : (mix f iss bs i).set i (grow f (iss.getD i []) (bs.getD i 0)) = mix f iss bs (i + 1) := by
  refine List.ext_getElem? fun j => ?_
  by_cases h : j < iss.length
  · rw [mix_at h]
    by_cases z : i = j
    · subst z
      rw [List.getElem?_set_self (by rw [mix_length]; exact h), if_pos (Nat.lt_succ_self _)]
    · rw [List.getElem?_set_ne z, mix_at h]
      by_cases w : j < i
      · rw [if_pos w, if_pos (by omega)]
      · rw [if_neg w, if_neg (by omega)]
  · rw [List.getElem?_eq_none (by rw [List.length_set, mix_length]; omega), List.getElem?_eq_none (by rw [mix_length]; omega)]
end
theorem set_no {ρ : List Sl} {i : Nat} (h : ρ[i]? = some .no) : ρ.set i .no = ρ := by
  refine List.ext_getElem? fun j => ?_
  by_cases z : i = j
  · subst z
    obtain ⟨hl, _⟩ := List.getElem?_eq_some_iff.mp h
    rw [List.getElem?_set_self hl, h]
  · rw [List.getElem?_set_ne z]
section
variable {X : Cx} {T : Option Addr} {c c1 c2 k : Nat} {e2 e3 : Expr} {rest : List Stmt} {ρ : List Sl} {Ψ : List Sl → Om} {R : PyData → Prop} {p : Addr} {qs : List Addr} {iss : List (List Int)}
/-- for own, bit in zip(rows, e2): own.append(e3) -/
theorem rx_rows {jr jo jb kt : Nat} {xr xo xb : Str} {po pb pt pz pr1 pc pos np apos cpos spos : Pos} {f : List Int → Int → Int} {Pb : List Int → Prop} (hX : Good X k) (hpo : PassesOwn (model X.prog X.w) X.A X.env X.xe) (hr : X.N[jr]? = some xr) (hρr : ρ[jr]? = some (.raw (.ref p))) (ho : X.N[jo]? = some xo) (hno : ρ[jo]? = some .no) (hnb : ρ[jb]? = some .no) (hob : jo ≠ jb)
    (hg : PG X (.Tuple [.Name xo po, .Name xb pb] kt pt) (gTup X.K 2 (gCons (gName jo) (gCons (gName jb) gNil)))) (h2 : Ev X T c1 e2 ρ (fun z => ∃ bs, z = lstI bs ∧ bs.length = iss.length ∧ Pb bs)) (hne : ∀ is ∈ iss, is ≠ [] ∧ is.length < 100000)
    (he3 : ∀ (Ω : Om) (q : Addr) (is : List Int) (b : Int), is ≠ [] → (∀ H0 N H, Ω H0 N H → Own T q (is.map .int) H0 N H) → EvO X T 0 e3 ((ρ.set jo (.raw (.ref q))).set jb (.dat (.int b))) Ω (fun z => z = .int (f is b)))
    (kk : ∀ bs : List Int, bs.length = iss.length → Pb bs → RX X T c2 rest ρ (Rws T p qs (List.zipWith (grow f) iss bs)) Ψ R) (hc : c1 + c2 ≤ c := by omega)
    (hgz : Gl X "zip" := by rfl) (hvr : Vis X.env.scope xr := by first | exact Or.inl rfl | exact Or.inr (Or.inl rfl) | exact Or.inr (Or.inr rfl)) (hvo : Vis X.env.scope xo := by first | exact Or.inl rfl | exact Or.inr (Or.inl rfl) | exact Or.inr (Or.inr rfl))
    (dr : (xr == ("__debug__" : Str)) = false := by decide) (dr2 : (xr == ("__classdict__" : Str)) = false := by decide) (do1 : (xo == ("__debug__" : Str)) = false := by decide) (do2 : (xo == ("__classdict__" : Str)) = false := by decide)
    (hs1 : starEach [.Name xr pr1, e2] X.env = (false, eval (.Name xr pr1) X.env) :: starEach [e2] X.env := by exact se_cons rfl) (hs2 : starEach [e2] X.env = (false, eval e2 X.env) :: starEach [] X.env := by exact se_cons rfl) (hpl : (backTo pc (starEach [e2] X.env)).any (·.1) = false := by rfl)
    (hs : ∀ x, foldedSetIterable (.Call (.Name "zip" pz) [.Name xr pr1, e2] [] pc) X.env x = pure x := by intro _; rfl)
    (hbase : attributeBase (.Name xo np) "append" X.env (eval (.Name xo np) X.env) = eval (.Name xo np) X.env := by rfl)
    (hfew : ((backTo cpos (starEach [e3] X.env)).all (fun x => !x.1) && (backToKw cpos (keywordEach [] X.env)).all (fun x => x.1.isSome) && decide ([e3].length + ([] : List Keyword).length + (if ([] : List Keyword).isEmpty then 0 else 1) < 30)) = true := by rfl)
    (hline : (apos.endLine == cpos.line) = true := by rfl) (hs3 : starEach [e3] X.env = (false, eval e3 X.env) :: starEach [] X.env := by exact se_cons rfl) (hplain : (backTo cpos (starEach [] X.env)).any (·.1) = false := by rfl)
    (hsw : swapsWith (.Call (.Attribute (.Name xo np) "append" apos) [e3] [] cpos) none spos.line X.env = pure false := by rfl) :
    RX X T c (.For (.Tuple [.Name xo po, .Name xb pb] kt pt) (.Call (.Name "zip" pz) [.Name xr pr1, e2] [] pc) [.Expr (.Call (.Attribute (.Name xo np) "append" apos) [e3] [] cpos) spos] [] pos :: rest) ρ (Rws T p qs iss) Ψ R := fun G0 H0 n0 c0 N σ H n om pr po0 hn D q1 q2 => by
  refine WSs.of (pss_cons (ps_for hpo hX.calm (wi _ _) hg (wss _) hs) (wss rest)) ?_
  refine WI.of (pi_zip hgz hX.bt.zip (pa_cons (pe_var hr hvr dr dr2) (pa_cons (we e2) pa_nil hs2) hs1) hs1 hpl) ?_
  refine ⟨.ref p, pr.env.rawAt hρr, ?_⟩
  refine h2 N σ H n pr (by have := po0.le; omega) _ fun v2 d2 N1 H1 n1 e1 o1 r1 => ?_
  obtain ⟨bs, rfl, hbl, hPb⟩ := e1
  cases r1 with
  | lst hb hrb =>
    rename_i b vs2
    have hvs := hrb.ofInts
    subst hvs
    have om1 := Rws.stb _ _ _ _ _ om o1.gr
    refine ⟨p, b, _, _, rfl, SqL.of om1.hp, SqL.of (o1.gr.nh _ _ hb), ?_⟩
    refine ⟨fun i m σ' Hc => m = iss.length - i ∧ i ≤ iss.length ∧ ∃ (M : Hp) (n' : Nat), Rws T p qs (mix f iss bs i) H0 M Hc ∧ Pre T M σ' ρ Hc n' ∧ Po T G0 H0 n0 (c0 + c1) M Hc n' ∧ Ex N1 M, ⟨iss.length, rfl, Nat.zero_le _, N1, n1, by rw [mix_zero]; exact om1, pr.next o1, po0.trans o1, Ex.refl N1⟩, ?_⟩
    rintro i m σ' Hc ⟨rfl, hi', M, n', rw1, pr1, po1, ex1⟩
    have hqi : ∀ {i}, i < iss.length → i < qs.length := fun h => by rw [om.len]; exact h
    have hHb : Hc b = some (.lst (bs.map .int)) := pr1.ex _ _ (ex1 _ _ hb)
    by_cases hlt : i < iss.length
    · have hq1 : qs[i]? = some (qs[i]'(hqi hlt)) := List.getElem?_eq_getElem _
      have hb1 : bs[i]? = some (bs.getD i 0) := by rw [List.getD_eq_getElem?_getD, List.getElem?_eq_getElem (show i < bs.length by omega)]; rfl
      generalize qs[i]'(hqi hlt) = q at hq1
      have hx1 : (qs.map V.ref)[i]? = some (.ref q) := by rw [List.getElem?_map, hq1]; rfl
      have hx2 : (bs.map V.int)[i]? = some (.int (bs.getD i 0)) := by rw [List.getElem?_map, hb1]; rfl
      refine .inr ⟨⟨_, _, _, _, SqL.of rw1.hp, SqL.of hHb, hx1, hx2⟩, fun σ2 H2 => i + 1 ≤ iss.length ∧ ∃ (M : Hp) (n' : Nat), Rws T p qs (mix f iss bs (i + 1)) H0 M H2 ∧ Pre T M σ2 ρ H2 n' ∧ Po T G0 H0 n0 (c0 + c1) M H2 n' ∧ Ex N1 M, fun σ2 H2 h' => ⟨iss.length - (i + 1), by omega, rfl, h'⟩, fun x H' yl => ?_⟩
      obtain ⟨Tt, x1, x2, rfl, hT, rfl, f1, f2⟩ := yl
      have g1 := f1 _ (SqL.of rw1.hp)
      have g2 := f2 _ (SqL.of hHb)
      rw [hx1] at g1
      rw [hx2] at g2
      cases g1
      cases g2
      have hMT : M Tt = none := pr1.ex.back hT
      have g : Gr T M Hc M (upd Hc Tt (.tup [.ref q, .int (bs.getD i 0)])) := ⟨Ex.refl M, fun _ _ z => .inl z, pr1.ex.mut hMT, fun b o _ z => Ex.new hT b o z, fun b o z => ⟨o, Ex.new hT b o z⟩⟩
      have o3 : Po T M Hc n' 0 M (upd Hc Tt (.tup [.ref q, .int (bs.getD i 0)])) n' := ⟨g, fun b hb => by
        obtain ⟨z1, x, y, w, z2, z3⟩ := pr1.tin b hb
        exact ⟨z1, x, y, w, Ex.new hT b _ z2, z3⟩, by omega⟩
      have rw2 := Rws.stb _ _ _ _ _ rw1 g
      have p3 := pr1.next o3
      refine ⟨Tt, _, rfl, SqT.of upd_same, rfl, _, _, rfl, _, [], rfl, rfl, ?_⟩
      have env2 : EnvOk T M ((σ'.set jo (some (.ref q))).set jb (some (.int (bs.getD i 0)))) ((ρ.set jo (.raw (.ref q))).set jb (.dat (.int (bs.getD i 0)))) := (p3.env.put jo (s := .raw (.ref q)) (o := some (.ref q)) rfl).set jb (.int _)
      have hism : iss.getD i [] ∈ iss := by rw [List.getD_eq_getElem?_getD, List.getElem?_eq_getElem hlt]; exact List.getElem_mem _
      have hjo : jo < ρ.length := (List.getElem?_eq_some_iff.mp hno).1
      have body := rx_appendO (X := X) (T := T) (c := 0) (c1 := 0) (c2 := 0) (e := e3) (rest := []) (ρ := (ρ.set jo (.raw (.ref q))).set jb (.dat (.int (bs.getD i 0)))) (Ω := Rws T p qs (mix f iss bs i)) (Ψ := fun ρ2 H0 N H => ρ2 = (ρ.set jo (.raw (.ref q))).set jb (.dat (.int (bs.getD i 0))) ∧ Rws T p qs (mix f iss bs (i + 1)) H0 N H) (R := R) (P := fun z => z = .int (f (iss.getD i []) (bs.getD i 0))) (p := q) (i := jo) (vs := (iss.getD i []).map .int) (np := np) (apos := apos) (cpos := cpos) (spos := spos) ho
        (by rw [List.getElem?_set_ne hob.symm, List.getElem?_set_self hjo]) Rws.stb (fun _ _ _ h => ⟨h.fre q (List.mem_cons_of_mem _ (List.mem_of_getElem? hq1)), h.hq i q _ hq1 (mix_get hlt)⟩) (by rw [List.length_map]; exact (hne _ hism).2) (he3 _ q _ _ (hne _ hism).1 (fun _ _ _ h => h.own hq1 (mix_get hlt)))
        (fun d v hd => rx_nil fun H0 N H h => ⟨rfl, by
          obtain ⟨H1, rfl, r, rv⟩ := h
          subst hd
          cases rv
          rw [← mix_set]
          have := r.write (js := grow f (iss.getD i []) (bs.getD i 0)) hq1
          unfold grow at this ⊢
          rw [List.map_append] at this
          exact this⟩) (by omega) hvo do1 do2 hbase hfew hline hs3 hplain hsw
      have po3 := po1.trans o3
      refine body M H0 n0 (c0 + c1 + 0) M _ _ n' rw2 ⟨env2, p3.ex, p3.tin⟩ ⟨po3.gr.rebase, po3.tin, po3.le⟩ (by omega) _ (fun ρ4 N4 σ4 H4 n4 hp4 pr4 o4 => ?_) (fun v d N4 H4 n4 hr4 r4 o4 => q2 v d N4 H4 n4 hr4 r4 ⟨po3.gr.comb o4.gr, o4.tin, by have := o4.le; omega⟩)
      obtain ⟨rfl, rw4⟩ := hp4
      have e5 : (((ρ.set jo (.raw (.ref q))).set jb (.dat (.int (bs.getD i 0)))).set jo .no).set jb .no = ρ := by
        rw [List.set_comm _ _ hob.symm, List.set_set, List.set_set, set_no hno, set_no hnb]
      have env5 := (pr4.env.forget jo).forget jb
      rw [e5] at env5
      exact ⟨hlt, N4, n4, rw4, ⟨env5, pr4.ex, pr4.tin⟩, ⟨po3.gr.comb o4.gr, o4.tin, by have := o4.le; omega⟩, ex1.trans o4.gr.gn⟩
    · have ei : i = iss.length := by omega
      subst ei
      refine .inl ⟨⟨_, _, SqL.of rw1.hp, SqL.of hHb, .inl (by rw [List.length_map, om.len]; exact Nat.le_refl _)⟩, ?_⟩
      rw [mix_full hbl] at rw1
      exact kk bs hbl hPb G0 H0 n0 (c0 + c1) M σ' Hc n' rw1 pr1 po1 (by omega) D (fun ρ4 N4 σ4 H4 n4 hp4 pr4 o4 => q1 ρ4 N4 σ4 H4 n4 hp4 pr4 (o4.weak (by omega))) (fun v d N4 H4 n4 hr4 r4 o4 => q2 v d N4 H4 n4 hr4 r4 (o4.weak (by omega)))
end
end Pn

set_option Elab.async false
set_option linter.all false
set_option maxRecDepth 100000
set_option maxHeartbeats 1000000
/-! PnU: deal. -/
namespace Pn
open PySem PySem.Spec PyProof.Rows L2

theorem enew_rep {X : Cx} {T : Option Addr} {c : Nat} {a b : Expr} {ρ : List Sl} {xs : List PyData} {i : Int} {pos : Pos} (h1 : E X a ρ (.list xs)) (h2 : E X b ρ (.int i)) (hi : -100000 ≤ i) (hi2 : i ≤ 100000) (hz : xs.length * i.toNat ≤ 100000) : Enew X T c (.BinOp a .Mult b pos) ρ (fun z => z = (List.replicate i.toNat xs).flatten) := fun G σ H n pr hn Q q => by
  refine WE.of (pe_op op_rep (we a) (we b)) ?_
  refine h1.lift (T := T) (c := 0) G σ H n pr (by omega) _ fun x d1 N1 H1 n1 e1 o1 r1 => ?_
  subst e1
  refine h2.lift (T := T) (c := 0) N1 σ H1 n1 (pr.next o1) (by have := o1.le; omega) _ fun y d2 N2 H2 n2 e2 o2 r2 => ?_
  subst e2
  cases r2
  have r1' := r1.mono o2.gr.gn
  cases r1' with
  | lst ha hr => exact ⟨_, i, _, rfl, rfl, o2.gr.nh _ _ ha, by omega, by omega, szl (by rw [hr.length]; exact hz), fun p hp => enew_fin (Pd := fun z => z = _) ((o1.trans o2).weak (by omega)) hp (hr.rep _) rfl q⟩
theorem rep0 : ∀ M : Nat, (List.replicate M [PyData.int 0]).flatten = (List.replicate M (0 : Int)).map .int
  | 0 => rfl
  | M + 1 => by
    rw [List.replicate_succ, List.flatten_cons, rep0 M, List.replicate_succ]
    rfl
structure DealOk (S : Int) (rows : List (List Int)) (L : Nat) : Prop where
  lay : Lay S rows L
  S5 : S ≤ 5
  r4 : rows.length ≤ 4
  L6 : L ≤ 6
  en : ∀ r ∈ rows, ∀ x ∈ r, 0 ≤ x ∧ x ≤ 25
def F_deal : List PyData → (PyData → Prop) → Prop := fun ds R => ds = [.int 4, .int 5, .int 5] ∧ R = fun d => ∃ S rows L, d = layD S rows ∧ DealOk S rows L
section
variable {P : Program} {w : World} {K : PySem.W.Frag} {mg : Str → Option Value} {base : Heap} {f : Addr} {fd : FuncData}
theorem dn_deal (hB : Bt mg) (D : Dn P w K mg base 1 "_law_take" p_take (spT 1 F_take)) (hf : FnP K "_law_deal" s_deal f fd) (hm : mg "_law_deal" = some (.ref f)) : Dn P w K mg base 2 "_law_deal" p_deal (spT 100 F_deal) := by
  refine dn_draw hf hm hB sc_deal (hf.bindsN fun _ _ _ _ _ _ us hl => match us, hl with | [_, _, _, _], _ => rfl) (fun ds R h => ?_) (fun cdv A0 outer s H X0 gd a ds R h => ?_)
  · obtain ⟨rfl, _⟩ := h
    rfl
  · obtain ⟨rfl, rfl⟩ := h
    refine run_tgt (c1 := 4) (c2 := 96) (P := fun z => ∃ m w0 S few : Int, z = .tuple [.int m, .int w0, .int S, .int few] ∧ (1 ≤ m ∧ m ≤ 4) ∧ (0 ≤ w0 ∧ w0 ≤ 5) ∧ (1 ≤ S ∧ S ≤ 5)) (pg_tup gd.calm (pgs_cons (pg_name (i := 4) gd.nd rfl (.inl rfl)) (pgs_cons (pg_name (i := 5) gd.nd rfl (.inl rfl)) (pgs_cons (pg_name (i := 6) gd.nd rfl (.inl rfl)) (pgs_cons (pg_name (i := 7) gd.nd rfl (.inl rfl)) pgs_nil)))))
      (Ev.mono (ev_tup (P := fun z => ∃ m w0 S few : Int, z = [.int m, .int w0, .int S, .int few] ∧ (1 ≤ m ∧ m ≤ 4) ∧ (0 ≤ w0 ∧ w0 ≤ 5) ∧ (1 ≤ S ∧ S ≤ 5)) (Ea.mono (ea_cons (c1 := 1) (c2 := 3) (P1 := fun z => ∃ m : Int, z = .int m ∧ 1 ≤ m ∧ m ≤ 4) (ev_bin (c1 := 0) (c2 := 1) (P2 := fun _ z => ∃ m : Int, z = .int m ∧ 0 ≤ m ∧ m < 4) (Ev.lift e_int) (fun _ _ => ev_take D gd (Nat.le_refl _) (nm 1) (by decide) (by decide)) (fun d1 d2 e1 ⟨m, e2, h3, h4⟩ => ⟨_, ⟨1 + m, rfl, by omega, by omega⟩, by rw [e1, e2]; exact b2_add⟩))
        (fun _ _ => ea_cons (c1 := 1) (c2 := 2) (ev_take D gd (Nat.le_refl _) (e_bin (nm 2) e_int b2_add) (by decide) (by decide)) (fun _ _ => ea_cons (c1 := 1) (c2 := 1) (P1 := fun z => ∃ m : Int, z = .int m ∧ 1 ≤ m ∧ m ≤ 5) (ev_bin (c1 := 0) (c2 := 1) (P2 := fun _ z => ∃ m : Int, z = .int m ∧ 0 ≤ m ∧ m < 5) (Ev.lift e_int) (fun _ _ => ev_take D gd (Nat.le_refl _) (nm 3) (by decide) (by decide)) (fun d1 d2 e1 ⟨m, e2, h3, h4⟩ => ⟨_, ⟨1 + m, rfl, by omega, by omega⟩, by rw [e1, e2]; exact b2_add⟩))
        (fun _ _ => ea_cons (c1 := 1) (c2 := 0) (ev_take D gd (Nat.le_refl _) e_int (by decide) (by decide)) (fun _ _ => ea_nil))))) (fun z h => ?_) (Nat.le_refl _)) (fun ds h => ?_)) (fun z h => ?_) (Nat.le_refl _)) fun d e => ?_
    · obtain ⟨d1, r1, rfl, ⟨m, rfl, m1, m2⟩, d2, r2, rfl, ⟨w0, rfl, w1, w2⟩, d3, r3, rfl, ⟨S, rfl, S1, S2⟩, d4, r4, rfl, ⟨few, rfl, _⟩, rfl⟩ := h
      exact ⟨m, w0, S, few, rfl, ⟨m1, m2⟩, ⟨w1, by omega⟩, S1, S2⟩
    · obtain ⟨m, w0, S, few, rfl, _⟩ := h
      show 4 ≤ 1000
      decide
    · obtain ⟨ds, ⟨m, w0, S, few, rfl, h⟩, rfl⟩ := h
      exact ⟨m, w0, S, few, rfl, h⟩
    obtain ⟨m, w0, S, few, rfl, ⟨m1, m2⟩, ⟨w1, w2⟩, S1, S2⟩ := e
    refine ⟨[4, 5, 6, 7], _, gok_tup4, ?_⟩
    refine rx_start (Ω := fun _ _ _ => True) (Ψ := fun _ _ _ _ => False) ?_ (fun _ _ => True.intro) (fun _ _ _ _ h => h.elim)
    have hmN : m = ((m.toNat : Nat) : Int) := by omega
    generalize m.toNat = M at hmN
    subst hmN
    refine rx_setRows (c := 96) (i := 8) (j := 12) (own := [("_law_pane", 12)]) gd rfl (blkOk_by (by show blkC n_deal (defScope s_deal) _ _ = true; decide +kernel)) rfl (fun (i : Nat) => .int (i : Int)) (List.range M) (by rw [List.length_range]; omega) (i_rangeN gd (nm 4) (by omega)) (fun _ _ _ _ _ => pg_own gd.nd rfl (.inl rfl) (fun z => by cases z)) Stb.triv fun p qs => ?_
    refine rx_imp (Ω' := Rws (some a) p qs (List.replicate M [0])) (fun _ _ _ h => by rw [List.length_range] at h; exact h.1) ?_
    refine rx_forO (α := Nat) (c1 := 1) (c2 := 10) (c3 := 0) (Pd := fun z => ∃ n : Int, (0 ≤ n ∧ n ≤ 5) ∧ z = rangeD 0 n.toNat) gd .never (pg_name (i := 9) gd.nd rfl (.inl rfl)) Rws.stb
      (eio_range gd (by rfl) (Ev.o (ev_if (c1 := 1) (c2 := 0) (Pt := fun _ => True) (et_cmp (c1 := 1) (c2 := 0) (P2 := fun _ z => z = .int 0) (ev_take D gd (Nat.le_refl _) e_int (by decide) (by decide)) (fun _ _ => Ev.lift e_int) (fun d1 d2 e1 e2 => by
          obtain ⟨i, rfl, _⟩ := e1
          subst e2
          exact ⟨_, True.intro, b2_eqI⟩)) (fun _ => Ev.mono (Ev.lift (c := 0) (nm 5)) (fun d e => ⟨w0, e, w1, w2⟩) (Nat.le_refl _)) (fun _ => Ev.mono (Ev.lift (c := 0) (nm 2)) (fun d e => ⟨5, e, by decide, by decide⟩) (Nat.le_refl _)))) (fun n h => by omega)) 5 (fun ds e => ?_) (by omega)
    obtain ⟨W, ⟨W1, W2⟩, rfl⟩ := e
    refine ⟨fun i => .int (i : Int), List.range W.toNat, [9], fun i ρ => ρ.set 9 (.dat (.int (i : Int))), fun i ρ' H0 N H => ∃ iss : List (List Int), (iss.length = M ∧ (∀ is ∈ iss, is.length = i + 1 ∧ ∀ x ∈ is, 0 ≤ x ∧ x ≤ 5 * (i : Int)) ∧ ∃ x9 x10 x11 x12 x13 x14, ρ' = [.tin, .dat (.int 4), .dat (.int 5), .dat (.int 5), .dat (.int M), .dat (.int w0), .dat (.int S), .dat (.int few), .raw (.ref p), x9, x10, x11, x12, x13, x14]) ∧ Rws (some a) p qs iss H0 N H, rangeD0 _, by rw [List.length_range]; omega, fun _ _ => gok_name, fun _ _ => Stb.ex fun _ => Stb.and Rws.stb, fun _ _ _ h => ⟨_, ⟨List.length_replicate, fun is his => ?_, _, _, _, _, _, _, rfl⟩, h⟩, fun i j ρ' hj => ?_, fun ρ' => ?_⟩
    · rw [List.eq_of_mem_replicate his]
      exact ⟨rfl, fun x hx => by rw [List.mem_singleton.mp hx]; omega⟩
    · refine rx_ex fun iss => rx_and fun ⟨hil, his, x9, x10, x11, x12, x13, x14, hρ⟩ => ?_
      subst hρ
      have hiW : i < W.toNat := by
        have := (List.getElem?_eq_some_iff.mp hj).1
        rw [List.length_range] at this
        exact this
      refine rx_asgS (c1 := 0) (c2 := 10) (i := 10) (W := fun s H0 N H => ∃ q, (s = .raw (.ref q) ∧ q ∉ p :: qs) ∧ Own (some a) q ((List.replicate M (0 : Int)).map .int) H0 N H ∧ Rws (some a) p qs iss H0 N H) gd rfl ?_ fun s => ?_
      · refine fun G0 H0 n0 c0 N σ H n om pr po hn Q q => ?_
        refine eso_newS (Pd := fun z => z = (List.replicate (M : Int).toNat [PyData.int 0]).flatten) (p :: qs) (fun _ _ _ h b hb => h.some_of hb) Rws.stb (enew_rep (e_lst (a_cons e_int a_nil)) (nm 4) (by omega) (by omega) (by simp; omega)) G0 H0 n0 c0 N σ H n om pr po hn Q fun v s N' H' n' h => q v s N' H' n' ?_
        obtain ⟨q1, ds, ⟨rfl, rfl, hq1⟩, ow, r⟩ := h
        refine ⟨q1, ⟨rfl, hq1⟩, ?_, r⟩
        have e : (List.replicate (M : Int).toNat [PyData.int 0]).flatten = (List.replicate M (0 : Int)).map .int := by
          exact rep0 M
        rw [← e]
        exact ow
      refine rx_ex fun q => rx_and fun ⟨hs, hq⟩ => ?_
      subst hs
      have hst : ∀ {ds : List PyData} {jss : List (List Int)}, Stb (some a) (fun H0 N H => Own (some a) q ds H0 N H ∧ Rws (some a) p qs jss H0 N H) := fun {ds jss} _ _ _ _ _ h g => ⟨Own.stb _ _ _ _ _ h.1 g, Rws.stb _ _ _ _ _ h.2 g⟩
      refine rx_forO (α := Nat) (c1 := 0) (c2 := 2) (c3 := 0) (Pd := fun z => ∃ n : Int, n = S ∧ z = rangeD 0 n.toNat) gd .never (pg_name (i := 11) gd.nd rfl (.inl rfl)) hst (eio_range gd (by rfl) (Ev.o (Ev.mono (Ev.lift (c := 0) (nm 6)) (fun d e => ⟨S, e, rfl⟩) (Nat.le_refl _))) (fun n h => by omega)) 5 (fun ds e => ?_) (by omega)
      obtain ⟨n', hn', e'⟩ := e
      rw [hn'] at e'
      subst e'
      refine ⟨fun i => .int (i : Int), List.range S.toNat, [11], fun i ρ => ρ.set 11 (.dat (.int (i : Int))), fun k ρ' H0 N H => ∃ ms : List Int, (ms.length = M ∧ (∀ x ∈ ms, 0 ≤ x ∧ x ≤ (k : Int)) ∧ ∃ x9 x11 x12 x13 x14, ρ' = [.tin, .dat (.int 4), .dat (.int 5), .dat (.int 5), .dat (.int M), .dat (.int w0), .dat (.int S), .dat (.int few), .raw (.ref p), x9, .raw (.ref q), x11, x12, x13, x14]) ∧ Own (some a) q (ms.map .int) H0 N H ∧ Rws (some a) p qs iss H0 N H, rangeD0 _, by rw [List.length_range]; omega, fun _ _ => gok_name, fun _ _ => Stb.ex fun _ => Stb.and hst, fun _ _ _ h => ⟨_, ⟨List.length_replicate, fun x hx => by rw [List.eq_of_mem_replicate hx]; omega, _, _, _, _, _, rfl⟩, h⟩, fun k j2 ρ' hj2 => ?_, fun ρ' => ?_⟩
      · refine rx_ex fun ms => rx_and fun ⟨hml, hms, y9, y11, y12, y13, y14, hρ⟩ => ?_
        subst hρ
        refine rx_asgO (c1 := 1) (c2 := 1) (i := 12) (P := fun z => ∃ i : Int, z = .int i ∧ 0 ≤ i ∧ i < (M : Int)) gd rfl hst (Ev.o (ev_take D gd (Nat.le_refl _) (nm 4) (by omega) (by omega))) fun d e => ?_
        obtain ⟨p1, rfl, hp1, hp2⟩ := e
        refine rx_asgO (c1 := 1) (c2 := 0) (i := 12) (P := fun z => ∃ i : Int, z = .int i ∧ 0 ≤ i ∧ i < (M : Int)) gd rfl hst (Ev.o (ev_if (c1 := 0) (c2 := 1) (Pt := fun _ => True) ((Et.lift (eb_cmp (nm 7) e_int b2_eqI)).mono (fun _ _ => True.intro) (Nat.le_refl _)) (fun _ => ev_callB (P1 := fun z => ∃ i : Int, z = [.int p1, .int i] ∧ 0 ≤ i ∧ i < (M : Int)) (by rfl) gd.bt.min PyProof.Rows.boot_min (Ea.mono (ea_cons (c1 := 0) (c2 := 1) (Ev.lift (nm 12)) (fun _ _ => ea_cons (c1 := 1) (c2 := 0) (ev_take D gd (Nat.le_refl _) (nm 4) (by omega) (by omega)) (fun _ _ => ea_nil))) (fun z h => by
            obtain ⟨d1, r1, rfl, rfl, d2, r2, rfl, ⟨i, rfl, h1, h2⟩, rfl⟩ := h
            exact ⟨i, rfl, h1, h2⟩) (Nat.le_refl _)) (fun ds h => by
            obtain ⟨i, rfl, h1, h2⟩ := h
            exact (c_min2 gd).mono fun d e => ⟨_, e, by omega, by omega⟩)) (fun _ => Ev.mono (Ev.lift (c := 0) (nm 12)) (fun d e => ⟨p1, e, hp1, hp2⟩) (by omega)))) fun d e => ?_
        obtain ⟨p2, rfl, hp3, hp4⟩ := e
        have hp2N : p2 = ((p2.toNat : Nat) : Int) := by omega
        generalize p2.toNat = j3 at hp2N
        subst hp2N
        have hj3 : j3 < ms.length := by omega
        refine rx_setO (c1 := 0) (c2 := 0) (i := 10) (p := q) (j := j3) (vs := ms.map .int) (P := fun z => z = .int (ms.getD j3 0 + 1)) rfl rfl hst (fun _ _ _ h => ⟨⟨h.1.1, h.1.2.1, h.1.2.2.1, _, h.1.2.2.2.choose_spec.1⟩, by
            obtain ⟨_, _, _, vs, e, r⟩ := h.1
            rw [r.ofInts] at e
            exact e⟩) (by rw [List.length_map]; exact hj3) (evo_peek (own_knows (i := 10) rfl (fun _ _ _ h => h.1)) (Ev.lift (e_bin (e_ix (nm 10) (nm 12) (bx_lstI (ns := ms) (z := ms.getD j3 0) (by rw [atI_in 0 (by omega) (by omega)]; rfl))) e_int b2_add)) (fun d e => by rw [e]; rfl)) (nm 12) fun d v hd => ?_
        subst hd
        refine rx_nil fun H0 N H h => ?_
        obtain ⟨H1, rfl, ⟨⟨t1, t2, t3, vs, t4, t5⟩, r⟩, rv⟩ := h
        cases rv
        refine ⟨ms.set j3 (ms.getD j3 0 + 1), ⟨by rw [List.length_set]; exact hml, fun x hx => ?_, _, _, _, _, _, rfl⟩, ⟨t1, t2, t3, _, upd_same, ?_⟩, r.upd_ne hq⟩
        · rcases List.mem_or_eq_of_mem_set hx with h | h
          · have := hms x h
            omega
          · have hm : ms.getD j3 0 ∈ ms := by rw [List.getD_eq_getElem?_getD, List.getElem?_eq_getElem hj3]; exact List.getElem_mem _
            have := hms _ hm
            omega
        · have e : (ms.map V.int).set j3 (V.int (ms.getD j3 0 + 1)) = (ms.set j3 (ms.getD j3 0 + 1)).map .int := by rw [List.map_set]
          rw [e]
          exact RpA.ints _
      · refine rx_ex fun ms => rx_and fun ⟨hml, hms, y9, y11, y12, y13, y14, hρ⟩ => ?_
        subst hρ
        rw [List.length_range] at hms
        refine rx_know (own_knows (i := 10) rfl (fun _ _ _ h => h.1)) (Ω' := Rws (some a) p qs iss) (fun H0 N H h => ⟨h.2.nd, fun b hb => ⟨(h.2.fr b hb).1, (h.2.fr b hb).2.1, by rw [addS_out (fun z => hq (by rw [← List.mem_singleton.mp z]; exact hb))]; exact (h.2.fr b hb).2.2⟩, h.2.hp, h.2.hq, h.2.len⟩) ?_
        refine rx_forget 13 (rx_forget 14 ?_)
        refine rx_rows (c1 := 0) (c2 := 0) (jr := 8) (jo := 13) (jb := 14) (f := fun is b => lastI is + b) (Pb := fun bs => bs = ms) gd .never rfl rfl rfl rfl rfl (by decide) (pg_tup gd.calm (pgs_cons (pg_name (i := 13) gd.nd rfl (.inl rfl)) (pgs_cons (pg_name (i := 14) gd.nd rfl (.inl rfl)) pgs_nil))) (Ev.mono (Ev.lift (c := 0) (nm 10)) (fun d e => ⟨ms, e, by omega, rfl⟩) (Nat.le_refl _)) (fun is h => ⟨fun z => (by have := (his is h).1; rw [z] at this; cases this), (by have := (his is h).1; omega)⟩) (fun Ω q' is b hne hΩ => evo_peek (own_knows (i := 13) rfl hΩ) (Ev.lift (e_bin (e_ix (nm 13) (e_un e_int b1_neg) (bx_lstI (atI_lastI hne))) (nm 14) b2_add)) (fun d e => by rw [e]; rfl)) (fun bs hbl hbs => rx_nil fun H0 N H h => ⟨_, ⟨?_, fun is hz => ?_, _, _, _, _, _, _, rfl⟩, h⟩)
        · rw [List.length_zipWith]
          omega
        · subst hbs
          obtain ⟨j5, hj5⟩ := List.mem_iff_getElem?.mp hz
          rw [List.getElem?_zipWith] at hj5
          cases e1 : iss[j5]? with
          | none => rw [e1] at hj5; cases hj5
          | some is0 =>
            cases e2 : bs[j5]? with
            | none => rw [e1, e2] at hj5; cases hj5
            | some b0 =>
              rw [e1, e2] at hj5
              have hj6 : grow (fun is b => lastI is + b) is0 b0 = is := Option.some.inj hj5
              subst hj6
              obtain ⟨a1, a2⟩ := his is0 (List.mem_of_getElem? e1)
              have a3 := hms b0 (List.mem_of_getElem? e2)
              have hne : is0 ≠ [] := fun z => by rw [z] at a1; cases a1
              have a4 : lastI is0 ∈ is0 := by
                unfold lastI
                rw [List.getLastD_eq_getLast?, List.getLast?_eq_some_getLast hne]
                exact List.getLast_mem hne
              have a5 := a2 _ a4
              refine ⟨by unfold grow; rw [List.length_append, a1]; rfl, fun x hx => ?_⟩
              unfold grow at hx
              rcases List.mem_append.mp hx with h | h
              · have := a2 x h
                omega
              · rw [List.mem_singleton.mp h]
                show 0 ≤ lastI is0 + b0 ∧ lastI is0 + b0 ≤ _
                omega
    · refine rx_ex fun iss => rx_and fun ⟨hil, his, x9, x10, x11, x12, x13, x14, hρ⟩ => ?_
      subst hρ
      rw [List.length_range] at his
      refine rx_freezeS (rws_knows (i := 8) rfl (fun _ _ _ h => h)) (run_ret (Ev.mono (Ev.lift (c := 0) (e_tup (a_cons (nm 6) (a_cons (e_tupleL gd (e_lcN (Nn := n_deal) (sc := defScope s_deal) gd 13 rfl rfl lstI iss (by omega) (i_list (nm 8)) tupI fun g hg s H C cl fp => e_tupleL gd.blk (nm 13))) a_nil)))) (fun d e => ⟨S, iss, W.toNat + 1, e, ⟨⟨S1, by omega, by intro z; rw [z] at hil; simp at hil; omega, by omega, fun r hr => (his r hr).1, by omega, by omega⟩, S2, by omega, by omega, fun r hr x hx => ?_⟩⟩) (Nat.le_refl _)))
      have := (his r hr).2 x hx
      omega
end
end Pn

set_option Elab.async false
set_option linter.all false
set_option maxRecDepth 100000
set_option maxHeartbeats 1000000
/-! PnV: bent rows. -/
namespace Pn
open PySem PySem.Spec PyProof.Rows L2

theorem last4 (A : List PyData) (x y z t : PyData) : A ++ [x, y, z, t] = (A ++ [x, y, z]) ++ [t] := by simp
theorem eo_no {X : Cx} {ρ : List Sl} : Eo X none ρ none := True.intro
theorem eo_at {X : Cx} {ρ : List Sl} {e : Expr} {i : Int} (h : E X e ρ (.int i)) : Eo X (some e) ρ (some i) := h
theorem cutL_le {α : Type} (xs : List α) (lo hi : Option Int) : (cutL xs lo hi).length ≤ xs.length := by
  unfold cutL
  rw [List.length_take, List.length_drop]
  omega
theorem cutL_map {α β : Type} (f : α → β) (xs : List α) (lo hi : Option Int) : cutL (xs.map f) lo hi = (cutL xs lo hi).map f := by
  unfold cutL
  rw [List.length_map, ← List.map_drop, ← List.map_take]
def F_bent : List PyData → (PyData → Prop) → Prop := fun ds R => ∃ (rs : List (List Int)) (L : Nat), ds = [tupII rs] ∧ rs ≠ [] ∧ rs.length ≤ 1000 ∧ 1 ≤ L ∧ L ≤ 1000 ∧ (∀ r ∈ rs, r.length = L) ∧ R = fun d => ∃ ts : List PyData, d = .list (ts ++ [tupII rs]) ∧ ts.length ≤ 100
section
variable {P : Program} {w : World} {K : PySem.W.Frag} {mg : Str → Option Value} {base : Heap} {f : Addr} {fd : FuncData}
theorem dn_bent_rows (hB : Bt mg) (D : Dn P w K mg base 1 "_law_take" p_take (spT 1 F_take)) (hf : FnP K "_law_bent_rows" s_bent_rows f fd) (hm : mg "_law_bent_rows" = some (.ref f)) : Dn P w K mg base 2 "_law_bent_rows" p_bent_rows (spT 4 F_bent) := by
  refine dn_draw hf hm hB sc_bent_rows (hf.bindsN fun _ _ _ _ _ _ us hl => match us, hl with | [_, _], _ => rfl) (fun ds R h => ?_) (fun cdv A0 outer s H X0 gd a ds R h => ?_)
  · obtain ⟨rs, L, rfl, _⟩ := h
    rfl
  · obtain ⟨rs, L, rfl, hne, hrl, hL1, hL2, hlen, rfl⟩ := h
    have hpos := List.length_pos_iff.mpr hne
    have hrm : (rs.map tupI).length = rs.length := List.length_map ..
    have h0 : rs.getD 0 [] ∈ rs := by rw [List.getD_eq_getElem?_getD, List.getElem?_eq_getElem hpos]; exact List.getElem_mem _
    refine run_tgt (c1 := 2) (c2 := 2) (P := fun z => ∃ k j : Int, z = .tuple [.int k, .int j] ∧ (0 ≤ k ∧ k < rs.length) ∧ (0 ≤ j ∧ j < rs.length)) (pg_tup gd.calm (pgs_cons (pg_name (i := 2) gd.nd rfl (.inr rfl)) (pgs_cons (pg_name (i := 3) gd.nd rfl (.inr rfl)) pgs_nil)))
      (Ev.mono (ev_tup (ea_cons (c1 := 1) (c2 := 1) (ev_take D gd (Nat.le_refl _) (e_lenT gd (ds := rs.map tupI) (nm 1)) (by omega) (by omega)) (fun _ _ => ea_cons (c1 := 1) (c2 := 0) (ev_take D gd (Nat.le_refl _) (e_lenT gd (ds := rs.map tupI) (nm 1)) (by omega) (by omega)) (fun _ _ => ea_nil))) (fun z h => by
        obtain ⟨d1, r1, rfl, _, d2, r2, rfl, _, rfl⟩ := h
        show 2 ≤ 1000
        decide)) (fun z h => by
        obtain ⟨ds, ⟨d1, r1, rfl, ⟨k, rfl, k1, k2⟩, d2, r2, rfl, ⟨j, rfl, j1, j2⟩, rfl⟩, rfl⟩ := h
        exact ⟨k, j, rfl, ⟨k1, by omega⟩, j1, by omega⟩) (Nat.le_refl _)) fun d e => ?_
    obtain ⟨k, j, rfl, ⟨k1, k2⟩, j1, j2⟩ := e
    refine ⟨[2, 3], _, gok_tup2, ?_⟩
    refine run_tgt (c1 := 2) (c2 := 0) (P := fun z => ∃ w0 m : Int, z = .tuple [.int w0, .int m] ∧ (0 ≤ w0 ∧ w0 < L)) (pg_tup gd.calm (pgs_cons (pg_name (i := 4) gd.nd rfl (.inl rfl)) (pgs_cons (pg_name (i := 5) gd.nd rfl (.inr rfl)) pgs_nil)))
      (Ev.mono (ev_tup (ea_cons (c1 := 1) (c2 := 1) (ev_take D gd (Nat.le_refl _) (e_lenT gd (ds := (rs.getD 0 []).map .int) (e_ix (nm 1) e_int (bx_mapT (enc := tupI) (atI_in [] (by omega) (by omega))))) (by rw [List.length_map, hlen _ h0]; omega) (by rw [List.length_map, hlen _ h0]; omega)) (fun _ _ => ea_cons (c1 := 1) (c2 := 0) (P1 := fun z => ∃ i : Int, z = .int i) (ev_bin (c1 := 0) (c2 := 1) (P2 := fun _ z => ∃ i : Int, z = .int i) (Ev.lift e_int) (fun _ _ => ev_bin (c1 := 0) (c2 := 1) (P2 := fun _ z => ∃ i : Int, z = .int i ∧ 0 ≤ i ∧ i < 2) (Ev.lift e_int) (fun _ _ => ev_take D gd (Nat.le_refl _) e_int (by decide) (by decide)) (fun d1 d2 e1 e2 => by
        obtain ⟨i, rfl, i1, i2⟩ := e2
        subst e1
        exact ⟨_, ⟨2 * i, rfl⟩, b2_mul (.inl ⟨by decide, by decide⟩)⟩)) (fun d1 d2 e1 e2 => by
        obtain ⟨i, rfl⟩ := e2
        subst e1
        exact ⟨_, ⟨1 - i, rfl⟩, b2_sub⟩)) (fun _ _ => ea_nil))) (fun z h => by
        obtain ⟨d1, r1, rfl, _, d2, r2, rfl, _, rfl⟩ := h
        show 2 ≤ 1000
        decide)) (fun z h => by
        obtain ⟨ds, ⟨d1, r1, rfl, ⟨w0, rfl, w1, w2⟩, d2, r2, rfl, ⟨m, rfl⟩, rfl⟩, rfl⟩ := h
        rw [List.length_map, hlen _ h0] at w2
        exact ⟨w0, m, rfl, w1, w2⟩) (Nat.le_refl _)) fun d e => ?_
    obtain ⟨w0, m, rfl, w1, w2⟩ := e
    refine ⟨[4, 5], _, gok_tup2, ?_⟩
    have hkm : rs.getD k.toNat [] ∈ rs := by rw [List.getD_eq_getElem?_getD, List.getElem?_eq_getElem (show k.toNat < rs.length by omega)]; exact List.getElem_mem _
    have hkl := hlen _ hkm
    have hkb : ∀ {Y : Cx}, BX Y (tupII rs) (.int k) (tupI (rs.getD k.toNat [])) := fun {Y} => bx_mapT (enc := tupI) (atI_in [] k1 k2)
    have hjb : ∀ {Y : Cx}, BX Y (tupII rs) (.int j) (tupI (rs.getD j.toNat [])) := fun {Y} => bx_mapT (enc := tupI) (atI_in [] j1 j2)
    generalize rs.getD k.toNat [] = rk at hkl hkb
    generalize rs.getD j.toNat [] = rj at hjb
    have hrk : (rk.map PyData.int).length = L := by rw [List.length_map]; exact hkl
    have c1 : ∀ lo hi, (cutL (rk.map PyData.int) lo hi).length ≤ 1000 := fun lo hi => by have := cutL_le (rk.map PyData.int) lo hi; omega
    have c2 : ∀ lo hi, (cutL (rs.map tupI) lo hi).length ≤ 1000 := fun lo hi => by have := cutL_le (rs.map tupI) lo hi; omega
    have wb : BX (cxD P w K mg base n_bent_rows "_law_bent_rows" (defScope s_bent_rows) f cdv A0 outer s H X0) (tupI rk) (.int w0) (.int (rk.getD w0.toNat 0)) := bx_tupI (atI_in 0 w1 (by omega))
    -- own
    refine run_set (i := 6) (d := .tuple (cutL (rk.map .int) none (some w0) ++ [.int (rk.getD w0.toNat 0 + m)] ++ cutL (rk.map .int) (some (w0 + 1)) none)) gd rfl (e_bin (e_bin (e_sliceT (e_ix (nm 1) (nm 2) hkb) eo_no (eo_at (nm 4))) (e_tup (a_cons (e_bin (e_ix (e_ix (nm 1) (nm 2) hkb) (nm 4) wb) (nm 5) b2_add) a_nil)) (b2_catT (by have := c1 none (some w0); simp; omega))) (e_sliceT (e_ix (nm 1) (nm 2) hkb) (eo_at (e_bin (nm 4) e_int b2_add)) eo_no) (b2_catT (by have := c1 none (some w0); have := c1 (some (w0 + 1)) none; simp; omega))) ?_
    -- swapped
    refine run_lc (i := 7) (own := [("_law_place", 10), ("_law_its", 11)]) gd rfl (blkOk_by (by show blkC n_bent_rows (defScope s_bent_rows) _ _ = true; decide +kernel)) (fun p : Nat × List Int => .tuple [.int (p.1 : Int), tupI p.2]) (enumL 0 rs) (by rw [enumL_length]; omega) (by rw [← enumL_map]; exact i_enumT gd (by rfl) (a_cons (nm 1) a_nil)) (gTup K 2 (gCons (gName 10) (gCons (gName 11) gNil))) [10, 11] (fun p ρ => (ρ.set 10 (.dat (.int (p.1 : Int)))).set 11 (.dat (tupI p.2)))
      (fun p => if (p.1 : Int) = k then tupI rj else if (p.1 : Int) = j then tupI rk else tupI p.2) (fun s H C cl fp => pg_tup gd.calm (pgs_cons (pg_own gd.nd rfl (.inl rfl) (fun z => by cases z)) (pgs_cons (pg_own gd.nd rfl (.inl rfl) (fun z => by cases z)) pgs_nil))) (fun _ _ => gok_tup2) (fun i h => by simpa using h) (fun p hp s H C cl fp => ?_) ?_
    · refine e_if (eb_cmp (nm 10) (nm 2) b2_eqI) (fun h => Ev.to (e_ix (nm 1) (nm 3) hjb) (by rw [if_pos (of_decide_eq_true h)])) fun h => ?_
      rw [if_neg (of_decide_eq_false h)]
      refine e_if (eb_cmp (nm 10) (nm 3) b2_eqI) (fun h => Ev.to (e_ix (nm 1) (nm 2) hkb) (by rw [if_pos (of_decide_eq_true h)])) fun h => ?_
      rw [if_neg (of_decide_eq_false h)]
      exact nm 11
    -- later
    generalize (enumL 0 rs).map (fun p => if (p.1 : Int) = k then tupI rj else if (p.1 : Int) = j then tupI rk else tupI p.2) = sw
    refine run_set (i := 8) (d := .tuple (cutL (rk.map .int) none (some w0) ++ (cutL rk (some w0) none).map fun x => .int (x + m))) gd rfl (e_bin (e_sliceT (e_ix (nm 1) (nm 2) hkb) eo_no (eo_at (nm 4))) (e_tupleL gd (e_lcN (Nn := n_bent_rows) (sc := defScope s_bent_rows) gd 12 rfl rfl PyData.int (cutL rk (some w0) none) (by have := cutL_le rk (some w0) none; omega) (by rw [← cutL_map]; exact i_tup (e_sliceT (e_ix (nm 1) (nm 2) hkb) (eo_at (nm 4)) eo_no)) (fun x => .int (x + m)) fun x hx s H C cl fp => e_bin (nm 12) (nm 5) b2_add)) (b2_catT (by have := c1 none (some w0); have := cutL_le rk (some w0) none; rw [List.length_map]; omega))) ?_
    refine run_set (i := 9) gd rfl (e_lst (a_cons (e_bin (e_bin (e_sliceT (nm 1) eo_no (eo_at (nm 2))) (e_tup (a_cons (nm 6) a_nil)) (b2_catT (by have := c2 none (some k); simp; omega))) (e_sliceT (nm 1) (eo_at (e_bin (nm 2) e_int b2_add)) eo_no) (b2_catT (by have := c2 none (some k); have := c2 (some (k + 1)) none; simp; omega)))
      (a_cons (e_tupleL gd (nm 7))
      (a_cons (e_bin (e_sliceT (nm 1) eo_no (eo_at (nm 2))) (e_sliceT (nm 1) (eo_at (e_bin (nm 2) e_int b2_add)) eo_no) (b2_catT (by have := c2 none (some k); have := c2 (some (k + 1)) none; omega)))
      (a_cons (e_bin (nm 1) (e_sliceT (nm 1) (eo_at (nm 2)) (eo_at (e_bin (nm 2) e_int b2_add))) (b2_catT (by have := c2 (some k) (some (k + 1)); omega)))
      (a_cons (e_bin (e_bin (e_sliceT (nm 1) eo_no (eo_at (nm 2))) (e_tup (a_cons (nm 8) a_nil)) (b2_catT (by have := c2 none (some k); simp; omega))) (e_sliceT (nm 1) (eo_at (e_bin (nm 2) e_int b2_add)) eo_no) (b2_catT (by have := c2 none (some k); have := c2 (some (k + 1)) none; simp; omega))) a_nil)))))) ?_
    refine run_set (i := 9) gd rfl (e_bin (nm 9) (e_lst (a_cons (e_listT gd (nm 1))
      (a_cons (e_bin (e_bin (e_sliceT (nm 1) eo_no (eo_at (nm 2))) (e_tup (a_cons (e_listT gd (e_ix (nm 1) (nm 2) hkb)) a_nil)) (b2_catT (by have := c2 none (some k); simp; omega))) (e_sliceT (nm 1) (eo_at (e_bin (nm 2) e_int b2_add)) eo_no) (b2_catT (by have := c2 none (some k); have := c2 (some (k + 1)) none; simp; omega)))
      (a_cons (e_bin (e_bin (e_sliceT (nm 1) eo_no (eo_at (nm 2))) (e_tup (a_cons (e_sliceT (e_ix (nm 1) (nm 2) hkb) eo_no (eo_at (e_un e_int b1_neg))) a_nil)) (b2_catT (by have := c2 none (some k); simp; omega))) (e_sliceT (nm 1) (eo_at (e_bin (nm 2) e_int b2_add)) eo_no) (b2_catT (by have := c2 none (some k); have := c2 (some (k + 1)) none; simp; omega)))
      (a_cons (e_bin (e_bin (e_sliceT (nm 1) eo_no (eo_at (nm 2))) (e_tup (a_cons e_non a_nil)) (b2_catT (by have := c2 none (some k); simp; omega))) (e_sliceT (nm 1) (eo_at (e_bin (nm 2) e_int b2_add)) eo_no) (b2_catT (by have := c2 none (some k); have := c2 (some (k + 1)) none; simp; omega))) a_nil))))) (b2_catL (by simp))) ?_
    refine run_ret (Ev.mono (Ev.lift (c := 0) (e_bin (nm 9) (e_lst (a_cons (e_bin (e_bin (e_sliceT (nm 1) eo_no (eo_at (nm 2))) (e_tup (a_cons (e_bin (e_bin (e_sliceT (e_ix (nm 1) (nm 2) hkb) eo_no (eo_at (nm 4))) (e_tup (a_cons e_bl a_nil)) (b2_catT (by have := c1 none (some w0); simp; omega))) (e_sliceT (e_ix (nm 1) (nm 2) hkb) (eo_at (e_bin (nm 4) e_int b2_add)) eo_no) (b2_catT (by have := c1 none (some w0); have := c1 (some (w0 + 1)) none; simp; omega))) a_nil)) (b2_catT (by have := c2 none (some k); simp; omega))) (e_sliceT (nm 1) (eo_at (e_bin (nm 2) e_int b2_add)) eo_no) (b2_catT (by have := c2 none (some k); have := c2 (some (k + 1)) none; simp; omega)))
      (a_cons e_non (a_cons (e_tup a_nil) (a_cons (nm 1) a_nil))))) (b2_catL (by simp)))) (fun d e => ?_) (Nat.le_refl _))
    exact ⟨_, e.trans (congrArg PyData.list (last4 _ _ _ _ _)), by simp⟩
end
end Pn

set_option Elab.async false
set_option linter.all false
set_option maxRecDepth 100000
set_option maxHeartbeats 1000000
/-! PnW: some rows. -/
namespace Pn
open PySem PySem.Spec PyProof.Rows L2

section
variable {X : Cx} {T : Option Addr} {c c1 c2 k : Nat} {rest : List Stmt} {ρ ρ' : List Sl} {Ω : Om} {Ψ : List Sl → Om} {R : PyData → Prop} {S : List Addr}
/-- y = [..], y a local, the walk over what is held: a new list of plain things -/
theorem rx_lcF {α : Type} {i : Nat} {y : Str} {py pos spos : Pos} {elt tg iter : Expr} {scope : Scope} {own : List (Str × Nat)} (hX : Good X k) (hi' : X.N[i]? = some y) (ok : BlkOk X.N X.env.scope scope own) (st : Stb T Ω) (hk : Knows T Ω S ρ ρ') (enc : α → PyData) (xs : List α) (hl : xs.length ≤ 100000) (hi : Ei0 X tg iter ρ' (xs.map enc)) (g : TG) (js : List Nat) (put : α → List Sl → List Sl) (f : α → PyData)
    (hg : ∀ (s : Shared) (H : Hp) (C : Addr) (cl : List (Str × Addr)) (fp : List Addr), PG (X.blk s H scope (compEnvC scope cl C X.env) fp) tg g) (hgk : ∀ a ∈ xs, GOk g js (enc a) (put a)) (hjs : ∀ i ∈ js, i ∈ own.map (·.2))
    (he : ∀ a ∈ xs, ∀ (s : Shared) (H : Hp) (C : Addr) (cl : List (Str × Addr)) (fp : List Addr), E (X.blk s H scope (compEnvC scope cl C X.env) fp) elt (put a (wipeS ρ' (own.map (·.2)))) (f a)) (hf : (xs.map f).all flatD = true)
    (kk : RX X T c rest (ρ.set i (.dat (.list (xs.map f)))) Ω Ψ R)
    (hyl : X.env.scope.names.lookup y = some .local := by rfl) (hsw : swapsWith (.ListComp elt [⟨tg, iter, [], 0⟩] scope pos) (some (.Name y py)) spos.line X.env = pure true := by exact sw_true rfl rfl rfl (by decide +kernel)) (hs : ∀ x, foldedSetIterable iter X.env x = pure x := by intro _; rfl) :
    RX X T c (.Assign [.Name y py] (.ListComp elt [⟨tg, iter, [], 0⟩] scope pos) spos :: rest) ρ Ω Ψ R := fun G0 H0 n0 c0 N σ H n om pr po hn D q1 q2 => by
  refine WSs.of (pss_cons (ps_setLc (te := teB X scope elt) hX.calm hX.nd hi' hyl hsw (wi tg iter) ok hg (fun _ _ _ _ _ => pts_nil) (fun s H C cl fp => ⟨fun pins s' σ H' Q I h => (h s H C cl fp).go pins s' I⟩) hs) (wss rest)) ?_
  show tLc (WI X tg iter) g tYes (teB X scope elt) (own.map (·.2)) σ H (fun x H1 => WSs X rest D (σ.set i (some x)) H1)
  obtain ⟨hS, he'⟩ := hk _ _ _ om
  have p2 := view_pre hS pr
  refine lc_read (scope := scope) hX enc xs hl hi g tYes js put (fun _ => true) f hgk hjs (fun a ha M σ' H' ev ex Q q => q M H' (Gr.refl ex)) (fun a ha _ => he a ha) _ σ H n (Pre.toNone ⟨he' σ p2.env, p2.ex, p2.tin⟩) (by have := po.le; omega) _ fun D' N3 H' n' o hD r => ?_
  rw [List.filter_eq_self.mpr (fun _ _ => rfl)] at r
  have hDS : D' ∉ S := fun z => by
    obtain ⟨_, _, _, u, e⟩ := hS D' z
    rw [hD] at e
    cases e
  have o1 := unview hS (Po.pure (c := 0) p2.tin o.gr)
  have r1 : Rp (subS N3 S) (.ref D') (.list (xs.map f)) := by
    cases r with
    | lst ha hr => exact .lst (by rw [subS_out hDS]; exact ha) (hr.unflat hf _)
  have p1 := pr.next o1
  exact kk G0 H0 n0 (c0 + 0) _ _ H' n (st _ _ _ _ _ om o1.gr) ⟨p1.env.set i r1, p1.ex, p1.tin⟩ (po.trans o1) (by omega) D (fun ρ' N' σ' H' n' s pr po => q1 ρ' N' σ' H' n' s pr (po.weak (by omega))) (fun v d N' H' n' hr r po => q2 v d N' H' n' hr r (po.weak (by omega)))
end
def F_some_rows : List PyData → (PyData → Prop) → Prop := fun ds R => ∃ S rows L split line off, ds = [layD S rows, tupII split, tupI line, .int off] ∧ Lay S rows L ∧ split ≠ [] ∧ split.length ≤ 1000 ∧ (∀ g ∈ split, Grp rows g) ∧ (∀ g ∈ split, ∀ w, 0 ≤ exAt rows g w ∧ exAt rows g w ≤ 10000) ∧ line.length = L ∧ 0 ≤ off ∧ off ≤ 10000 ∧
  R = fun d => (d = .none ∧ 2 ≤ L) ∨ ∃ rs : List (List Int), d = tupII rs ∧ rs.length = split.length ∧ ∀ r ∈ rs, r.length = L
section
variable {P : Program} {w : World} {K : PySem.W.Frag} {mg : Str → Option Value} {base : Heap} {f : Addr} {fd : FuncData}
theorem dn_some_rows (hB : Bt mg) (D : Dn P w K mg base 2 "_law_of" p_of (spT 1 F_of)) (D1 : Dn P w K mg base 2 "_law_let" p_let (spD F_let)) (hf : FnP K "_law_some_rows" s_some_rows f fd) (hm : mg "_law_some_rows" = some (.ref f)) : Dn P w K mg base 3 "_law_some_rows" p_some_rows (spT 1000 F_some_rows) := by
  refine dn_draw hf hm hB sc_some_rows (hf.bindsN fun _ _ _ _ _ _ us hl => match us, hl with | [_, _, _, _, _], _ => rfl) (fun ds R h => ?_) (fun cdv A0 outer s H X0 gd a ds R h => ?_)
  · obtain ⟨S, rows, L, split, line, off, rfl, _⟩ := h
    rfl
  · obtain ⟨S, rows, L, split, line, off, rfl, hL, hne, hs, hg, hx, hln, ho1, ho2, rfl⟩ := h
    have hL1 := hL.L1
    have hL2 := hL.L2
    have hS1 := hL.S1
    have hspos := List.length_pos_iff.mpr hne
    have hlen2 : (line.map PyData.int).length = L := by rw [List.length_map]; exact hln
    have hlen1 : (split.map tupI).length = split.length := List.length_map ..
    have hlt := letsOf_ok (off := off) (split := split) hL
    have hltl : (letsOf S off rows L split).length = split.length := by simp [letsOf]
    have hletD : split.map (fun g => lstII (lets S off (exRow rows L g))) = (letsOf S off rows L split).map lstII := by unfold letsOf; rw [List.map_map]; rfl
    generalize hLT : letsOf S off rows L split = lt at hlt hltl hletD
    refine rx_start (Ω := fun _ _ _ => True) (Ψ := fun _ _ _ _ => False) ?_ (fun _ _ => True.intro) (fun _ _ _ _ h => h.elim)
    refine rx_parS (c1 := 0) (c2 := 0) (c3 := 1000) (i := 5) (j := 6) gd rfl rfl (eso_ev (c := 0) (P := fun z => z = lstIII lt) Stb.triv (Ev.o (Ev.lift (Ev.to (e_lcN (Nn := n_some_rows) (sc := defScope s_some_rows) gd 13 rfl rfl tupI split (by omega) (i_tup (nm 2)) (fun g => lstII (lets S off (exRow rows L g))) fun g hgm s H C cl fp => e_call D1 gd.blk (by decide) (by rfl) (a_cons (nm 1) (a_cons (nm 13) (a_cons (nm 4) a_nil))) ⟨S, rows, L, g, off, rfl, hL, hg g hgm, ho1, ho2, hx g hgm, rfl⟩) (by rw [hletD]; rfl)))))
      (W2 := fun s u H0 N H => ∃ p qs, (s = .dat (lstIII lt) ∧ u = .raw (.ref p)) ∧ Rws (some a) p qs (List.replicate split.length [0]) H0 N H) (fun s => ?_) (fun s u => ?_) (by omega)
    · refine fun G0 H0 n0 c0 N σ H n om pr po hn Q q => ?_
      obtain ⟨⟨d, rfl, rfl⟩, _⟩ := om
      refine eso_rows (hs := fun _ => by rfl) (Ω := fun _ _ _ => True) (own := [("_law_group", 13)]) (j := 13) gd (blkOk_by (by show blkC n_some_rows (defScope s_some_rows) _ _ = true; decide +kernel)) rfl tupI split (by omega) (i_tup (nm 2)) (fun _ _ _ _ _ => pg_own gd.nd rfl (.inl rfl) (fun z => by cases z)) Stb.triv G0 H0 n0 c0 N σ H n True.intro pr po hn Q fun v s N' H' n' h => q v s N' H' n' ?_
      obtain ⟨p, qs, rfl, r, _⟩ := h
      exact ⟨p, qs, ⟨rfl, rfl⟩, r⟩
    refine rx_ex fun p => rx_ex fun qs => rx_and fun ⟨h1, h2⟩ => ?_
    subst h1 h2
    refine rx_forO (α := Nat) (c1 := 0) (c2 := 1) (c3 := 0) (Pd := fun z => z = (List.range (L - 1)).map fun (i : Nat) => PyData.int ((i : Int) + 1)) gd .never (pg_name (i := 7) gd.nd rfl (.inr rfl)) Rws.stb (Ei.o (Ei.lift (i_range1N gd e_int (Ev.to (e_lenT gd (ds := line.map PyData.int) (nm 3)) (by rw [hlen2])) (by omega)))) (L - 1) (fun ds e => ?_) (by omega)
    subst e
    refine ⟨fun i => .int ((i : Int) + 1), List.range (L - 1), [7], fun i ρ => ρ.set 7 (.dat (.int ((i : Int) + 1))), fun i ρ' H0 N H => ∃ iss : List (List Int), (iss.length = split.length ∧ (∀ is ∈ iss, is.length = i + 1) ∧ ∃ x7 x8 x9 x10 x11 x12 x13 x14, ρ' = [.tin, .dat (layD S rows), .dat (tupII split), .dat (tupI line), .dat (.int off), .dat (lstIII lt), .raw (.ref p), x7, x8, x9, x10, x11, x12, x13, x14]) ∧ Rws (some a) p qs iss H0 N H, rfl, by rw [List.length_range]; exact Nat.le_refl _, fun _ _ => gok_name, fun _ _ => Stb.ex fun _ => Stb.and Rws.stb, fun _ _ _ h => ⟨_, ⟨List.length_replicate, fun is his => by rw [List.eq_of_mem_replicate his]; rfl, _, _, _, _, _, _, _, _, rfl⟩, h⟩, fun i j ρ' hj => ?_, fun ρ' => ?_⟩
    · refine rx_ex fun iss => rx_and fun ⟨hil, his, x7, x8, x9, x10, x11, x12, x13, x14, hρ⟩ => ?_
      subst hρ
      obtain ⟨hi, e⟩ := List.getElem?_eq_some_iff.mp hj
      rw [List.getElem_range] at e
      rw [List.length_range] at hi
      subst e
      have hne' : ∀ is ∈ iss, is ≠ [] := fun is h z => by have := his is h; rw [z] at this; cases this
      refine rx_asgS (c1 := 0) (c2 := 1) (i := 8) (W := fun s H0 N H => ∃ gp, (s = .raw (.ref gp) ∧ gp ∉ p :: qs) ∧ Own (some a) gp [] H0 N H ∧ Rws (some a) p qs iss H0 N H) gd rfl ?_ fun s => ?_
      · refine fun G0 H0 n0 c0 N σ H n om pr po hn Q q => ?_
        refine eso_newS (Pd := fun z => z = []) (p :: qs) (fun _ _ _ h b hb => h.some_of hb) Rws.stb (enew_lst (Ea.lift a_nil) (fun ds e => by rw [e]; decide)) G0 H0 n0 c0 N σ H n om pr po hn Q fun v s N' H' n' h => q v s N' H' n' ?_
        obtain ⟨q1, ds, ⟨rfl, rfl, hq1⟩, ow, r⟩ := h
        exact ⟨q1, ⟨rfl, hq1⟩, ow, r⟩
      refine rx_ex fun gp => rx_and fun ⟨hs', hgp⟩ => ?_
      subst hs'
      have hst : ∀ {ds : List PyData} {jss : List (List Int)}, Stb (some a) (fun H0 N H => Own (some a) gp ds H0 N H ∧ Rws (some a) p qs jss H0 N H) := fun {ds jss} _ _ _ _ _ h g => ⟨Own.stb _ _ _ _ _ h.1 g, Rws.stb _ _ _ _ _ h.2 g⟩
      have lineAt : ∀ {Y : Cx} (j : Nat), j < L → BX Y (tupI line) (.int (j : Int)) (.int (line.getD j 0)) := fun {Y} j hj => bx_tupI (by rw [atI_in 0 (by omega) (by omega)]; rfl)
      refine rx_forO (α := PyData) (c1 := 0) (c2 := 0) (c3 := 1) (Pd := fun z => z.length ≤ 1000 ∧ ∀ d ∈ z, d = .none ∨ ∃ i : Int, d = .int i) gd .never (pg_name (i := 9) gd.nd rfl (.inr rfl)) hst (Ei.o (ei_list (ev_if (c1 := 0) (c2 := 0) (Pt := fun _ => True) ((Et.lift (eb_cmp (e_ix (nm 3) (nm 7) (lineAt (i + 1) (by omega))) (e_ix (nm 3) (e_bin (nm 7) e_int b2_sub) (by rw [show ((i : Int) + 1 - 1) = (i : Int) by omega]; exact lineAt i (by omega))) b2_eqI)).mono (fun _ _ => True.intro) (Nat.le_refl _))
          (fun _ => Ev.mono (Ev.lift (c := 0) (e_lst (a_cons e_non a_nil))) (fun d e => ⟨_, ⟨by decide, fun d hd => .inl (List.mem_singleton.mp hd)⟩, e⟩) (Nat.le_refl _))
          (fun _ => Ev.mono (Ev.lift (c := 0) (e_listRange1 (n := (split.map tupI).length) gd (by rfl) (by rfl) (e_lenT gd (nm 2)) (by omega) (by omega))) (fun d e => ⟨_, ⟨by unfold rangeD; rw [List.length_map, List.length_range, hlen1]; omega, fun d hd => .inr (by
            unfold rangeD at hd
            obtain ⟨j, _, rfl⟩ := List.mem_map.mp hd
            exact ⟨_, rfl⟩)⟩, e⟩) (Nat.le_refl _))))) 1000 (fun ds e => ?_) (by omega)
      obtain ⟨hdl, hdk⟩ := e
      refine ⟨id, ds, [9], fun d ρ => ρ.set 9 (.dat d), fun t ρ' H0 N H => ∃ gl : List (List Int), (gl.length ≤ t ∧ (∀ l ∈ gl, l.length = split.length) ∧ ∃ x9 x10 x11 x12 x13 x14, ρ' = [.tin, .dat (layD S rows), .dat (tupII split), .dat (tupI line), .dat (.int off), .dat (lstIII lt), .raw (.ref p), .dat (.int ((i : Int) + 1)), .raw (.ref gp), x9, x10, x11, x12, x13, x14]) ∧ Own (some a) gp (gl.map lstI) H0 N H ∧ Rws (some a) p qs iss H0 N H, by rw [List.map_id], hdl, fun _ _ => gok_name, fun _ _ => Stb.ex fun _ => Stb.and hst, fun _ _ _ h => ⟨[], ⟨Nat.le_refl _, fun _ h => absurd h (by simp), _, _, _, _, _, _, rfl⟩, h⟩, fun kq d ρ' hd => ?_, fun ρ' => ?_⟩
      · refine rx_ex fun gl => rx_and fun ⟨hgl, hgm, y9, y10, y11, y12, y13, y14, hρ⟩ => ?_
        subst hρ
        have hdd := hdk d (List.mem_of_getElem? hd)
        obtain ⟨hkq, _⟩ := List.getElem?_eq_some_iff.mp hd
        obtain ⟨eqk, hop⟩ : ∃ eqk : Nat → Bool, ∀ {Y : Cx} (n : Nat), B2 Y (compareOp .Eq) (.int (n : Int)) d (.bool (eqk n)) := by
          rcases hdd with rfl | ⟨i, rfl⟩
          · exact ⟨fun _ => false, fun {Y} n => b2_eqIN⟩
          · exact ⟨fun n => decide ((n : Int) = i), fun {Y} n => b2_eqI⟩
        have hen : ∀ q ∈ enumL 0 iss, q.2 ∈ iss := fun q hq => by
          obtain ⟨j, hj⟩ := List.mem_iff_getElem?.mp hq
          exact List.mem_of_getElem? (enumL_get hj).1
        refine rx_lcF (i := 10) (own := [("_law_place", 14), ("_law_own", 11)]) (S := p :: qs) gd rfl (blkOk_by (by show blkC n_some_rows (defScope s_some_rows) _ _ = true; decide +kernel)) hst (rws_knows (i := 6) rfl (fun _ _ _ h => h.2)) (fun q : Nat × List Int => .tuple [.int (q.1 : Int), lstI q.2]) (enumL 0 iss) (by rw [enumL_length]; omega) (by rw [← enumL_map]; exact i_enumL gd (by rfl) (a_cons (nm 6) a_nil)) (gTup K 2 (gCons (gName 14) (gCons (gName 11) gNil))) [14, 11] (fun q ρ => (ρ.set 14 (.dat (.int (q.1 : Int)))).set 11 (.dat (lstI q.2)))
          (fun q => .int (lastI q.2 + if eqk q.1 then 1 else 0)) (fun s H C cl fp => pg_tup gd.calm (pgs_cons (pg_own gd.nd rfl (.inl rfl) (fun z => by cases z)) (pgs_cons (pg_own gd.nd rfl (.inl rfl) (fun z => by cases z)) pgs_nil))) (fun _ _ => gok_tup2) (fun i h => by simpa using h) (fun q hq s H C cl fp => e_bin (e_ix (nm 11) (e_un e_int b1_neg) (bx_lstI (atI_lastI (hne' _ (hen q hq))))) (e_intB gd.blk (e_cmp (nm 14) (nm 9) (hop q.1))) b2_add) (by rw [List.all_map]; exact List.all_eq_true.mpr fun _ _ => rfl) ?_
        have els : PyData.list ((enumL 0 iss).map fun q => PyData.int (lastI q.2 + if eqk q.1 then 1 else 0)) = lstI ((enumL 0 iss).map fun q => lastI q.2 + if eqk q.1 then 1 else 0) := by
          unfold lstI
          rw [List.map_map]
          rfl
        rw [els]
        have hlsl : ((enumL 0 iss).map fun q => lastI q.2 + if eqk q.1 then 1 else 0).length = split.length := by rw [List.length_map, enumL_length]; exact hil
        generalize ((enumL 0 iss).map fun q => lastI q.2 + if eqk q.1 then 1 else 0) = ls at hlsl
        refine rx_ifO (c1 := 0) (c2 := 0) (c3 := 0) (Pt := fun _ => True) (Ω1 := fun ρ' H0 N H => ∃ gl : List (List Int), (gl.length ≤ kq + 1 ∧ (∀ l ∈ gl, l.length = split.length) ∧ ∃ x9 x10 x11 x12 x13 x14, ρ' = [.tin, .dat (layD S rows), .dat (tupII split), .dat (tupI line), .dat (.int off), .dat (lstIII lt), .raw (.ref p), .dat (.int ((i : Int) + 1)), .raw (.ref gp), x9, x10, x11, x12, x13, x14]) ∧ Own (some a) gp (gl.map lstI) H0 N H ∧ Rws (some a) p qs iss H0 N H) hst
          (Et.o ((Et.lift (eb_cmp (e_lcTI (Nn := n_some_rows) (sc := defScope s_some_rows) gd 12 11 rfl rfl PyData.int lstII (ls.zip lt) (by rw [List.length_zip]; omega) (by rw [← zipD_map]; exact i_zipL gd (by rfl) (a_cons (nm 10) (a_cons (nm 5) a_nil))) (fun q => !((q.2.getD (i + 1) []).map PyData.int).any fun z => PyData.eqv z (.int q.1)) (fun _ => .int 1) (fun q hq s H C cl fp => ?_) (fun q hq ht s H C cl fp => e_int)) (e_lst a_nil) (b2_eq gd (shp_ones _) shp_nil))).mono (fun _ _ => True.intro) (Nat.le_refl _))) (fun _ => ?_) (fun _ => ?_) (fun ρ' => rx_nil fun _ _ _ h => h)
        · have hq2 := hlt _ (List.of_mem_zip hq).2
          exact eb_cmp (nm 12) (e_ix (nm 11) (nm 7) (bx_mapL (enc := lstI) (xs := q.2) (i := (i : Int) + 1) (z := q.2.getD (i + 1) []) (by rw [atI_in [] (by omega) (by omega)]; rfl))) (b2_niL gd.blk (by simp [SeqAt.shaped, PyData.canLay0, PyData.depth]) (shp_lstI _))
        · refine rx_append (c1 := 0) (c2 := 0) (p := gp) (i := 8) (ds := gl.map lstI) (P := fun z => z = lstI ls) (Ω' := fun _ _ _ => True) rfl rfl (fun _ _ _ h => h.1) hst (.inl (Ev.lift (nm 10))) (by rw [List.length_map]; omega) (fun _ _ _ _ _ _ _ _ _ _ _ _ _ _ => .inr True.intro) (fun d' hd' => rx_nil fun H0 N H h => ?_)
          subst hd'
          obtain ⟨⟨vs, v, H1, rfl, hv, om1, rv⟩, ow⟩ := h
          refine ⟨gl ++ [ls], ⟨?_, fun l hl => ?_, _, _, _, _, _, _, rfl⟩, by rw [List.map_append]; exact ow, om1.2.upd_ne hgp⟩
          · rw [List.length_append]
            simp only [List.length_singleton]
            omega
          · rcases List.mem_append.mp hl with h | h
            · exact hgm l h
            · rw [List.mem_singleton.mp h]; exact hlsl
        · exact rx_nil fun H0 N H h => ⟨gl, ⟨by omega, hgm, _, _, _, _, _, _, rfl⟩, h⟩
      · refine rx_ex fun gl => rx_and fun ⟨hgl, hgm, y9, y10, y11, y12, y13, y14, hρ⟩ => ?_
        subst hρ
        have hemp : PyData.eqv (lstII gl) (.list []) = gl.isEmpty := by
          rw [lstII, eqv_nil]
          cases gl <;> rfl
        refine rx_ifO (c1 := 0) (c2 := 0) (c3 := 1) (Pt := fun b => b = gl.isEmpty) (Ω1 := fun ρ' H0 N H => (gl ≠ [] ∧ ρ' = [.tin, .dat (layD S rows), .dat (tupII split), .dat (tupI line), .dat (.int off), .dat (lstIII lt), .raw (.ref p), .dat (.int ((i : Int) + 1)), .raw (.ref gp), y9, y10, y11, y12, y13, y14]) ∧ Own (some a) gp (gl.map lstI) H0 N H ∧ Rws (some a) p qs iss H0 N H) hst
          (eto_peek (own_knows (i := 8) rfl (fun _ _ _ h => h.1)) (Et.lift (Et.to (eb_cmp (nm 8) (e_lst a_nil) (b2_eq gd (shp_lstII gl) shp_nil)) hemp))) (fun _ => rx_retO (Ev.o (Ev.mono (Ev.lift (c := 0) e_non) (fun d e => .inl ⟨e, by omega⟩) (Nat.le_refl _)))) (fun h => rx_nil fun H0 N H om => ⟨⟨fun z => (by rw [z] at h; cases h), rfl⟩, om⟩) (fun ρ' => ?_)
        refine rx_and fun ⟨hgne, hρ⟩ => ?_
        subst hρ
        refine rx_know (own_knows (i := 8) rfl (fun _ _ _ h => h.1)) (Ω' := Rws (some a) p qs iss) (fun H0 N H h => ⟨h.2.nd, fun b hb => ⟨(h.2.fr b hb).1, (h.2.fr b hb).2.1, by rw [addS_out (fun z => hgp (by rw [← List.mem_singleton.mp z]; exact hb))]; exact (h.2.fr b hb).2.2⟩, h.2.hp, h.2.hq, h.2.len⟩) ?_
        refine rx_forget 11 (rx_forget 12 ?_)
        refine rx_rows (c1 := 1) (c2 := 0) (jr := 6) (jo := 11) (jb := 12) (f := fun _ b => b) (Pb := fun _ => True) gd .never rfl rfl rfl rfl rfl (by decide) (pg_tup gd.calm (pgs_cons (pg_name (i := 11) gd.nd rfl (.inl rfl)) (pgs_cons (pg_name (i := 12) gd.nd rfl (.inl rfl)) pgs_nil)))
          (Ev.mono (ev_callT (c1 := 0) (c2 := 1) (P := fun d => d ∈ gl.map lstI) D gd (by decide) (by rfl) (i := 0) rfl (.inl rfl) rfl rfl (Ea.lift (a_cons (nm 8) a_nil)) (fun ds e => by rw [e]; exact ⟨gl.map lstI, rfl, fun z => hgne (List.map_eq_nil_iff.mp z), by rw [List.length_map]; omega, rfl⟩)) (fun d hd => by
            obtain ⟨l, hl, rfl⟩ := List.mem_map.mp hd
            exact ⟨l, rfl, (hgm l hl).trans hil.symm, True.intro⟩) (Nat.le_refl _)) (fun is h => ⟨hne' is h, (by have := his is h; omega)⟩) (fun Ω q' is b _ _ => Ev.o (Ev.lift (nm 12))) (fun bs hbl _ => rx_nil fun H0 N H h => ⟨_, ⟨?_, fun is hz => ?_, _, _, _, _, _, _, _, _, rfl⟩, h⟩)
        · rw [List.length_zipWith]
          omega
        · obtain ⟨j5, hj5⟩ := List.mem_iff_getElem?.mp hz
          rw [List.getElem?_zipWith] at hj5
          cases e1 : iss[j5]? with
          | none => rw [e1] at hj5; cases hj5
          | some is0 =>
            cases e2 : bs[j5]? with
            | none => rw [e1, e2] at hj5; cases hj5
            | some b0 =>
              rw [e1, e2] at hj5
              have hj6 : grow (fun _ b => b) is0 b0 = is := Option.some.inj hj5
              subst hj6
              have := his is0 (List.mem_of_getElem? e1)
              unfold grow
              rw [List.length_append, this]
              rfl
    · refine rx_ex fun iss => rx_and fun ⟨hil, his, x7, x8, x9, x10, x11, x12, x13, x14, hρ⟩ => ?_
      subst hρ
      rw [List.length_range] at his
      refine rx_freezeS (rws_knows (i := 6) rfl (fun _ _ _ h => h)) (run_ret (Ev.mono (Ev.lift (c := 0) (e_tupleL gd (e_lcN (Nn := n_some_rows) (sc := defScope s_some_rows) gd 11 rfl rfl lstI iss (by omega) (i_list (nm 6)) tupI fun g hg s H C cl fp => e_tupleL gd.blk (nm 11)))) (fun d e => .inr ⟨iss, e, hil, fun r hr => by have := his r hr; omega⟩) (Nat.le_refl _)))
end
end Pn

set_option Elab.async false
set_option linter.all false
set_option maxRecDepth 100000
set_option maxHeartbeats 1000000
/-! PnX: off_right. -/
namespace Pn
open PySem PySem.Spec PyProof.Rows L2

/-! ### a call by keywords alone -/
section
variable {X : Cx} {k : Nat} {f : Addr} {fd : FuncData} {ps ks : List Str} {sp : L2.Sp} {x : Str} {p pos : Pos} {kws : List Keyword} {tk : TA} {g : List Value → List Value → List Value} {gV : List V → List V → List V}
theorem pe_callKZ (F : FnOk X.prog X.w X.K X.mg X.base CX0 k f fd ps sp) (hr : Room k X.A) (hg : Gl X x) (hm : X.mg x = some (.ref f)) (hk : PySem.W.keepIn X.K (.ref f) = true) (hb : KBinds X.K fd ps ks g gV) {E : XK} (hx : Passes CX0 X E)
    (hkw : PK X kws tk) (hall : (backToKw pos (keywordEach kws X.env)).all (·.1.isSome) = true := by rfl) (hks : (backToKw pos (keywordEach kws X.env)).filterMap (·.1) = ks := by rfl)
    (hdb : (x == ("__debug__" : Str)) = false := by decide) (hpl : ((backTo pos (starEach [] X.env)).any (·.1) || (backToKw pos (keywordEach kws X.env)).any (·.1.isNone)) = false := by rfl) :
    PE X (.Call (.Name x p) [] kws pos) (fun σ H Q => tk σ H fun zs H2 => sp (gV [] zs) H2 Q E) := by
  refine ⟨fun pins s σ H Q I h => ?_⟩
  refine wpAny_Call_Name_kw (ld_glob I hg hm ?_ hdb)
  refine PySem.W.callWith_KW0 (h₀ := X.base) I.ok.mod.kin hk hall (thn (hkw.run pos pins s σ H _ I h) fun ws s2 ⟨zs, H2, I2, rz, q2⟩ => ⟨I2.kIn, ?_⟩) hpl
  rw [hks]
  exact run_fnk (us := []) (vs := []) F hr hb hx I2 .nil rz q2
end
def turnK {α : Type} (us ws : List α) : List α := match us, ws with
  | [], [t, o, r, s, l] => [l, s, r, o, t]
  | _, _ => []
theorem kb_are_followed {K : PySem.W.Frag} {f : Addr} {fd : FuncData} (hf : FnP K "are_followed" s_are_followed f fd) : KBinds K fd p_are_followed ["thing", "off", "row", "split", "layout"] turnK turnK := by
  refine ⟨fun s us ws _ hl => ?_, fun {vs us zs ws} r1 r2 => ?_⟩
  · obtain ⟨oc, od, dV, kV, doc, pm, an, cdv, ct, osl, rfl, lk, hcd, hD, hK⟩ := hf.ex
    rcases hD with ⟨_, rfl⟩ | ⟨e, _⟩
    · refine .of_eq ?_
      match us, ws, hl with
      | [], [t, o, r, s, l], _ => rfl
      | [], [], h => cases h
      | [], [_], h => cases h
      | [], [_, _], h => cases h
      | [], [_, _, _], h => cases h
      | [], [_, _, _, _], h => cases h
      | [], _ :: _ :: _ :: _ :: _ :: _ :: _, h => cases h
      | _ :: _, [], h => cases h
      | _ :: _, _ :: _, h => cases h
    · exact absurd rfl e
  · cases r1 with
    | cons r1 t1 =>
      have e : ∀ {α : Type} (a : α) (l m : List α), turnK (a :: l) m = [] := fun {α} a l m => by cases m <;> rfl
      rw [e, e]
      exact .nil
    | nil =>
      match zs, ws, r2 with
      | [], [], .nil => exact .nil
      | [_], [_], .cons _ .nil => exact .nil
      | [_, _], [_, _], .cons _ (.cons _ .nil) => exact .nil
      | [_, _, _], [_, _, _], .cons _ (.cons _ (.cons _ .nil)) => exact .nil
      | [_, _, _, _], [_, _, _, _], .cons _ (.cons _ (.cons _ (.cons _ .nil))) => exact .nil
      | [_, _, _, _, _], [_, _, _, _, _], .cons a (.cons b (.cons c (.cons d (.cons e .nil)))) => exact .cons e (.cons d (.cons c (.cons b (.cons a .nil))))
      | _ :: _ :: _ :: _ :: _ :: _ :: _, _ :: _ :: _ :: _ :: _ :: _ :: _, .cons _ (.cons _ (.cons _ (.cons _ (.cons _ (.cons _ _))))) => exact .nil
/-- are_followed(thing=.., off=.., row=.., split=.., layout=..) -/
theorem e_folK {X : Cx} {k : Nat} {f : Addr} {fd : FuncData} {ρ : List Sl} {e1 e2 e3 e4 e5 : Expr} {k1 k2 k3 k4 k5 p pos : Pos} {a b c d t r : PyData} (hX : Good X k) (F : FnOk X.prog X.w X.K X.mg X.base CX0 6 f fd p_are_followed (spD F_are_followed)) (hf : FnP X.K "are_followed" s_are_followed f fd) (hm : X.mg "are_followed" = some (.ref f)) (hk : 6 ≤ k)
    (h1 : E X e1 ρ t) (h2 : E X e2 ρ d) (h3 : E X e3 ρ c) (h4 : E X e4 ρ b) (h5 : E X e5 ρ a) (hF : F_are_followed [a, b, c, d, t] r) (hg : Gl X "are_followed" := by rfl) :
    E X (.Call (.Name "are_followed" p) [] [⟨some "thing", e1, k1⟩, ⟨some "off", e2, k2⟩, ⟨some "row", e3, k3⟩, ⟨some "split", e4, k4⟩, ⟨some "layout", e5, k5⟩] pos) ρ r := fun G σ H n pr hn Q q => by
  refine WE.of (pe_callKZ F (hX.room.mono hk) hg hm hf.kp (kb_are_followed hf) pass0 (pk_cons (we e1) (pk_cons (we e2) (pk_cons (we e3) (pk_cons (we e4) (pk_cons (we e5) pk_nil))))) rfl rfl) ?_
  refine h1 G σ H n pr hn _ fun v1 d1 N1 H1 n1 q1 o1 r1 => ?_
  subst q1
  have p1 := pr.next o1
  refine h2 N1 σ H1 n1 p1 (by have := o1.le; omega) _ fun v2 d2 N2 H2 n2 q2 o2 r2 => ?_
  subst q2
  have p2 := p1.next o2
  refine h3 N2 σ H2 n2 p2 (by have := o1.le; have := o2.le; omega) _ fun v3 d3 N3 H3 n3 q3 o3 r3 => ?_
  subst q3
  have p3 := p2.next o3
  refine h4 N3 σ H3 n3 p3 (by have := o1.le; have := o2.le; have := o3.le; omega) _ fun v4 d4 N4 H4 n4 q4 o4 r4 => ?_
  subst q4
  have p4 := p3.next o4
  refine h5 N4 σ H4 n4 p4 (by have := o1.le; have := o2.le; have := o3.le; have := o4.le; omega) _ fun v5 d5 N5 H5 n5 q5 o5 r5 => ?_
  subst q5
  have o := (((o1.trans o2).trans o3).trans o4).trans o5
  refine ⟨N5, _, r, o.gr.nh, .cons r5 (.cons (r4.mono o5.gr.gn) (.cons ((r3.mono o4.gr.gn).mono o5.gr.gn) (.cons (((r2.mono o3.gr.gn).mono o4.gr.gn).mono o5.gr.gn) (.cons ((((r1.mono o2.gr.gn).mono o3.gr.gn).mono o4.gr.gn).mono o5.gr.gn) .nil)))), hF, fun v N6 H6 g r6 => ?_⟩
  exact q v r N6 H6 n5 rfl ((o.trans (Po.pure (c := 0) o.tin g)).weak (by omega)) r6
def softD (S : Int) (rows split : List (List Int)) (line : List Int) : PyData := .list [lstOf (layD S rows), lstOf (tupII split), lstOf (tupI line)]
theorem fol_soft {S : Int} {rows : List (List Int)} {L : Nat} {split : List (List Int)} {line : List Int} (off : Int) (thing : PyData) (hL : Lay S rows L) (hs : split.length ≤ 1000) (hg : ∀ g ∈ split, Grp rows g) (hln : line.length = L) :
    F_are_followed [lstOf (layD S rows), lstOf (tupII split), lstOf (tupI line), .int off, thing] (.bool (folB S rows L split line off thing)) := by
  have f1 := (flat_layD hL 1).lst
  have f2 := (show Flat 4 (tupII split) from flat_rows hs (fun g h => (hg g h).1) 2).lst
  have f3 := (flat_tupI (show line.length ≤ 1000 by rw [hln]; exact hL.L2) 3).lst
  exact ⟨_, _, _, S, rows, L, split, line, off, thing, rfl, f1.1, f2.1, f3.1, f1.2.trans (tupOf_layD S rows), f2.2.trans (tupOf_tupII split), f3.2.trans (tupOf_tupI line), hL, hs, hg, hln, rfl⟩
theorem press_soft {S : Int} {rows : List (List Int)} {L : Nat} {split : List (List Int)} {line : List Int} (off : Int) (thing : PyData) (hL : Lay S rows L) (hs : split.length ≤ 1000) (hg : ∀ g ∈ split, Grp rows g) (hln : line.length = L) :
    F_is_press [lstOf (layD S rows), lstOf (tupII split), lstOf (tupI line), .int off, thing] (.bool (pressD (tbl S off rows L split) line thing)) := by
  have f1 := (flat_layD hL 1).lst
  have f2 := (show Flat 4 (tupII split) from flat_rows hs (fun g h => (hg g h).1) 2).lst
  have f3 := (flat_tupI (show line.length ≤ 1000 by rw [hln]; exact hL.L2) 3).lst
  exact ⟨_, _, _, S, rows, L, split, line, off, thing, rfl, f1.1, f2.1, f3.1, f1.2.trans (tupOf_layD S rows), f2.2.trans (tupOf_tupII split), f3.2.trans (tupOf_tupI line), hL, hs, hg, hln, rfl⟩
def F_off_right : List PyData → (PyData → Prop) → Prop := fun ds R => ∃ S rows L split line off ts, ds = [.tuple [layD S rows, tupII split, tupI line, .int off], softD S rows split line, .list ts] ∧ Lay S rows L ∧ split ≠ [] ∧ split.length ≤ 1000 ∧ (∀ g ∈ split, Grp rows g) ∧ (∀ g ∈ split, ∀ w, 0 ≤ exAt rows g w ∧ exAt rows g w ≤ 10000) ∧ line.length = L ∧ 0 ≤ off ∧ off ≤ 10000 ∧
  ts ≠ [] ∧ ts.length ≤ 1000 ∧ (∀ t ∈ ts, ∃ w lo hi, t = pr w lo hi) ∧ R = fun d => d = .bool true
theorem same_map {α : Type} (xs : List α) (g : α → Bool) (h : xs.length ≤ 1000) : SameOk 1 (.list (xs.map fun x => .bool (g x))) := .lst 0 _ (by rw [List.length_map]; exact h) fun d hd => by
  obtain ⟨x, _, rfl⟩ := List.mem_map.mp hd
  exact .bl 0 _
theorem flat_rep {α : Type} (x : α) : ∀ n : Nat, (List.replicate n [x]).flatten = List.replicate n x
  | 0 => rfl
  | n + 1 => by
    rw [List.replicate_succ, List.flatten_cons, flat_rep x n, List.replicate_succ]
    rfl
section
variable {P : Program} {w : World} {K : PySem.W.Frag} {mg : Str → Option Value} {base : Heap} {f fF : Addr} {fd fdF : FuncData}
theorem dn_off_right (hB : Bt mg) (D1 : Dn P w K mg base 2 "_law_let" p_let (spD F_let)) (D2 : Dn P w K mg base 1 "_law_is_press_by" p_is_press_by (spD F_is_press_by)) (D3 : Dn P w K mg base 6 "is_press" p_is_press (spD F_is_press)) (D4 : ∀ n, Dn P w K mg base (n + 1) "_law_same" p_same (spD (F_same n))) (D5 : Dn P w K mg base 2 "_law_of" p_of (spT 1 F_of))
    (D6 : Dn P w K mg base 3 "_law_some_rows" p_some_rows (spT 1000 F_some_rows)) (D7 : Dn P w K mg base 2 "_law_bent_rows" p_bent_rows (spT 4 F_bent)) (D8 : Dn P w K mg base 3 "_law_are_rows" p_are_rows (spD F_are_rows)) (D9 : Dn P w K mg base 6 "are_followed" p_are_followed (spD F_are_followed)) (FF : FnOk P w K mg base CX0 6 fF fdF p_are_followed (spD F_are_followed)) (hfF : FnP K "are_followed" s_are_followed fF fdF) (hmF : mg "are_followed" = some (.ref fF))
    (hf : FnP K "_law_off_right" s_off_right f fd) (hm : mg "_law_off_right" = some (.ref f)) : Dn P w K mg base 7 "_law_off_right" p_off_right (spT 1005 F_off_right) := by
  refine dn_draw hf hm hB sc_off_right (hf.bindsN fun _ _ _ _ _ _ us hl => match us, hl with | [_, _, _, _], _ => rfl) (fun ds R h => ?_) (fun cdv A0 outer s H X0 gd a ds R h => ?_)
  · obtain ⟨S, rows, L, split, line, off, ts, rfl, _⟩ := h
    rfl
  · obtain ⟨S, rows, L, split, line, off, ts, rfl, hL, hne, hs, hg, hx, hln, ho1, ho2, htne, htl, htp, rfl⟩ := h
    have hL1 := hL.L1
    have hL2 := hL.L2
    have hspos := List.length_pos_iff.mpr hne
    have hlen2 : (line.map PyData.int).length = L := by rw [List.length_map]; exact hln
    have hlen1 : (split.map tupI).length = split.length := List.length_map ..
    have hltl : (letsOf S off rows L split).length = split.length := by simp [letsOf]
    have hby : ∀ t, F_is_press_by [lstIII (letsOf S off rows L split), tupI line, t] (.bool (pressD (tbl S off rows L split) line t)) := fun t => ⟨_, line, L, t, rfl, by omega, hL2, letsOf_ok hL, hln, by rw [pressAD_eq hL hs hln]⟩
    have hletD : split.map (fun g => lstII (lets S off (exRow rows L g))) = (letsOf S off rows L split).map lstII := by unfold letsOf; rw [List.map_map]; rfl
    generalize letsOf S off rows L split = lt at hltl hby hletD
    refine run_tgt (c1 := 0) (c2 := 1005) (pg_tup gd.calm (pgs_cons (pg_name (i := 4) gd.nd rfl (.inr rfl)) (pgs_cons (pg_name (i := 5) gd.nd rfl (.inr rfl)) (pgs_cons (pg_name (i := 6) gd.nd rfl (.inr rfl)) (pgs_cons (pg_name (i := 7) gd.nd rfl (.inr rfl)) pgs_nil))))) (Ev.lift (nm 1)) fun d e => ?_
    subst e
    refine ⟨[4, 5, 6, 7], _, gok_tup4, ?_⟩
    refine run_set (i := 8) gd rfl (Ev.to (d' := lstIII lt) (e_lcN (Nn := n_off_right) (sc := defScope s_off_right) gd 14 rfl rfl tupI split (by omega) (i_tup (nm 5)) (fun g => lstII (lets S off (exRow rows L g))) fun g hgm s H C cl fp => e_call D1 gd.blk (by decide) (by rfl) (a_cons (nm 4) (a_cons (nm 14) (a_cons (nm 7) a_nil))) ⟨S, rows, L, g, off, rfl, hL, hg g hgm, ho1, ho2, hx g hgm, rfl⟩) (by rw [hletD]; rfl)) ?_
    refine run_lc (i := 9) (own := [("_law_own", 10)]) gd rfl (blkOk_by (by show blkC n_off_right (defScope s_off_right) _ _ = true; decide +kernel)) id ts (by omega) (by rw [List.map_id]; exact i_list (nm 3)) (gName 10) [10] (fun d ρ => ρ.set 10 (.dat d)) (fun t => .bool (pressD (tbl S off rows L split) line t)) (fun _ _ _ _ _ => pg_own gd.nd rfl (.inl rfl) (fun z => by cases z)) (fun _ _ => gok_name) (fun i h => by simpa using h) (fun t ht s H C cl fp => e_call D2 gd.blk (by decide) (by rfl) (a_cons (nm 8) (a_cons (nm 6) (a_cons (nm 10) a_nil))) (hby t)) ?_
    refine run_ifRet (b := false) (eb_not (t := true) (eb_val (e_call (D4 1) gd (by decide) (by rfl) (a_cons (e_lcN (Nn := n_off_right) (sc := defScope s_off_right) gd 10 rfl rfl id ts (by omega) (by rw [List.map_id]; exact i_list (nm 3)) (fun t => .bool (pressD (tbl S off rows L split) line t)) fun t ht s H C cl fp => e_call D3 gd.blk (by decide) (by rfl) (a_cons (nm 4) (a_cons (nm 5) (a_cons (nm 6) (a_cons (nm 7) (a_cons (nm 10) a_nil))))) (press_ok off t hL hs hg hln)) (a_cons (nm 9) a_nil)) ⟨_, rfl, same_map _ _ htl, rfl⟩))) (fun h => by cases h) fun _ => ?_
    refine run_asg (c1 := 1) (c2 := 1004) (i := 10) (P := fun d => d ∈ ts) gd rfl (ev_callT (c1 := 0) (c2 := 1) D5 gd (by decide) (by rfl) (i := 0) rfl (.inl rfl) rfl rfl (Ea.lift (a_cons (nm 3) a_nil)) (fun ds e => by rw [e]; exact ⟨ts, rfl, htne, by omega, rfl⟩)) fun d hd => ?_
    obtain ⟨wd, lo, hi, rfl⟩ := htp d hd
    refine run_asg (c1 := 0) (c2 := 1004) (i := 11) (P := fun z => ∃ os : List PyData, z = .list os ∧ os.length ≤ 1000) gd rfl (Ev.mono (Ev.lift (c := 0) (e_lst (a_cons (e_listT gd (ds := [.str wd, .int lo, .int hi]) (nm 10))
      (a_cons (e_sliceT (ds := [.str wd, .int lo, .int hi]) (nm 10) eo_no (eo_at e_int))
      (a_cons (e_bin (nm 10) (e_tup (a_cons e_int a_nil)) (b2_catT (xs := [.str wd, .int lo, .int hi]) (by simp)))
      (a_cons (e_bin (e_tup (a_cons e_str a_nil)) (e_sliceT (ds := [.str wd, .int lo, .int hi]) (nm 10) (eo_at e_int) eo_no) (b2_catT (by have := cutL_le [PyData.str wd, .int lo, .int hi] (some 1) none; simp at this ⊢; omega)))
      (a_cons (e_tup (a_cons (e_ix (nm 10) e_int (bx_tup (d := .str wd) rfl)) (a_cons e_bl (a_cons (e_ix (nm 10) e_int (bx_tup (d := .int hi) rfl)) a_nil))))
      (a_cons (e_tup (a_cons (e_ix (nm 10) e_int (bx_tup (d := .str wd) rfl)) (a_cons (e_ix (nm 10) e_int (bx_tup (d := .int lo) rfl)) (a_cons e_non a_nil))))
      (a_cons e_non (a_cons (e_ix (nm 10) e_int (bx_tup (d := .str wd) rfl)) (a_cons (nm 10) a_nil))))))))))) (fun d e => ⟨_, e, by simp⟩) (Nat.le_refl _)) fun d e => ?_
    obtain ⟨oth, rfl, hol⟩ := e
    show Run _ _ _ _ [.tin, .dat _, .dat (softD S rows split line), .dat _, .dat (layD S rows), .dat (tupII split), .dat (tupI line), .dat (.int off), .dat (lstIII lt), .dat _, .dat _, .dat (.list oth), .no, .no, .no, .no] _ _
    refine run_lc (i := 9) (own := [("_law_its", 15)]) gd rfl (blkOk_by (by show blkC n_off_right (defScope s_off_right) _ _ = true; decide +kernel)) id oth (by omega) (by rw [List.map_id]; exact i_list (nm 11)) (gName 15) [15] (fun d ρ => ρ.set 15 (.dat d)) (fun t => .bool (pressD (tbl S off rows L split) line t)) (fun _ _ _ _ _ => pg_own gd.nd rfl (.inl rfl) (fun z => by cases z)) (fun _ _ => gok_name) (fun i h => by simpa using h) (fun t ht s H C cl fp => e_call D2 gd.blk (by decide) (by rfl) (a_cons (nm 8) (a_cons (nm 6) (a_cons (nm 15) a_nil))) (hby t)) ?_
    refine run_ifRet (b := false) (eb_not (t := true) (eb_val (e_call (D4 1) gd (by decide) (by rfl) (a_cons (e_lcN (Nn := n_off_right) (sc := defScope s_off_right) gd 15 rfl rfl id oth (by omega) (by rw [List.map_id]; exact i_list (nm 11)) (fun t => .bool (pressD (tbl S off rows L split) line t)) fun t ht s H C cl fp => e_call D3 gd.blk (by decide) (by rfl) (a_cons (e_ix (nm 2) e_int (bx_list (d := lstOf (layD S rows)) rfl)) (a_cons (e_ix (nm 2) e_int (bx_list (d := lstOf (tupII split)) rfl)) (a_cons (e_ix (nm 2) e_int (bx_list (d := lstOf (tupI line)) rfl)) (a_cons (nm 7) (a_cons (nm 15) a_nil))))) (press_soft off t hL hs hg hln)) (a_cons (nm 9) a_nil)) ⟨_, rfl, same_map _ _ hol, rfl⟩))) (fun h => by cases h) fun _ => ?_
    refine run_asg (c1 := 1000) (c2 := 4) (i := 12) gd rfl (ev_callT (c1 := 0) (c2 := 1000) D6 gd (by decide) (by rfl) (i := 0) rfl (.inl rfl) rfl rfl (Ea.lift (a_cons (nm 4) (a_cons (nm 5) (a_cons (nm 6) (a_cons (nm 7) a_nil))))) (fun ds e => by rw [e]; exact ⟨S, rows, L, split, line, off, rfl, hL, hne, hs, hg, hx, hln, ho1, ho2, rfl⟩)) fun d hd => ?_
    refine run_asg (c1 := 0) (c2 := 4) (i := 12) (P := fun z => ∃ rs : List (List Int), z = tupII rs ∧ rs.length = split.length ∧ ∀ r ∈ rs, r.length = L) gd rfl (Ev.mono (P := fun z => ∃ rs : List (List Int), z = tupII rs ∧ rs.length = split.length ∧ ∀ r ∈ rs, r.length = L) ?_ (fun _ h => h) (Nat.le_refl _)) fun d2 e => ?_
    · rcases hd with ⟨rfl, hLge⟩ | ⟨rs, rfl, h1, h2⟩
      · refine Ev.mono (Ev.lift (c := 0) (e_if (u := false) (eb_cmp (nm 12) e_non b2_notN) (fun h => by cases h) (fun _ => e_tupleL gd (e_bin (e_lst (a_cons (nm 6) a_nil)) (e_bin (e_lst (a_cons (e_bin (e_tup (a_cons e_int a_nil)) (e_lenT gd (ds := line.map .int) (nm 6)) (b2_repT (by simp) (by omega) (by omega) (by decide))) a_nil)) (e_bin (e_lenT gd (ds := split.map tupI) (nm 5)) e_int b2_sub) (b2_rep (by omega) (by omega) (by simp; omega))) (b2_catL (by simp; omega)))))) (fun z e => ⟨line :: List.replicate (split.length - 1) (List.replicate L 0), ?_, by rw [List.length_cons, List.length_replicate]; omega, fun r hr => ?_⟩) (Nat.le_refl _)
        · rw [e, hlen2, hlen1, flat_rep, flat_rep, show ((split.length : Int) - 1).toNat = split.length - 1 by omega, Int.toNat_natCast]
          show PyData.tuple (tupI line :: List.replicate _ _) = PyData.tuple (tupI line :: List.map tupI _)
          rw [List.map_replicate]
          unfold tupI
          rw [List.map_replicate]
        · rcases List.mem_cons.mp hr with rfl | hr
          · exact hln
          · rw [List.eq_of_mem_replicate hr]; exact List.length_replicate
      · exact Ev.mono (Ev.lift (c := 0) (e_if (u := true) (eb_cmp (nm 12) e_non b2_notN) (fun _ => nm 12) (fun h => by cases h))) (fun z e => ⟨rs, e, h1, h2⟩) (Nat.le_refl _)
    obtain ⟨rs, rfl, hrl, hrL⟩ := e
    show Run _ _ _ _ [.tin, .dat _, .dat (softD S rows split line), .dat _, .dat (layD S rows), .dat (tupII split), .dat (tupI line), .dat (.int off), .dat (lstIII lt), .dat _, .dat _, .dat _, .dat (tupII rs), .no, .no, .no] _ _
    refine run_asg (c1 := 4) (c2 := 0) (i := 13) gd rfl (ev_callT (c1 := 0) (c2 := 4) D7 gd (by decide) (by rfl) (i := 0) rfl (.inl rfl) rfl rfl (Ea.lift (a_cons (nm 12) a_nil)) (fun ds e => by rw [e]; exact ⟨rs, L, rfl, fun z => by rw [z] at hrl; simp at hrl; omega, by omega, hL1, hL2, hrL, rfl⟩)) fun d3 e => ?_
    obtain ⟨bs, rfl, hbl⟩ := e
    have hbl2 : (bs ++ [tupII rs]).length ≤ 1000 := by simp; omega
    refine run_lc (i := 9) (own := [("_law_its", 15)]) gd rfl (blkOk_by (by show blkC n_off_right (defScope s_off_right) _ _ = true; decide +kernel)) id (bs ++ [tupII rs]) (by omega) (by rw [List.map_id]; exact i_list (nm 13)) (gName 15) [15] (fun d ρ => ρ.set 15 (.dat d)) (fun t => .bool (folB S rows L split line off t)) (fun _ _ _ _ _ => pg_own gd.nd rfl (.inl rfl) (fun z => by cases z)) (fun _ _ => gok_name) (fun i h => by simpa using h) (fun t ht s H C cl fp => e_call D8 gd.blk (by decide) (by rfl) (a_cons (nm 4) (a_cons (nm 5) (a_cons (nm 6) (a_cons (nm 7) (a_cons (nm 15) a_nil))))) ⟨S, rows, L, split, line, off, t, rfl, hL, hs, hg, hln, rfl⟩) ?_
    refine run_ret (Ev.mono (Ev.lift (c := 0) (e_and (t := true) (u := true) (e_call (D4 1) gd (by decide) (by rfl) (a_cons (e_lcN (Nn := n_off_right) (sc := defScope s_off_right) gd 15 rfl rfl id (bs ++ [tupII rs]) (by omega) (by rw [List.map_id]; exact i_list (nm 13)) (fun t => .bool (folB S rows L split line off t)) fun t ht s H C cl fp => e_call D9 gd.blk (by decide) (by rfl) (a_cons (e_ix (nm 2) e_int (bx_list (d := lstOf (layD S rows)) rfl)) (a_cons (e_ix (nm 2) e_int (bx_list (d := lstOf (tupII split)) rfl)) (a_cons (e_ix (nm 2) e_int (bx_list (d := lstOf (tupI line)) rfl)) (a_cons (nm 7) (a_cons (nm 15) a_nil))))) (fol_soft off t hL hs hg hln)) (a_cons (nm 9) a_nil)) ⟨_, rfl, same_map _ _ hbl2, rfl⟩) fun _ => e_one (e_call (D4 1) gd (by decide) (by rfl) (a_cons (e_folK gd FF hfF hmF (by decide) (nm 12) (nm 7) (nm 6) (nm 5) (nm 4) (fol_ok off (tupII rs) hL hs hg hln)) (a_cons (e_ix (nm 9) (e_un e_int b1_neg) (bx_list (d := .bool (folB S rows L split line off (tupII rs))) ?_)) a_nil)) ⟨_, rfl, .bl 1 _, rfl⟩))) (fun z e => e) (Nat.le_refl _))
    rw [List.map_append]
    exact atI_last _ _
end
end Pn

set_option Elab.async false
set_option linter.all false
set_option maxRecDepth 100000
set_option maxHeartbeats 1000000
/-! PnY: right. -/
namespace Pn
open PySem PySem.Spec PyProof.Rows L2

theorem exAt_bd {rows : List (List Int)} (h : ∀ r ∈ rows, ∀ x ∈ r, 0 ≤ x ∧ x ≤ 25) (w : Nat) : ∀ g : List Int, 0 ≤ exAt rows g w ∧ exAt rows g w ≤ 25 * (g.length : Int)
  | [] => by
    show (0 : Int) ≤ 0 ∧ (0 : Int) ≤ 25 * ((0 : Nat) : Int)
    decide
  | p :: g => by
    obtain ⟨h1, h2⟩ := exAt_bd h w g
    have key : 0 ≤ (rows.getD p.toNat []).getD w 0 ∧ (rows.getD p.toNat []).getD w 0 ≤ 25 := by
      rw [List.getD_eq_getElem?_getD (l := rows)]
      cases e : rows[p.toNat]? with
      | none =>
        show 0 ≤ ([] : List Int).getD w 0 ∧ ([] : List Int).getD w 0 ≤ 25
        rw [show ([] : List Int).getD w 0 = 0 by simp]
        decide
      | some r =>
        show 0 ≤ r.getD w 0 ∧ r.getD w 0 ≤ 25
        rw [List.getD_eq_getElem?_getD]
        cases e2 : r[w]? with
        | none => exact ⟨Int.le_refl _, by decide⟩
        | some x => exact h r (List.mem_of_getElem? e) x (List.mem_of_getElem? e2)
    have e : exAt rows (p :: g) w = (rows.getD p.toNat []).getD w 0 + exAt rows g w := by
      unfold exAt
      rw [List.map_cons, List.sum_cons]
    rw [e, List.length_cons]
    omega
theorem len_mem {gs : List (List Int)} {g : List Int} (h : g ∈ gs) : g.length ≤ gs.flatten.length := by
  induction gs with
  | nil => cases h
  | cons a gs ih =>
    rw [List.flatten_cons, List.length_append]
    rcases List.mem_cons.mp h with rfl | h
    · omega
    · have := ih h
      omega
def Prs (ts : List PyData) : Prop := ∀ t ∈ ts, ∃ w lo hi, t = pr w lo hi
theorem Prs.app {ts us : List PyData} (h : Prs ts) (h2 : Prs us) : Prs (ts ++ us) := fun t ht => by
  rcases List.mem_append.mp ht with h' | h'
  · exact h t h'
  · exact h2 t h'
def words3 : List Str := ["bare", "more", "fewer"]
def F_right : List PyData → (PyData → Prop) → Prop := fun ds R => ds = [] ∧ R = fun d => d = .bool true
section
variable {P : Program} {w : World} {K : PySem.W.Frag} {mg : Str → Option Value} {base : Heap} {f : Addr} {fd : FuncData}
theorem dn_right (hB : Bt mg) (D1 : Dn P w K mg base 2 "_law_deal" p_deal (spT 100 F_deal)) (D2 : Dn P w K mg base 3 "_law_parted" p_parted (spT 2000 F_parted)) (D3 : Dn P w K mg base 2 "_law_line" p_line (spT 3000 F_line)) (D4 : Dn P w K mg base 1 "_law_all_of" p_all_of (spS F_all_of)) (D5 : Dn P w K mg base 5 "_law_lists" p_lists (spD (F_lists 4)))
    (D6 : Dn P w K mg base 1 "_law_take" p_take (spT 1 F_take)) (D7 : Dn P w K mg base 7 "_law_off_right" p_off_right (spT 1005 F_off_right)) (hf : FnP K "_law_right" s_right f fd) (hm : mg "_law_right" = some (.ref f)) : Dn P w K mg base 8 "_law_right" p_right (spT 7000 F_right) := by
  refine dn_draw hf hm hB sc_right (hf.bindsN fun _ _ _ _ _ _ us hl => match us, hl with | [_], _ => rfl) (fun ds R h => ?_) (fun cdv A0 outer s H X0 gd a ds R h => ?_)
  · obtain ⟨rfl, _⟩ := h
    rfl
  · obtain ⟨rfl, rfl⟩ := h
    refine run_asg (c1 := 100) (c2 := 6900) (i := 1) gd rfl (ev_callT (c1 := 0) (c2 := 100) D1 gd (by decide) (by rfl) (i := 0) rfl (.inl rfl) rfl rfl (Ea.lift (a_cons e_int (a_cons e_int (a_cons e_int a_nil)))) (fun ds e => by rw [e]; exact ⟨rfl, rfl⟩)) fun d hd => ?_
    obtain ⟨S, rows, L, rfl, ok⟩ := hd
    have hL := ok.lay
    have hL1 := hL.L1
    have hL6 := ok.L6
    have hS1 := hL.S1
    have hS5 := ok.S5
    refine run_asg (c1 := 2000) (c2 := 4900) (i := 2) gd rfl (ev_callT (c1 := 0) (c2 := 2000) D2 gd (by decide) (by rfl) (i := 0) rfl (.inl rfl) rfl rfl (Ea.lift (a_cons (nm 1) (a_cons e_int a_nil))) (fun ds e => by rw [e]; exact ⟨S, rows, L, 4, rfl, hL, by have := ok.r4; omega, by decide, by decide, rfl⟩)) fun d hd => ?_
    obtain ⟨split, rfl, hne, hs7, hg, hfl⟩ := hd
    have hs : split.length ≤ 1000 := by omega
    have hx : ∀ g ∈ split, ∀ w, 0 ≤ exAt rows g w ∧ exAt rows g w ≤ 10000 := fun g hgm w => by
      have h1 := exAt_bd ok.en w g
      have h2 := len_mem hgm
      omega
    refine run_asg (c1 := 3000) (c2 := 1900) (i := 3) (P := fun d => ∃ line : List Int, d = tupI line ∧ line.length = L) gd rfl (ev_callT (c1 := 0) (c2 := 3000) D3 gd (by decide) (by rfl) (i := 0) rfl (.inl rfl) rfl rfl (ea_cons (c1 := 0) (c2 := 0) (Ev.lift (nm 1)) (fun _ _ => ea_cons (c1 := 0) (c2 := 0) (ev_callS (P := fun z => ∃ ms : List Int, z = tupI ms ∧ ms.Perm split.flatten) D4 gd (by decide) (by rfl) (a_cons (nm 2) a_nil) ⟨split, rfl, hs, hfl, rfl⟩) (fun _ _ => ea_nil))) (fun ds e => ?_)) fun d hd => ?_
    · obtain ⟨d1, r1, rfl, rfl, d2, r2, rfl, ⟨ms, rfl, hp⟩, rfl⟩ := e
      refine ⟨S, rows, L, ms, rfl, hL, ⟨by have := hp.length_eq; omega, fun p hpm => ?_⟩, rfl⟩
      obtain ⟨g, hgm, hpg⟩ := List.mem_flatten.mp (hp.mem_iff.mp hpm)
      exact (hg g hgm).2 p hpg
    obtain ⟨line, rfl, hln⟩ := hd
    have hlen2 : (line.map PyData.int).length = L := by rw [List.length_map]; exact hln
    refine run_par2 (c1 := 0) (c2 := 1900) (i := 4) (j := 5) (Pa := fun z => z = [softD S rows split line, .list []]) gd rfl rfl (Ea.lift (a_cons (Ev.to (e_call D5 gd (by decide) (by rfl) (a_cons (e_lst (a_cons (nm 1) (a_cons (nm 2) (a_cons (nm 3) a_nil)))) a_nil) ⟨.list [layD S rows, tupII split, tupI line], rfl, ⟨by show 3 ≤ 1000; decide, fun d hd => ?_⟩, rfl⟩) (by rw [lstOf_list]; rfl)) (a_cons (e_lst a_nil) a_nil))) fun ds e => ⟨_, _, e, ?_⟩
    · rcases List.mem_cons.mp hd with rfl | hd
      · exact flat_layD hL 0
      · rcases List.mem_cons.mp hd with rfl | hd
        · exact flat_rows hs (fun g h => (hg g h).1) 1
        · rw [List.mem_singleton.mp hd]
          exact flat_tupI (by omega) 2
    have lenL : ∀ {Y : Cx} {k : Nat} {ρ : List Sl} {p1 p2 p3 : Pos}, Good Y k → E Y (.Name "_law_line_here" p1) ρ (tupI line) → Gl Y "len" → E Y (.Call (.Name "len" p2) [.Name "_law_line_here" p1] [] p3) ρ (.int (L : Int)) := fun {Y k ρ p1 p2 p3} g h h2 => Ev.to (e_lenT (ds := line.map PyData.int) g h h2 (se_cons rfl) rfl) (by rw [hlen2])
    refine run_for (α := Nat) (c1 := 0) (c2 := 0) (c3 := 1900) (Pd := fun z => z = (List.range L).map fun (i : Nat) => PyData.int (i : Int)) gd .never (pg_name (i := 6) gd.nd rfl (.inr rfl)) (Ei.lift (i_rangeN gd (lenL gd (nm 3) rfl) (by omega))) L (fun ds e => ?_) (by omega)
    subst e
    refine ⟨fun i => .int (i : Int), List.range L, [6], fun i ρ => ρ.set 6 (.dat (.int (i : Int))), fun i ρ' => ∃ ts x6 x7 x8 x9, ρ' = [.tin, .dat (layD S rows), .dat (tupII split), .dat (tupI line), .dat (softD S rows split line), .dat (.list ts), x6, x7, x8, x9] ∧ ts.length ≤ 18 * i ∧ Prs ts, rfl, by rw [List.length_range]; exact Nat.le_refl _, fun _ _ => gok_name, ⟨[], _, _, _, _, rfl, Nat.le_refl _, fun _ h => absurd h (by simp)⟩, fun i j ρ' hj hI => ?_, fun ρ' hI => ?_⟩
    · obtain ⟨ts, x6, x7, x8, x9, rfl, htl, htp⟩ := hI
      obtain ⟨hi, e⟩ := List.getElem?_eq_some_iff.mp hj
      rw [List.getElem_range] at e
      rw [List.length_range] at hi
      subst e
      refine run_for (α := Str) (c1 := 0) (c2 := 0) (c3 := 0) (Pd := fun z => z = words3.map .str) gd .never (pg_name (i := 7) gd.nd rfl (.inr rfl)) (Ei.lift (i_tup (e_const (by rfl)))) 3 (fun ds e => ?_) (by omega)
      subst e
      refine ⟨.str, words3, [7], fun wd ρ => ρ.set 7 (.dat (.str wd)), fun k ρ' => ∃ ts x7 x8 x9, ρ' = [.tin, .dat (layD S rows), .dat (tupII split), .dat (tupI line), .dat (softD S rows split line), .dat (.list ts), .dat (.int (i : Int)), x7, x8, x9] ∧ ts.length ≤ 18 * i + 6 * k ∧ Prs ts, rfl, by decide, fun _ _ => gok_name, ⟨ts, _, _, _, rfl, by omega, htp⟩, fun k wd ρ' hk hI => ?_, fun ρ' hI => ?_⟩
      · obtain ⟨ts, x7, x8, x9, rfl, htl, htp⟩ := hI
        have hk3 : k < 3 := (List.getElem?_eq_some_iff.mp hk).1
        refine run_set (i := 5) (d := .list (ts ++ (List.range L).map fun (h : Nat) => pr wd (i : Int) (h : Int))) gd rfl (e_bin (nm 5) (e_lcN (Nn := n_right) (sc := defScope s_right) gd 9 rfl rfl (fun (h : Nat) => .int (h : Int)) (List.range L) (by rw [List.length_range]; omega) (i_rangeN gd (lenL gd (nm 3) rfl) (by omega)) (fun (h : Nat) => pr wd (i : Int) (h : Int)) fun h hh s H C cl fp => e_tup (a_cons (nm 7) (a_cons (nm 6) (a_cons (nm 9) a_nil)))) (b2_catL (by rw [List.length_map, List.length_range]; omega))) (run_nil ⟨_, _, _, _, rfl, ?_, htp.app fun t ht => ?_⟩)
        · rw [List.length_append, List.length_map, List.length_range]
          omega
        · obtain ⟨h, _, rfl⟩ := List.mem_map.mp ht
          exact ⟨_, _, _, rfl⟩
      · obtain ⟨ts, x7, x8, x9, rfl, htl, htp⟩ := hI
        exact run_nil ⟨ts, _, _, _, _, rfl, by have : words3.length = 3 := rfl; omega, htp⟩
    · obtain ⟨ts, x6, x7, x8, x9, rfl, htl, htp⟩ := hI
      rw [List.length_range] at htl
      refine run_for (α := Str) (c1 := 0) (c2 := 0) (c3 := 1900) (Pd := fun z => z = words3.map .str) gd .never (pg_name (i := 7) gd.nd rfl (.inr rfl)) (Ei.lift (i_tup (e_const (by rfl)))) 3 (fun ds e => ?_) (by omega)
      subst e
      refine ⟨.str, words3, [7], fun wd ρ => ρ.set 7 (.dat (.str wd)), fun k ρ' => ∃ ts x6 x7 x8 x9, ρ' = [.tin, .dat (layD S rows), .dat (tupII split), .dat (tupI line), .dat (softD S rows split line), .dat (.list ts), x6, x7, x8, x9] ∧ (4 * k ≤ ts.length ∧ ts.length ≤ 108 + 4 * k) ∧ Prs ts, rfl, by decide, fun _ _ => gok_name, ⟨ts, _, _, _, _, rfl, by omega, htp⟩, fun k wd ρ' hk hI => ?_, fun ρ' hI => ?_⟩
      · obtain ⟨ts, x6, x7, x8, x9, rfl, htl, htp⟩ := hI
        have hk3 : k < 3 := (List.getElem?_eq_some_iff.mp hk).1
        refine run_set (i := 5) (d := .list (ts ++ [pr wd (-1) 1, pr wd 0 (-1), pr wd 0 L, pr wd L (L + 1)])) gd rfl (e_bin (nm 5) (e_lst (a_cons (e_tup (a_cons (nm 7) (a_cons (e_un e_int b1_neg) (a_cons e_int a_nil)))) (a_cons (e_tup (a_cons (nm 7) (a_cons e_int (a_cons (e_un e_int b1_neg) a_nil)))) (a_cons (e_tup (a_cons (nm 7) (a_cons e_int (a_cons (lenL gd (nm 3) rfl) a_nil)))) (a_cons (e_tup (a_cons (nm 7) (a_cons (lenL gd (nm 3) rfl) (a_cons (e_bin (lenL gd (nm 3) rfl) e_int b2_add) a_nil)))) a_nil))))) (b2_catL (by simp; omega))) (run_nil ⟨_, _, _, _, _, rfl, ?_, htp.app fun t ht => ?_⟩)
        · rw [List.length_append]
          simp only [List.length_cons, List.length_nil]
          omega
        · simp only [List.mem_cons, List.not_mem_nil, or_false] at ht
          rcases ht with rfl | rfl | rfl | rfl <;> exact ⟨_, _, _, rfl⟩
      · obtain ⟨ts, x6, x7, x8, x9, rfl, htl, htp⟩ := hI
        have h3 : words3.length = 3 := rfl
        rw [h3] at htl
        refine run_asg (c1 := 2) (c2 := 1005) (i := 8) (P := fun z => ∃ o : Int, z = .int o ∧ 0 ≤ o ∧ o ≤ 10000) gd rfl (ev_if (c1 := 1) (c2 := 1) (Pt := fun _ => True) (et_cmp (c1 := 1) (c2 := 0) (P2 := fun _ z => z = .int 0) (ev_take D6 gd (by decide) e_int (by decide) (by decide)) (fun _ _ => Ev.lift e_int) (fun d1 d2 e1 e2 => by
            obtain ⟨i, rfl, _⟩ := e1
            subst e2
            exact ⟨_, True.intro, b2_eqI⟩))
          (fun _ => Ev.mono (ev_take D6 gd (by decide) (e_bin (e_ix (nm 1) e_int (bx_tup (d := .int S) rfl)) e_int b2_add) (by omega) (by omega)) (fun d e => by
            obtain ⟨i, rfl, h1, h2⟩ := e
            exact ⟨i, rfl, h1, by omega⟩) (Nat.le_refl _))
          (fun _ => Ev.mono (ev_take D6 gd (by decide) (e_bin (e_bin e_int (e_ix (nm 1) e_int (bx_tup (d := .int S) rfl)) (b2_mul (.inl ⟨by decide, by decide⟩))) e_int b2_add) (by omega) (by omega)) (fun d e => by
            obtain ⟨i, rfl, h1, h2⟩ := e
            exact ⟨i, rfl, h1, by omega⟩) (Nat.le_refl _))) (fun d e => ?_) (by omega)
        obtain ⟨off, rfl, ho1, ho2⟩ := e
        refine run_ret (ev_callT (c1 := 0) (c2 := 1005) D7 gd (by decide) (by rfl) (i := 0) rfl (.inl rfl) rfl rfl (Ea.lift (a_cons (e_tup (a_cons (nm 1) (a_cons (nm 2) (a_cons (nm 3) (a_cons (nm 8) a_nil))))) (a_cons (nm 4) (a_cons (nm 5) a_nil)))) (fun ds e => by rw [e]; exact ⟨S, rows, L, split, line, off, ts, rfl, hL, hne, hs, hg, hx, hln, ho1, ho2, fun z => (by rw [z] at htl; simp at htl), by omega, htp, rfl⟩))
end
end Pn

set_option Elab.async false
set_option linter.all false
set_option maxRecDepth 100000
set_option maxHeartbeats 1000000
/-! PnZ: cells, box, law. -/
namespace Pn
open PySem PySem.Spec PyProof.Rows L2

theorem sqX {K : PySem.W.Frag} {H H' : Hp} {a : Addr} {xs : List V} (e : ∀ a o, H a = some o → H' a = some o) (h : SqL K H a xs) : SqL K H' a xs := by
  rcases h with h | h
  · rcases h with h | ⟨o, h⟩
    · exact .inl (.inl (e _ _ h))
    · exact .inl (.inr ⟨o, e _ _ h⟩)
  · exact .inr h
section
variable {X : Cx} {T : Option Addr} {c k : Nat} {e : Expr} {lo hi : Option Expr} {ρ : List Sl} {Ω : Om} {p1 p2 pos tpos : Pos} {a : Addr} {ns : List Int}
theorem cutV_ints (ns : List Int) (l u : Option Int) : cutV (ns.map V.int) l u = (cutL ns l u).map V.int := by
  unfold cutV cutL
  rw [List.length_map, ← List.map_drop, ← List.map_take]
/-- script[lo:hi], the script handed in -/
theorem evo_scr {i : Nat} {x : Str} {l u : Option Int} (hi' : X.N[i]? = some x) (hρ : ρ[i]? = some (.raw (.ref a))) (hΩ : ∀ H0 N H, Ω H0 N H → SqL X.K H0 a (ns.map .int)) (hl : Eo X lo ρ l) (hu : Eo X hi ρ u) (hv : Vis X.env.scope x := by first | exact Or.inl rfl | exact Or.inr (Or.inl rfl) | exact Or.inr (Or.inr rfl)) (hd : (x == ("__debug__" : Str)) = false := by decide) (hcd : (x == ("__classdict__" : Str)) = false := by decide) :
    EvO X none c (.Subscript (.Name x p1) (.Slice lo hi none p2) pos) ρ Ω (fun z => z = lstI (cutL ns l u)) := fun G0 H0 n0 c0 N σ H n om pr po hn Q q => by
  refine WE.of (pe_slice sl_list (pe_var hi' hv hd hcd) (wo X lo) (wo X hi)) ?_
  refine ⟨.ref a, pr.env.rawAt hρ, ?_⟩
  refine hl.go pr (by omega) _ fun N2 H2 n2 o2 => ?_
  refine hu.go (pr.next o2) (by have := o2.le; omega) _ fun N3 H3 n3 o3 => ?_
  have o := (o2.trans o3).weak (c2 := c) (by omega)
  refine ⟨a, _, rfl, sqX (po.gr.ex.trans o.gr.ex) (hΩ _ _ _ om), fun q' hq => ?_⟩
  rw [cutV_ints]
  exact newLst o.gr.nh hq (RpA.ints (cutL ns l u)) fun v N' H' g r => q _ _ _ _ n3 rfl ((o.trans (Po.pure (c := 0) o.tin g)).weak (by omega)) r
theorem eio_enum {elts : List Expr} {kk : Nat} {P : List PyData → Prop} (hX : Good X k) (hg : Gl X "enumerate") (h : EvO X T c e ρ Ω (fun z => ∃ ds, P ds ∧ z = .list ds)) (hs : starEach [e] X.env = [(false, eval e X.env)] := by rfl) (hs1 : starEach [e] X.env = (false, eval e X.env) :: starEach [] X.env := by exact se_cons rfl) :
    EiO X (.Tuple elts kk tpos) T c (.Call (.Name "enumerate" p1) [e] [] pos) ρ Ω (fun z => ∃ ds, P ds ∧ z = enumFrom 0 ds) := fun G0 H0 n0 c0 N σ H n om pr po hn R q => by
  refine WI.of (pi_enum hg hX.bt.enumerate (pa_cons (we e) pa_nil hs1) hs) ?_
  refine h G0 H0 n0 c0 N σ H n om pr po hn _ fun v d N' H' n' hd o r => ?_
  obtain ⟨ds, hp, rfl⟩ := hd
  cases r with
  | lst ha hr => exact ⟨_, _, rfl, SqL.of (o.gr.nh _ _ ha), q _ _ N' H' n' ⟨ds, hp, rfl⟩ o (walks_enum ha hr)⟩
end
/-! ### promises -/
def spC (K : PySem.W.Frag) : L2.Sp := fun vs H Q _ => ∃ (G : Hp) (a : Addr) (ns : List Int), vs = [.ref a, .int 2] ∧ Ex G H ∧ SqL K H a (ns.map .int) ∧ ∀ (v : V) (cs : List Int) (N H' : Hp), cs ≠ [] → cs.length ≤ 2 → Gr none G H N H' → Rp N v (lstI cs) → Q v H'
def spBx : L2.Sp := fun vs H Q _ => ∃ (G : Hp) (v : V) (cs : List Int) (j : Nat), vs = [v, .int (j : Int)] ∧ Ex G H ∧ Rp G v (lstI cs) ∧ j ≤ 1000 ∧ ∀ (p : Addr) (x y : Int) (N H' : Hp), Gr none G H N H' → H p = none → N p = none → H' p = some (.lst [.int x, .int y, .int 0]) → 0 ≤ x → 0 ≤ y → y < 2 ^ 62 → Q (.ref p) H'
def spLaw (K : PySem.W.Frag) : L2.Sp := fun vs H Q _ => ∃ (a : Addr) (ns : List Int), vs = [.ref a] ∧ SqL K H a (ns.map .int) ∧ ∀ H', Q (.bl true) H'
theorem start_raw {G : Hp} {N : List Str} {a : Addr} {vs : List V} {ds : List PyData} (h : RpA G vs ds) : EnvOk none G (L2.start N (.ref a :: vs)) ((startS N.length (.none :: ds)).set 0 (.raw (.ref a))) := by
  have e1 : EnvOk none G (L2.start N (.non :: vs)) (startS N.length (.none :: ds)) := EnvOk.start (.cons .non h)
  exact e1.put 0 (o := some (.ref a)) (s := .raw (.ref a)) rfl
section
variable {P : Program} {w : World} {K : PySem.W.Frag} {mg : Str → Option Value} {base : Heap} {f : Addr} {fd : FuncData}
theorem ev_use {X : Cx} {e : Expr} {ρ : List Sl} {d : PyData} {G H : Hp} {σ : Sg} {n : Nat} (h : E X e ρ d) (pr : Pre none G σ ρ H n) (hn : n ≤ LIM) (Q : VK) (q : ∀ v N H' n', Po none G H n 0 N H' n' → Rp N v d → Q v H') : WE X e σ H Q := h G σ H n pr (by omega) Q fun v d' N H' n' e o r => q v N H' n' o (e ▸ r)
theorem dn_cells (hB : Bt mg) (hf : FnP K "_law_cells" s_cells f fd) (hm : mg "_law_cells" = some (.ref f)) : Dn P w K mg base 1 "_law_cells" p_cells (spC K) := by
  refine ⟨f, fd, ?_, hm, hf.kp, hf.bindsN fun _ _ _ _ _ _ us hl => match us, hl with | [_, _], _ => rfl⟩
  refine hf.ok sc_cells (fun vs H Q E h => ?_) (fun cdv A0 outer s H vs Q X0 hr h => ?_)
  · obtain ⟨G, a, ns, rfl, _⟩ := h
    rfl
  · obtain ⟨G, a, ns, rfl, ex, hS, q⟩ := h
    have gd : Good (cxD P w K mg base n_cells "_law_cells" (defScope s_cells) f cdv A0 outer s H X0) 0 := ⟨rfl, sc_cells.nd, hB, hr⟩
    have run : RX (cxD P w K mg base n_cells "_law_cells" (defScope s_cells) f cdv A0 outer s H X0) none 0 (defBody s_cells) [.raw (.ref a), .dat (.int 2), .no, .no, .no, .no] (fun H0 _ _ => SqL K H0 a (ns.map .int)) (fun _ _ _ _ => False) (fun d => ∃ cs : List Int, d = lstI cs ∧ cs ≠ [] ∧ cs.length ≤ 2) := by
      have hst0 : Stb none (fun H0 (_ _ : Hp) => SqL K H0 a (ns.map V.int)) := fun _ _ _ _ _ h _ => h
      refine rx_asgS (c1 := 0) (c2 := 0) (i := 2) (W := fun s H0 N H => ∃ p, ∃ cs : List Int, (s = .raw (.ref p) ∧ cs ≠ [] ∧ cs.length ≤ 2 ∧ (3 ≤ ns.length → cs.length = 2)) ∧ Own none p (cs.map .int) H0 N H ∧ SqL K H0 a (ns.map .int)) gd rfl ?_ fun s => ?_
      · refine fun G0 H0 n0 c0 N σ H n om pr po hn Q q => ?_
        refine WE.of (pe_orT (pe_callTy (wc _) (by rfl) gd.bt.list PyProof.Rows.boot_list (pa_cons (we _) pa_nil (se_cons rfl)) (by decide) (by decide) (se_cons rfl) rfl) (we _)) ?_
        refine evo_scr (hv := .inl rfl) (hd := by decide) (hcd := by decide) (c := 0) (i := 0) (a := a) (ns := ns) (l := none) (u := some 2) rfl rfl (fun _ _ _ h => h) eo_no (eo_at (nm 1)) G0 H0 n0 c0 N σ H n om pr po hn _ fun v d N1 H1 n1 e1 o1 r1 => ?_
        subst e1
        cases r1 with
        | lst ha hr =>
          rw [hr.ofInts] at ha
          refine WC.of call_list_of ⟨_, _, rfl, .inl (SqL.of (o1.gr.nh _ _ ha)), fun l hl => ?_⟩
          have hcut : cutL ns none (some 2) = ns.take 2 := cutL_to ns 2
          rw [hcut] at ha ⊢
          refine ⟨!((ns.take 2).map V.int).isEmpty, .inl ⟨_, SqL.of upd_same, rfl⟩, ?_⟩
          have fin : ∀ {vs : List V} {cs : List Int} {l : Addr} {N2 H2 : Hp} {n2 : Nat}, Po none N H n 0 N2 H2 n2 → H2 l = none → vs = cs.map .int → cs ≠ [] → cs.length ≤ 2 → (3 ≤ ns.length → cs.length = 2) → Q (.ref l) (upd H2 l (.lst vs)) := fun {vs cs l N2 H2 n2} o2 hl2 e h1 h2 h3 => by
            subst e
            refine enew_fin (Pd := fun z => z = cs.map .int) o2 hl2 (RpA.ints cs) rfl fun p vs ds N' H' n' hd o hp np tp hH r => ?_
            subst hd
            have hp0 : H0 p = none := by
              cases z : H0 p with
              | none => rfl
              | some o =>
                obtain ⟨o', e'⟩ := po.gr.ht p o z
                rw [hp] at e'
                cases e'
            exact q (.ref p) (.raw (.ref p)) N' H' n' ⟨p, cs, ⟨rfl, h1, h2, h3⟩, ⟨tp, hp0, np, vs, hH, r⟩, om⟩ rfl o.gr.gn (pr.next o) (po.trans o) o.le
          by_cases hns : ns = []
          · have hz : (!((ns.take 2).map V.int).isEmpty) = false := by rw [hns]; rfl
            rw [hz]
            refine iteF ?_
            have hNl : N1 l = none := o1.gr.nh.back hl
            have g : Gr none N1 H1 N1 (upd H1 l (.lst ((ns.take 2).map V.int))) := ⟨Ex.refl N1, fun _ _ z => .inl z, o1.gr.nh.mut hNl, fun b o _ z => Ex.new hl b o z, fun b o z => ⟨o, Ex.new hl b o z⟩⟩
            have o2 : Po none N H n 0 N1 (upd H1 l (.lst ((ns.take 2).map V.int))) n1 := ⟨o1.gr.trans g, TinOk.none, o1.le⟩
            refine WE.of (pe_one (pe_lst (pa_cons pe_int pa_nil (se_cons rfl)))) ⟨by show 1 ≤ sizeLine; decide, fun l2 hl2 => ?_⟩
            exact fin (cs := [0]) o2 hl2 rfl (by decide) (by decide) (fun h => by rw [hns] at h; simp at h)
          · have hz : (!((ns.take 2).map V.int).isEmpty) = true := by
              cases ns with
              | nil => exact absurd rfl hns
              | cons x r => rfl
            rw [hz]
            refine iteT ?_
            exact fin (cs := ns.take 2) o1 hl rfl (by cases ns with | nil => exact absurd rfl hns | cons x r => simp) (by rw [List.length_take]; omega) (fun h => by rw [List.length_take]; omega)
      refine rx_ex fun p => rx_ex fun cs => rx_and fun ⟨hs, hne, hl2, h32⟩ => ?_
      subst hs
      have hst : ∀ {ds : List PyData}, Stb none (fun H0 N H => Own none p ds H0 N H ∧ SqL K H0 a (ns.map V.int)) := fun {ds} _ _ _ _ _ h g => ⟨Own.stb _ _ _ _ _ h.1 g, h.2⟩
      refine rx_forO (α := Nat × Int) (c1 := 0) (c2 := 0) (c3 := 0) (Pd := fun z => ∃ ds, ds = (cutL ns (some 2) (some 63)).map PyData.int ∧ z = enumFrom 0 ds) gd .never (pg_tup gd.calm (pgs_cons (pg_name (i := 3) gd.nd rfl (.inl rfl)) (pgs_cons (pg_name (i := 4) gd.nd rfl (.inl rfl)) pgs_nil))) hst
        (eio_enum gd (by rfl) (fun G0 H0 n0 c0 N σ H n om pr po hn Q q => evo_scr (hv := .inl rfl) (hd := by decide) (hcd := by decide) (Ω := fun H0 N H => Own none p (cs.map .int) H0 N H ∧ SqL K H0 a (ns.map V.int)) (c := 0) (i := 0) (a := a) (ns := ns) (l := some 2) (u := some 63) rfl rfl (fun _ _ _ h => h.2) (eo_at (nm 1)) (eo_at e_int) G0 H0 n0 c0 N σ H n om pr po hn Q fun v d N' H' n' hd => q v d N' H' n' ⟨_, rfl, hd⟩)) ns.length (fun ds e => ?_) (by omega)
      obtain ⟨_, rfl, rfl⟩ := e
      have hcl := cutL_le ns (some 2) (some 63)
      refine ⟨fun q => .tuple [.int (q.1 : Int), .int q.2], enumL 0 (cutL ns (some 2) (some 63)), [3, 4], fun q ρ => (ρ.set 3 (.dat (.int (q.1 : Int)))).set 4 (.dat (.int q.2)), fun i ρ' H0 N H => ∃ cs : List Int, (cs ≠ [] ∧ cs.length ≤ 2 ∧ (3 ≤ ns.length → cs.length = 2) ∧ ∃ x3 x4 x5, ρ' = [.raw (.ref a), .dat (.int 2), .raw (.ref p), x3, x4, x5]) ∧ Own none p (cs.map .int) H0 N H ∧ SqL K H0 a (ns.map V.int), enumL_map PyData.int _ 0, by rw [enumL_length]; exact hcl, fun _ _ => gok_tup2, fun _ _ => Stb.ex fun _ => Stb.and hst, fun _ _ _ h => ⟨cs, ⟨hne, hl2, h32, _, _, _, rfl⟩, h⟩, fun i qq ρ' hq => ?_, fun ρ' => ?_⟩
      · refine rx_ex fun cs => rx_and fun ⟨hne, hl2, h32, x3, x4, x5, hρ⟩ => ?_
        subst hρ
        have hlen3 : 3 ≤ ns.length := by
          have h1 := (List.getElem?_eq_some_iff.mp hq).1
          rw [enumL_length] at h1
          by_cases h : 3 ≤ ns.length
          · exact h
          · have h2 : (cutL ns (some 2) (some 63)).length = 0 := by
              unfold cutL
              rw [List.length_take, List.length_drop, show (some 2 : Option Int) = some ((2 : Nat) : Int) from rfl, HT.sIx_nat]
              omega
            omega
        have hcs := h32 hlen3
        refine rx_asgO (c1 := 0) (c2 := 0) (i := 5) (P := fun z => z = .int ((qq.1 : Int) % 2)) gd rfl hst (Ev.o (Ev.lift (e_bin (e_intI gd (nm 3)) (nm 1) (b2_mod (by decide))))) fun d e => ?_
        subst e
        have hm : ((qq.1 : Int) % 2) = ((qq.1 % 2 : Nat) : Int) := by omega
        have hj : qq.1 % 2 < cs.length := by omega
        rw [hm]
        generalize qq.1 % 2 = j at hj
        refine rx_setO (c1 := 0) (c2 := 0) (i := 2) (p := p) (j := j) (vs := cs.map .int) (P := fun z => z = .int (cs.getD j 0 + qq.2 * ((qq.1 : Int) + 2))) rfl rfl hst (fun _ _ _ h => ⟨⟨h.1.1, h.1.2.1, h.1.2.2.1, _, h.1.2.2.2.choose_spec.1⟩, by
            obtain ⟨_, _, _, vs, e, r⟩ := h.1
            rw [r.ofInts] at e
            exact e⟩) (by rw [List.length_map]; exact hj) (evo_peek (own_knows (i := 2) rfl (fun _ _ _ h => h.1)) (Ev.lift (e_bin (e_ix (nm 2) (nm 5) (bx_lstI (ns := cs) (z := cs.getD j 0) (by rw [atI_in 0 (by omega) (by omega)]; rfl))) (e_bin (nm 4) (e_bin (nm 3) e_int b2_add) (b2_mul ?_)) b2_add)) (fun d e => by rw [e]; rfl)) (nm 5) fun d v hd => ?_
        · obtain ⟨_, h1⟩ := enumL_get hq
          have h2 := (List.getElem?_eq_some_iff.mp hq).1
          rw [enumL_length] at h2
          have h3 : (cutL ns (some 2) (some 63)).length ≤ 63 := by
            unfold cutL
            rw [List.length_take, show (some 63 : Option Int) = some ((63 : Nat) : Int) from rfl, HT.sIx_nat]
            omega
          exact .inr ⟨by omega, by omega⟩
        · subst hd
          refine rx_nil fun H0 N H h => ?_
          obtain ⟨H1, rfl, ⟨⟨t1, t2, t3, vs, t4, t5⟩, r⟩, rv⟩ := h
          cases rv
          refine ⟨cs.set j (cs.getD j 0 + qq.2 * ((qq.1 : Int) + 2)), ⟨fun z => ?_, by rw [List.length_set]; exact hl2, fun _ => by rw [List.length_set]; exact hcs, _, _, _, rfl⟩, ⟨t1, t2, t3, _, upd_same, ?_⟩, r⟩
          · have := congrArg List.length z
            rw [List.length_set, hcs] at this
            cases this
          · rw [← List.map_set]
            exact RpA.ints _
      · refine rx_ex fun cs => rx_and fun ⟨hne, hl2, h32, x3, x4, x5, hρ⟩ => ?_
        subst hρ
        exact rx_freeze (p := p) (i := 2) rfl (fun _ _ _ h => h.1) (run_ret (Ev.mono (Ev.lift (c := 0) (nm 2)) (fun d e => ⟨cs, e, hne, hl2⟩) (Nat.le_refl _)))
    refine ⟨_, (wss _).nox, ?_⟩
    have pre : Pre none G (L2.start n_cells [.ref a, .int 2]) [.raw (.ref a), .dat (.int 2), .no, .no, .no, .no] H 0 := ⟨start_raw (N := n_cells) (a := a) (vs := [.int 2]) (ds := [.int 2]) (.cons (.int 2) .nil), ex, TinOk.none⟩
    exact run G H 0 0 G _ H 0 hS pre (Po.refl ex TinOk.none) (by decide) _ (fun ρ' N' σ' H' n' f _ _ => f.elim) (fun v d N' H' n' hd r o => by
      obtain ⟨cs, rfl, h1, h2⟩ := hd
      exact q v cs N' H' h1 h2 o.gr r)
theorem dn_box (hB : Bt mg) (hf : FnP K "_law_box" s_box f fd) (hm : mg "_law_box" = some (.ref f)) : Dn P w K mg base 1 "_law_box" p_box spBx := by
  refine ⟨f, fd, ?_, hm, hf.kp, hf.bindsN fun _ _ _ _ _ _ us hl => match us, hl with | [_, _], _ => rfl⟩
  refine hf.ok sc_box (fun vs H Q E h => ?_) (fun cdv A0 outer s H vs Q X0 hr h => ?_)
  · obtain ⟨G, v, cs, j, rfl, _⟩ := h
    rfl
  · obtain ⟨G, v, cs, j, rfl, ex, rv, hj, q⟩ := h
    have gd : Good (cxD P w K mg base n_box "_law_box" (defScope s_box) f cdv A0 outer s H X0) 0 := ⟨rfl, sc_box.nd, hB, hr⟩
    have pre : Pre none G (L2.start n_box [v, .int (j : Int)]) [.dat (lstI cs), .dat (.int (j : Int)), .no] H 0 := ⟨EnvOk.start (N := n_box) (.cons rv (.cons (.int _) .nil)), ex, TinOk.none⟩
    refine ⟨_, (wss _).nox, ?_⟩
    refine WSs.of (pss_cons (ps_set (i := 2) gd.nd rfl (.inl rfl) (we _) rfl (.inr rfl)) (wss _)) ?_
    have hlen : (cs.map PyData.int).length = cs.length := List.length_map ..
    refine ev_use (ρ := [.dat (lstI cs), .dat (.int (j : Int)), .no]) (d := .int (cs.getD j 0)) ?_ pre (by decide) _ fun v1 N1 H1 n1 o1 r1 => ?_
    · refine e_if (u := decide ((j : Int) < ((cs.map PyData.int).length : Nat))) (eb_cmp (nm 1) (e_lenL gd (ds := cs.map .int) (nm 0)) b2_lt) (fun h => e_ix (nm 0) (nm 1) (bx_lstI ?_)) (fun h => Ev.to e_int ?_)
      · have := of_decide_eq_true h
        rw [hlen] at this
        rw [atI_in 0 (by omega) (by omega)]
        rfl
      · have := of_decide_eq_false h
        rw [hlen] at this
        rw [List.getD_eq_getElem?_getD, List.getElem?_eq_none (by omega)]
        rfl
    have p1 := pre.next o1
    generalize cs.getD j 0 = cl at r1
    refine WSs.of (pss_cons (ps_ret (we _)) pss_never) ?_
    have hp18 : ((10 : Int) ^ (18 : Int).toNat) = 1000000000000000000 := by decide
    have hmod : 0 ≤ cl % 2305843009213693951 ∧ cl % 2305843009213693951 < 2305843009213693951 := ⟨Int.emod_nonneg _ (by decide), Int.emod_lt_of_pos _ (by decide)⟩
    have habs : 0 ≤ absI cl := by unfold absI; split <;> omega
    refine enew_lst (c := 0) (Pa := fun z => ∃ x y : Int, z = [.int x, .int y, .int 0] ∧ 0 ≤ x ∧ 0 ≤ y ∧ y < 2 ^ 62) (Ea.mono (Ea.lift (c := 0) (a_cons (e_bin (e_abs gd (nm 2)) (e_intB gd (e_cmp (e_abs gd (nm 2)) (e_bin e_int e_int (b2_pow ⟨by decide, by decide, by decide⟩)) b2_ge)) (b2_mul (.inr (by split <;> decide)))) (a_cons (e_bin (e_bin (e_bin (e_intI gd (nm 2)) e_int (b2_mod (by decide))) (e_bin e_int (nm 1) (b2_mul (.inl ⟨by decide, by decide⟩))) b2_add) e_int b2_add) (a_cons e_int a_nil)))) (fun z e => ⟨_, _, e, ?_, ?_, ?_⟩) (Nat.le_refl _)) (fun ds h => ?_) N1 _ H1 n1 ⟨(p1.env.set 2 r1 : EnvOk none N1 _ [.dat (lstI cs), .dat (.int (j : Int)), .dat (.int cl)]), p1.ex, p1.tin⟩ (by have := o1.le; omega) _ fun p vs ds N2 H2 n2 hd o2 hp np tp hH r => ?_
    · split <;> omega
    · omega
    · omega
    · obtain ⟨x, y, rfl, _⟩ := h
      show 3 ≤ 1000
      decide
    · obtain ⟨x, y, rfl, hx, hy, hy2⟩ := hd
      obtain ⟨v1, v2, v3, rfl, q1, q2, q3⟩ := rpa3 r
      cases q1
      cases q2
      cases q3
      have hHp : H p = none := by
        cases z : H p with
        | none => rfl
        | some o => rw [o1.gr.ex p o z] at hp; cases hp
      exact q p x y N2 H2 ((o1.trans o2).gr) hHp np hH hx hy hy2
theorem Gr.drop {p : Addr} {G H N H' N3 H3 : Hp} (a : Gr none G H N H') (b : Gr (some p) N H' N3 H3) (hp : H p = none) : Gr none G H N3 H3 := by
  have c := a.lift (T := some p) |>.trans b
  refine ⟨c.gn, c.fr, c.nh, fun x o _ e => ?_, c.ht⟩
  exact b.hh x o (fun z => by
    have z' : p = x := Option.some.inj z
    rw [← z', hp] at e
    cases e) (a.ex x o e)
/-- right(box(cells, k)) -/
theorem e_rb {X : Cx} {k : Nat} {ρ : List Sl} {e1 e2 : Expr} {cs : List Int} {j : Nat} {p1 p2 p3 p4 : Pos} (hX : Good X k) (hk : 8 ≤ k) (D1 : Dn X.prog X.w X.K X.mg X.base 1 "_law_box" p_box spBx) (D2 : Dn X.prog X.w X.K X.mg X.base 8 "_law_right" p_right (spT 7000 F_right)) (h1 : E X e1 ρ (lstI cs)) (h2 : E X e2 ρ (.int (j : Int))) (hj : j ≤ 1000)
    (hg1 : Gl X "_law_box" := by rfl) (hg2 : Gl X "_law_right" := by rfl) (s1 : noStar e1 = true := by rfl) (s2 : noStar e2 = true := by rfl) : E X (.Call (.Name "_law_right" p1) [.Call (.Name "_law_box" p2) [e1, e2] [] p3] [] p4) ρ (.bool true) := fun G σ H n pr hn Q q => by
  obtain ⟨f, fd, FO, hm, hkp, hb⟩ := D2.ex
  obtain ⟨f', fd', FO', hm', hkp', hb'⟩ := D1.ex
  refine WE.of (pe_call FO (hX.room.mono hk) hg2 hm hkp hb .nil pass0 (pa_cons (pe_call FO' (hX.room.mono (by omega)) hg1 hm' hkp' hb' .nil pass0 (pa_cons (we e1) (pa_cons (we e2) pa_nil (se_cons s2)) (se_cons s1)) (by decide) (se_cons s1) (by rw [se_cons s2]; rfl)) pa_nil (se_cons rfl)) (by decide) (se_cons rfl) rfl) ?_
  refine h1 G σ H n pr (by omega) _ fun v1 d1 N1 H1 n1 q1 o1 r1 => ?_
  subst q1
  refine h2 N1 σ H1 n1 (pr.next o1) (by have := o1.le; omega) _ fun v2 d2 N2 H2 n2 q2 o2 r2 => ?_
  subst q2
  cases r2
  refine ⟨N2, v1, cs, j, rfl, o2.gr.nh, r1.mono o2.gr.gn, hj, fun p x y N H' g hp np hH hx hy hy2 => ?_⟩
  have o12 := o1.trans o2
  have a := o12.gr.trans g
  have hHp : H p = none := by
    cases z : H p with
    | none => rfl
    | some o => rw [o12.gr.ex p o z] at hp; cases hp
  refine ⟨N, p, [], [], fun d => d = .bool true, 0, rfl, g.nh, fun b hb => ?_, by decide, .nil, ⟨rfl, rfl⟩, fun v d N3 H3 n3 hd o r => ?_⟩
  · cases hb
    exact ⟨np, x, y, 0, hH, hx, hy, hy2, by omega, by omega⟩
  · exact q v d N3 H3 n hd ⟨a.drop o.gr hHp, TinOk.none, by omega⟩ r
theorem fo_law (hB : Bt mg) (D1 : Dn P w K mg base 7 "_law_by_hand_right" p_by_hand_right (spD F_by_hand)) (D2 : Dn P w K mg base 1 "_law_cells" p_cells (spC K)) (D3 : Dn P w K mg base 1 "_law_box" p_box spBx) (D4 : Dn P w K mg base 8 "_law_right" p_right (spT 7000 F_right)) (hf : FnP K "law" s_law f fd) : FnOk P w K mg base CX0 9 f fd ["_law_script"] (spLaw K) := by
  refine hf.ok sc_law (fun vs H Q E h => ?_) (fun cdv A0 outer s H vs Q X0 hr h => ?_)
  · obtain ⟨a, ns, rfl, _⟩ := h
    rfl
  · obtain ⟨a, ns, rfl, hS, q⟩ := h
    have gd : Good (cxD P w K mg base n_law "law" (defScope s_law) f cdv A0 outer s H X0) 8 := ⟨rfl, sc_law.nd, hB, hr⟩
    have run : RX (cxD P w K mg base n_law "law" (defScope s_law) f cdv A0 outer s H X0) none 0 (defBody s_law) [.raw (.ref a), .no, .no] (fun H0 _ _ => SqL K H0 a (ns.map .int)) (fun _ _ _ _ => False) (fun d => d = .bool true) := by
      refine rx_ifO (c1 := 0) (c2 := 0) (c3 := 0) (Pt := fun b => b = false) (Ω1 := fun ρ' H0 _ _ => ρ' = [.raw (.ref a), .no, .no] ∧ SqL K H0 a (ns.map .int)) (fun _ _ _ _ _ h _ => h) (Et.o (Et.lift (eb_not (t := true) (eb_val (e_call0 D1 gd (by decide) (by rfl) ⟨rfl, rfl⟩))))) (fun h => by cases h) (fun _ => rx_nil fun _ _ _ h => ⟨rfl, h⟩) (fun ρ' => rx_and fun hρ => ?_)
      subst hρ
      refine rx_asgS (c1 := 0) (c2 := 0) (i := 1) (W := fun s _ _ _ => ∃ cs : List Int, (s = .dat (lstI cs) ∧ cs.length ≤ 2) ∧ True) gd rfl ?_ fun s => ?_
      · refine fun G0 H0 n0 c0 N σ H n om pr po hn Q q => ?_
        obtain ⟨f', fd', FO', hm', hkp', hb'⟩ := D2.ex
        refine WE.of (pe_call FO' (gd.room.mono (by decide)) (by rfl) hm' hkp' hb' .nil pass0 (pa_cons (pe_var (i := 0) rfl (.inl rfl) (by decide) (by decide)) (pa_cons pe_int pa_nil (se_cons rfl)) (se_cons rfl)) (by decide) (se_cons rfl) rfl) ?_
        refine ⟨.ref a, pr.env.rawAt rfl, N, a, ns, rfl, pr.ex, sqX po.gr.ex om, fun v cs N' H' h1 h2 g r => ?_⟩
        have o : Po none N H n 0 N' H' n := Po.pure pr.tin g
        exact q v (.dat (lstI cs)) N' H' n ⟨cs, ⟨rfl, h2⟩, True.intro⟩ ⟨v, rfl, r⟩ g.gn (pr.next o) (po.trans o) (by omega)
      refine rx_ex fun cs => rx_and fun ⟨hs, hl⟩ => ?_
      subst hs
      have hlen : (cs.map PyData.int).length = cs.length := List.length_map ..
      refine rx_retO (Ev.o (Ev.lift (Ev.to (e_all (bs := (List.range cs.length).map fun _ => true) gd (Ev.to (e_lcN (Nn := n_law) (sc := defScope s_law) gd 2 rfl rfl (fun (i : Nat) => .int (i : Int)) (List.range cs.length) (by rw [List.length_range]; omega) (i_rangeN gd (Ev.to (e_lenL gd (ds := cs.map .int) (nm 1)) (by rw [hlen])) (by omega)) (fun _ => .bool true) fun i hi s H C cl fp => e_rb (cs := cs) (j := i) gd.blk (Nat.le_refl _) D3 D4 (nm 1) (nm 2) (by have := List.mem_range.mp hi; omega)) (by rw [List.map_map]; rfl))) (by rw [List.all_map]; congr 1; exact List.all_eq_true.mpr fun _ _ => rfl))))
    refine ⟨_, (wss _).nox, ?_⟩
    have ex : Ex (fun _ => none) H := fun _ _ h => by cases h
    have pre : Pre none (fun _ => none) (L2.start n_law [.ref a]) [.raw (.ref a), .no, .no] H 0 := ⟨start_raw (N := n_law) (a := a) (vs := []) (ds := []) .nil, ex, TinOk.none⟩
    exact run _ H 0 0 _ _ H 0 hS pre (Po.refl ex TinOk.none) (by decide) _ (fun ρ' N' σ' H' n' f _ _ => f.elim) (fun v d N' H' n' hd r o => by
      subst hd
      cases r
      exact q H')
end
end Pn

set_option Elab.async false
set_option linter.all false
set_option maxRecDepth 100000
set_option maxHeartbeats 0
/-! PnHead: the head, the facts of each def, the end (printed by gen_head.py). -/
namespace Pn
open PySem PySem.Spec PyProof.Rows L2
def d_is_number : He.DefD := ⟨("is_number", none), "is_number", "is_number", defArgs s_is_number, defBody s_is_number, defScope s_is_number, [], []⟩
def d_tuple_of : He.DefD := ⟨("tuple_of", none), "tuple_of", "tuple_of", defArgs s_tuple_of, defBody s_tuple_of, defScope s_tuple_of, [], []⟩
def d_is_tuple_of : He.DefD := ⟨("is_tuple_of", none), "is_tuple_of", "is_tuple_of", defArgs s_is_tuple_of, defBody s_is_tuple_of, defScope s_is_tuple_of, [], []⟩
def d_exact_row : He.DefD := ⟨("exact_row", none), "exact_row", "exact_row", defArgs s_exact_row, defBody s_exact_row, defScope s_exact_row, [], []⟩
def d_bounds_by : He.DefD := ⟨("bounds_by", none), "bounds_by", "bounds_by", defArgs s_bounds_by, defBody s_bounds_by, defScope s_bounds_by, [], []⟩
def d_table_of : He.DefD := ⟨("table_of", none), "table_of", "table_of", defArgs s_table_of, defBody s_table_of, defScope s_table_of, [], []⟩
def d_bare_in : He.DefD := ⟨("bare_in", none), "bare_in", "bare_in", defArgs s_bare_in, defBody s_bare_in, defScope s_bare_in, [], []⟩
def d_must_in : He.DefD := ⟨("must_in", none), "must_in", "must_in", defArgs s_must_in, defBody s_must_in, defScope s_must_in, [], []⟩
def d_can_in : He.DefD := ⟨("can_in", none), "can_in", "can_in", defArgs s_can_in, defBody s_can_in, defScope s_can_in, [], []⟩
def d_off_in : He.DefD := ⟨("off_in", none), "off_in", "off_in", defArgs s_off_in, defBody s_off_in, defScope s_off_in, [], []⟩
def d_is_row_in : He.DefD := ⟨("is_row_in", none), "is_row_in", "is_row_in", defArgs s_is_row_in, defBody s_is_row_in, defScope s_is_row_in, [], []⟩
def d_are_followed : He.DefD := ⟨("are_followed", none), "are_followed", "are_followed", defArgs s_are_followed, defBody s_are_followed, defScope s_are_followed, [], []⟩
def d_is_press : He.DefD := ⟨("is_press", none), "is_press", "is_press", defArgs s_is_press, defBody s_is_press, defScope s_is_press, [], []⟩
def d_box : He.DefD := ⟨("_law_box", none), "_law_box", "_law_box", defArgs s_box, defBody s_box, defScope s_box, [], []⟩
def d_take : He.DefD := ⟨("_law_take", none), "_law_take", "_law_take", defArgs s_take, defBody s_take, defScope s_take, [], []⟩
def d_cells : He.DefD := ⟨("_law_cells", none), "_law_cells", "_law_cells", defArgs s_cells, defBody s_cells, defScope s_cells, [], []⟩
def d_of : He.DefD := ⟨("_law_of", none), "_law_of", "_law_of", defArgs s_of, defBody s_of, defScope s_of, [], []⟩
def d_pick : He.DefD := ⟨("_law_pick", none), "_law_pick", "_law_pick", defArgs s_pick, defBody s_pick, defScope s_pick, [], []⟩
def d_lists : He.DefD := ⟨("_law_lists", none), "_law_lists", "_law_lists", defArgs s_lists, defBody s_lists, defScope s_lists, [], []⟩
def d_same : He.DefD := ⟨("_law_same", none), "_law_same", "_law_same", defArgs s_same, defBody s_same, defScope s_same, [], []⟩
def d_thirds : He.DefD := ⟨("_law_thirds", none), "_law_thirds", "_law_thirds", defArgs s_thirds, defBody s_thirds, defScope s_thirds, [], []⟩
def d_deal : He.DefD := ⟨("_law_deal", none), "_law_deal", "_law_deal", defArgs s_deal, defBody s_deal, defScope s_deal, [], []⟩
def d_parted : He.DefD := ⟨("_law_parted", none), "_law_parted", "_law_parted", defArgs s_parted, defBody s_parted, defScope s_parted, [], []⟩
def d_all_of : He.DefD := ⟨("_law_all_of", none), "_law_all_of", "_law_all_of", defArgs s_all_of, defBody s_all_of, defScope s_all_of, [], []⟩
def d_line : He.DefD := ⟨("_law_line", none), "_law_line", "_law_line", defArgs s_line, defBody s_line, defScope s_line, [], []⟩
def d_exact : He.DefD := ⟨("_law_exact", none), "_law_exact", "_law_exact", defArgs s_exact, defBody s_exact, defScope s_exact, [], []⟩
def d_off : He.DefD := ⟨("_law_off", none), "_law_off", "_law_off", defArgs s_off, defBody s_off, defScope s_off, [], []⟩
def d_let : He.DefD := ⟨("_law_let", none), "_law_let", "_law_let", defArgs s_let, defBody s_let, defScope s_let, [], []⟩
def d_is_line : He.DefD := ⟨("_law_is_line", none), "_law_is_line", "_law_is_line", defArgs s_is_line, defBody s_is_line, defScope s_is_line, [], []⟩
def d_are_rows : He.DefD := ⟨("_law_are_rows", none), "_law_are_rows", "_law_are_rows", defArgs s_are_rows, defBody s_are_rows, defScope s_are_rows, [], []⟩
def d_is_press_by : He.DefD := ⟨("_law_is_press_by", none), "_law_is_press_by", "_law_is_press_by", defArgs s_is_press_by, defBody s_is_press_by, defScope s_is_press_by, [], []⟩
def d_some_rows : He.DefD := ⟨("_law_some_rows", none), "_law_some_rows", "_law_some_rows", defArgs s_some_rows, defBody s_some_rows, defScope s_some_rows, [], []⟩
def d_bent_rows : He.DefD := ⟨("_law_bent_rows", none), "_law_bent_rows", "_law_bent_rows", defArgs s_bent_rows, defBody s_bent_rows, defScope s_bent_rows, [], []⟩
def d_right : He.DefD := ⟨("_law_right", none), "_law_right", "_law_right", defArgs s_right, defBody s_right, defScope s_right, [], []⟩
def d_off_right : He.DefD := ⟨("_law_off_right", none), "_law_off_right", "_law_off_right", defArgs s_off_right, defBody s_off_right, defScope s_off_right, [], []⟩
def d_by_hand_right : He.DefD := ⟨("_law_by_hand_right", none), "_law_by_hand_right", "_law_by_hand_right", defArgs s_by_hand_right, defBody s_by_hand_right, defScope s_by_hand_right, [], []⟩
def d_law : He.DefD := ⟨("law", none), "law", "law", defArgs s_law, defBody s_law, defScope s_law, [], []⟩
def fn : List He.DefD := [d_is_number, d_tuple_of, d_is_tuple_of, d_exact_row, d_bounds_by, d_table_of, d_bare_in, d_must_in, d_can_in, d_off_in, d_is_row_in, d_are_followed, d_is_press, d_box, d_take, d_cells, d_of, d_pick, d_lists, d_same, d_thirds, d_deal, d_parted, d_all_of, d_line, d_exact, d_off, d_let, d_is_line, d_are_rows, d_is_press_by, d_some_rows, d_bent_rows, d_right, d_off_right, d_by_hand_right, d_law]
def fa : List He.Fa := [.glo "is_number", .glo "tuple_of", .glo "is_tuple_of", .glo "exact_row", .glo "bounds_by", .glo "table_of", .glo "bare_in", .glo "must_in", .glo "can_in", .glo "off_in", .glo "is_row_in", .glo "are_followed", .glo "is_press", .glo "_law_box", .glo "_law_take", .glo "_law_cells", .glo "_law_of", .glo "_law_pick", .glo "_law_lists", .glo "_law_same", .glo "_law_thirds", .glo "_law_deal", .glo "_law_parted", .glo "_law_all_of", .glo "_law_line", .glo "_law_exact", .glo "_law_off", .glo "_law_let", .glo "_law_is_line", .glo "_law_are_rows", .glo "_law_is_press_by", .glo "_law_some_rows", .glo "_law_bent_rows", .glo "_law_right", .glo "_law_off_right", .glo "_law_by_hand_right", .glo "law", .free "isinstance", .free "tuple", .free "list", .free "int", .free "bool", .free "str", .free "len", .free "range", .free "sum", .free "max", .free "min", .free "abs", .free "all", .free "zip", .free "enumerate", .free "sorted"]
abbrev R0 : PySem.W.OpenRow := PySem.W.OpenLaw.row PySem.Challenge.rw_stillpanes_k15_whole_presses_and_rows_be
abbrev hk : PySem.W.Hook := He.hookD 4 fa fn
def ob (s : PySem.W.SharedT) : He.AlD := He.obsDG 4 fa fn (HandSHeadRun.getT s)
theorem ob_eq (s : PySem.W.SharedT) : ob s = hk.obs s.abs := He.obsDG_eq (HandSHeadRun.getT_eq s)
def loose : List PySem.Str := (["is_number", "tuple_of", "is_tuple_of", "exact_row", "bounds_by", "table_of", "bare_in", "must_in", "can_in", "off_in", "is_row_in", "are_followed", "is_press", "_law_box", "_law_take", "_law_cells", "_law_of", "_law_pick", "_law_lists"] : List PySem.Str) ++ (["_law_same", "_law_thirds", "_law_deal", "_law_parted", "_law_all_of", "_law_line", "_law_exact", "_law_off", "_law_let", "_law_is_line", "_law_are_rows", "_law_is_press_by", "_law_some_rows", "_law_bent_rows", "_law_right", "_law_off_right", "_law_by_hand_right"] : List PySem.Str)
theorem run (w : World) : HandSHeadRun.RunEq R0 (PySem.W.view R0.prog [39]) hk ob 2000 loose w := by
  intro os
  kernel_rfl
theorem facts {P : Program} {w : World} {K : PySem.W.Frag} {h : Heap} {mg : Str → Option Value} {f : Addr} (X : K.In h) (G : h.Ns mainGlobals mg) (hfa : mg ("law" : Str) = some (.ref f)) (c : He.SaysD fa fn K) :
    ∃ fd : FuncData, (∀ (s : Shared) (v : Value), BindsTo s fd ⟨[v], []⟩ [("_law_script", v)]) ∧ ∀ base : Heap, K.In base → base.Ns mainGlobals mg → FnOk P w K mg base CX0 9 f fd ["_law_script"] (spLaw K) := by
  have hB : Bt mg := ⟨He.free_ok X G (c.fact 37 (f := .free "isinstance") rfl), He.free_ok X G (c.fact 38 (f := .free "tuple") rfl), He.free_ok X G (c.fact 39 (f := .free "list") rfl), He.free_ok X G (c.fact 40 (f := .free "int") rfl), He.free_ok X G (c.fact 41 (f := .free "bool") rfl), He.free_ok X G (c.fact 42 (f := .free "str") rfl), He.free_ok X G (c.fact 43 (f := .free "len") rfl), He.free_ok X G (c.fact 44 (f := .free "range") rfl), He.free_ok X G (c.fact 45 (f := .free "sum") rfl), He.free_ok X G (c.fact 46 (f := .free "max") rfl), He.free_ok X G (c.fact 47 (f := .free "min") rfl), He.free_ok X G (c.fact 48 (f := .free "abs") rfl), He.free_ok X G (c.fact 49 (f := .free "all") rfl), He.free_ok X G (c.fact 50 (f := .free "zip") rfl), He.free_ok X G (c.fact 51 (f := .free "enumerate") rfl), He.free_ok X G (c.fact 52 (f := .free "sorted") rfl)⟩
  obtain ⟨fd_is_number, W_is_number⟩ := c.def_ 0 (d := d_is_number) rfl
  have m_is_number := He.glo_ok X G (c.fact 0 (f := .glo "is_number") rfl)
  obtain ⟨fd_tuple_of, W_tuple_of⟩ := c.def_ 1 (d := d_tuple_of) rfl
  have m_tuple_of := He.glo_ok X G (c.fact 1 (f := .glo "tuple_of") rfl)
  obtain ⟨fd_is_tuple_of, W_is_tuple_of⟩ := c.def_ 2 (d := d_is_tuple_of) rfl
  have m_is_tuple_of := He.glo_ok X G (c.fact 2 (f := .glo "is_tuple_of") rfl)
  obtain ⟨fd_exact_row, W_exact_row⟩ := c.def_ 3 (d := d_exact_row) rfl
  have m_exact_row := He.glo_ok X G (c.fact 3 (f := .glo "exact_row") rfl)
  obtain ⟨fd_bounds_by, W_bounds_by⟩ := c.def_ 4 (d := d_bounds_by) rfl
  have m_bounds_by := He.glo_ok X G (c.fact 4 (f := .glo "bounds_by") rfl)
  obtain ⟨fd_table_of, W_table_of⟩ := c.def_ 5 (d := d_table_of) rfl
  have m_table_of := He.glo_ok X G (c.fact 5 (f := .glo "table_of") rfl)
  obtain ⟨fd_bare_in, W_bare_in⟩ := c.def_ 6 (d := d_bare_in) rfl
  have m_bare_in := He.glo_ok X G (c.fact 6 (f := .glo "bare_in") rfl)
  obtain ⟨fd_must_in, W_must_in⟩ := c.def_ 7 (d := d_must_in) rfl
  have m_must_in := He.glo_ok X G (c.fact 7 (f := .glo "must_in") rfl)
  obtain ⟨fd_can_in, W_can_in⟩ := c.def_ 8 (d := d_can_in) rfl
  have m_can_in := He.glo_ok X G (c.fact 8 (f := .glo "can_in") rfl)
  obtain ⟨fd_off_in, W_off_in⟩ := c.def_ 9 (d := d_off_in) rfl
  have m_off_in := He.glo_ok X G (c.fact 9 (f := .glo "off_in") rfl)
  obtain ⟨fd_is_row_in, W_is_row_in⟩ := c.def_ 10 (d := d_is_row_in) rfl
  have m_is_row_in := He.glo_ok X G (c.fact 10 (f := .glo "is_row_in") rfl)
  obtain ⟨fd_are_followed, W_are_followed⟩ := c.def_ 11 (d := d_are_followed) rfl
  have m_are_followed := He.glo_ok X G (c.fact 11 (f := .glo "are_followed") rfl)
  obtain ⟨fd_is_press, W_is_press⟩ := c.def_ 12 (d := d_is_press) rfl
  have m_is_press := He.glo_ok X G (c.fact 12 (f := .glo "is_press") rfl)
  obtain ⟨fd_box, W_box⟩ := c.def_ 13 (d := d_box) rfl
  have m_box := He.glo_ok X G (c.fact 13 (f := .glo "_law_box") rfl)
  obtain ⟨fd_take, W_take⟩ := c.def_ 14 (d := d_take) rfl
  have m_take := He.glo_ok X G (c.fact 14 (f := .glo "_law_take") rfl)
  obtain ⟨fd_cells, W_cells⟩ := c.def_ 15 (d := d_cells) rfl
  have m_cells := He.glo_ok X G (c.fact 15 (f := .glo "_law_cells") rfl)
  obtain ⟨fd_of, W_of⟩ := c.def_ 16 (d := d_of) rfl
  have m_of := He.glo_ok X G (c.fact 16 (f := .glo "_law_of") rfl)
  obtain ⟨fd_pick, W_pick⟩ := c.def_ 17 (d := d_pick) rfl
  have m_pick := He.glo_ok X G (c.fact 17 (f := .glo "_law_pick") rfl)
  obtain ⟨fd_lists, W_lists⟩ := c.def_ 18 (d := d_lists) rfl
  have m_lists := He.glo_ok X G (c.fact 18 (f := .glo "_law_lists") rfl)
  obtain ⟨fd_same, W_same⟩ := c.def_ 19 (d := d_same) rfl
  have m_same := He.glo_ok X G (c.fact 19 (f := .glo "_law_same") rfl)
  obtain ⟨fd_thirds, W_thirds⟩ := c.def_ 20 (d := d_thirds) rfl
  have m_thirds := He.glo_ok X G (c.fact 20 (f := .glo "_law_thirds") rfl)
  obtain ⟨fd_deal, W_deal⟩ := c.def_ 21 (d := d_deal) rfl
  have m_deal := He.glo_ok X G (c.fact 21 (f := .glo "_law_deal") rfl)
  obtain ⟨fd_parted, W_parted⟩ := c.def_ 22 (d := d_parted) rfl
  have m_parted := He.glo_ok X G (c.fact 22 (f := .glo "_law_parted") rfl)
  obtain ⟨fd_all_of, W_all_of⟩ := c.def_ 23 (d := d_all_of) rfl
  have m_all_of := He.glo_ok X G (c.fact 23 (f := .glo "_law_all_of") rfl)
  obtain ⟨fd_line, W_line⟩ := c.def_ 24 (d := d_line) rfl
  have m_line := He.glo_ok X G (c.fact 24 (f := .glo "_law_line") rfl)
  obtain ⟨fd_exact, W_exact⟩ := c.def_ 25 (d := d_exact) rfl
  have m_exact := He.glo_ok X G (c.fact 25 (f := .glo "_law_exact") rfl)
  obtain ⟨fd_off, W_off⟩ := c.def_ 26 (d := d_off) rfl
  have m_off := He.glo_ok X G (c.fact 26 (f := .glo "_law_off") rfl)
  obtain ⟨fd_let, W_let⟩ := c.def_ 27 (d := d_let) rfl
  have m_let := He.glo_ok X G (c.fact 27 (f := .glo "_law_let") rfl)
  obtain ⟨fd_is_line, W_is_line⟩ := c.def_ 28 (d := d_is_line) rfl
  have m_is_line := He.glo_ok X G (c.fact 28 (f := .glo "_law_is_line") rfl)
  obtain ⟨fd_are_rows, W_are_rows⟩ := c.def_ 29 (d := d_are_rows) rfl
  have m_are_rows := He.glo_ok X G (c.fact 29 (f := .glo "_law_are_rows") rfl)
  obtain ⟨fd_is_press_by, W_is_press_by⟩ := c.def_ 30 (d := d_is_press_by) rfl
  have m_is_press_by := He.glo_ok X G (c.fact 30 (f := .glo "_law_is_press_by") rfl)
  obtain ⟨fd_some_rows, W_some_rows⟩ := c.def_ 31 (d := d_some_rows) rfl
  have m_some_rows := He.glo_ok X G (c.fact 31 (f := .glo "_law_some_rows") rfl)
  obtain ⟨fd_bent_rows, W_bent_rows⟩ := c.def_ 32 (d := d_bent_rows) rfl
  have m_bent_rows := He.glo_ok X G (c.fact 32 (f := .glo "_law_bent_rows") rfl)
  obtain ⟨fd_right, W_right⟩ := c.def_ 33 (d := d_right) rfl
  have m_right := He.glo_ok X G (c.fact 33 (f := .glo "_law_right") rfl)
  obtain ⟨fd_off_right, W_off_right⟩ := c.def_ 34 (d := d_off_right) rfl
  have m_off_right := He.glo_ok X G (c.fact 34 (f := .glo "_law_off_right") rfl)
  obtain ⟨fd_by_hand_right, W_by_hand_right⟩ := c.def_ 35 (d := d_by_hand_right) rfl
  have m_by_hand_right := He.glo_ok X G (c.fact 35 (f := .glo "_law_by_hand_right") rfl)
  obtain ⟨fd, F⟩ := c.def_ 36 (d := d_law) rfl
  have e := hfa.symm.trans (He.glo_ok X G (c.fact 36 (f := .glo "law") rfl))
  cases e
  have b := FunD.bindsA (ps := ["_law_script"]) F fun _ _ _ _ _ _ us hl => match us, hl with | [_], _ => rfl
  refine ⟨fd, fun s v => b s [v] rfl, fun base _ _ => ?_⟩
  have D_is_number := dn_is_number (P := P) (w := w) (base := base) hB  W_is_number m_is_number
  have D_is_tuple_of := dn_is_tuple_of (P := P) (w := w) (base := base) hB  W_is_tuple_of m_is_tuple_of
  have D_tuple_of := dn_tuple_of (P := P) (w := w) (base := base) hB W_tuple_of m_tuple_of 4
  have D_exact_row := dn_exact_row (P := P) (w := w) (base := base) hB  W_exact_row m_exact_row
  have D_bounds_by := dn_bounds_by (P := P) (w := w) (base := base) hB  W_bounds_by m_bounds_by
  have D_table_of := dn_table_of (P := P) (w := w) (base := base) hB D_exact_row D_bounds_by W_table_of m_table_of
  have D_bare_in := dn_bare_in (P := P) (w := w) (base := base) hB  W_bare_in m_bare_in
  have D_must_in := dn_must_in (P := P) (w := w) (base := base) hB  W_must_in m_must_in
  have D_can_in := dn_can_in (P := P) (w := w) (base := base) hB  W_can_in m_can_in
  have D_off_in := dn_off_in (P := P) (w := w) (base := base) hB D_exact_row W_off_in m_off_in
  have D_is_row_in := dn_is_row_in (P := P) (w := w) (base := base) hB D_is_number D_is_tuple_of W_is_row_in m_is_row_in
  have FO := fo_are_followed (P := P) (w := w) (base := base) hB D_tuple_of D_is_tuple_of D_is_row_in D_off_in W_are_followed m_are_followed
  have D_are_followed := dn_are_followed (P := P) (w := w) (base := base) hB D_tuple_of D_is_tuple_of D_is_row_in D_off_in W_are_followed m_are_followed
  have D_is_press := dn_is_press (P := P) (w := w) (base := base) hB D_is_number D_tuple_of D_is_tuple_of D_table_of D_bare_in D_must_in D_can_in W_is_press m_is_press
  have D_lists := dn_lists (P := P) (w := w) (base := base) hB W_lists m_lists 4
  have D_same := dn_same (P := P) (w := w) (base := base) hB W_same m_same
  have D_thirds := dn_thirds (P := P) (w := w) (base := base) hB  W_thirds m_thirds
  have D_exact := dn_exact (P := P) (w := w) (base := base) hB  W_exact m_exact
  have D_off := dn_off (P := P) (w := w) (base := base) hB D_exact W_off m_off
  have D_let := dn_let (P := P) (w := w) (base := base) hB D_exact W_let m_let
  have D_is_line := dn_is_line (P := P) (w := w) (base := base) hB  W_is_line m_is_line
  have D_are_rows := dn_are_rows (P := P) (w := w) (base := base) hB D_is_line D_off W_are_rows m_are_rows
  have D_is_press_by := dn_is_press_by (P := P) (w0 := w) (base := base) hB  W_is_press_by m_is_press_by
  have D_all_of := dn_all_of (P := P) (w := w) (base := base) hB  W_all_of m_all_of
  have D_by_hand := dn_by_hand (P := P) (w := w) (base := base) hB D_thirds D_are_followed D_is_press (D_same 2) W_by_hand_right m_by_hand_right
  have D_take := dn_take (P := P) (w := w) (base := base) hB  W_take m_take
  have D_of := dn_of (P := P) (w := w) (base := base) hB D_take W_of m_of
  have D_line := dn_line (P := P) (w := w) (base := base) hB D_take D_exact W_line m_line
  have D_pick := dn_pick (P := P) (w := w) (base := base) hB D_take W_pick m_pick
  have D_parted := dn_parted (P := P) (w := w) (base := base) hB D_take D_pick W_parted m_parted
  have D_deal := dn_deal (P := P) (w := w) (base := base) hB D_take W_deal m_deal
  have D_bent_rows := dn_bent_rows (P := P) (w := w) (base := base) hB D_take W_bent_rows m_bent_rows
  have D_some_rows := dn_some_rows (P := P) (w := w) (base := base) hB D_of D_let W_some_rows m_some_rows
  have D_off_right := dn_off_right (P := P) (w := w) (base := base) hB D_let D_is_press_by D_is_press D_same D_of D_some_rows D_bent_rows D_are_rows D_are_followed FO W_are_followed m_are_followed W_off_right m_off_right
  have D_right := dn_right (P := P) (w := w) (base := base) hB D_deal D_parted D_line D_all_of D_lists D_take D_off_right W_right m_right
  have D_cells := dn_cells (P := P) (w := w) (base := base) hB  W_cells m_cells
  have D_box := dn_box (P := P) (w := w) (base := base) hB  W_box m_box
  exact fo_law hB D_by_hand D_cells D_box D_right F
end Pn
open PySem PySem.W PySem.Calls PyProof.Rows
theorem PySem.Challenge.cw_stillpanes_k15_whole_presses_and_rows_be_holds : PySem.Challenge.rw_stillpanes_k15_whole_presses_and_rows_be.Holds := by
  w_on; o_law
  refine HandSHeadRun.head_any (r := OpenLaw.row PySem.Challenge.rw_stillpanes_k15_whole_presses_and_rows_be) (q := view (OpenLaw.row PySem.Challenge.rw_stillpanes_k15_whole_presses_and_rows_be).prog [39]) (H := Pn.hk) (ob := Pn.ob) (M := 2000) (loose := Pn.loose) (d := HandSHeadRun.topDef (OpenLaw.row PySem.Challenge.rw_stillpanes_k15_whole_presses_and_rows_be).prog 39) (kwd := []) Pn.ob_eq
    (by kernel_rfl) (fun s => by kernel_rfl) Pn.run (by kernel_rfl) (by kernel_rfl) (by kernel_rfl) (by rfl) (by first | assumption | decide +kernel) (by decide +kernel) ⟨rfl, rfl, rfl, rfl, rfl, by decide +kernel⟩ ?hw ?hc
  case hw => w_witness2
  case hc =>
    refine L2.walk_ofE (l := PySem.Challenge.rw_stillpanes_k15_whole_presses_and_rows_be) (n := 63) (k := 9) (x := "_law_script") (CX := L2.CX0) rfl (by decide) (by kernel_rfl) ⟨rfl, by decide, by decide⟩ ?F (fun _ _ _ _ z => z)
    intro w mg fa h Y G hmg0
    obtain ⟨K, KX, c⟩ := Y
    have hmg : mg ("law" : PySem.Str) = some (.ref fa) := by
      have e : (HandSHeadRun.topDef (OpenLaw.row PySem.Challenge.rw_stillpanes_k15_whole_presses_and_rows_be).prog 39).name = ("law" : PySem.Str) := by kernel_rfl
      rw [← e]
      exact hmg0
    obtain ⟨fd, hb, hF⟩ := Pn.facts (P := (PySem.Challenge.rw_stillpanes_k15_whole_presses_and_rows_be).prog) (w := w) KX G hmg c
    exact ⟨K, fd, Pn.spLaw K, KX, hb, fun H a ns hl _ hS => ⟨a, ns, rfl, hS, fun _ => rfl⟩, hF⟩
