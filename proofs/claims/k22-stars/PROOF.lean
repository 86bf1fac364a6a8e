import PyProof.Rows.All
import Wide.All
import OpenK.AllK
import Wide.FinOn
import HandS.ForMost
import HandS.Zip
import HandS.Deep
import HandS.IsInst
import HandS.Wide
import HandS.Walk
import HandS.Evl
import HandS.Defaults
import HandS.More
import HandS.HeadHook1
import KE.KStateDown
import HandS.Head0
import HandS.Head1
import HandS.Head2
import HandS.HeadEnd
import HandS.HeadHook2
import HandS.HeadHook3
import HandS.HeadHook4
import KE.GoesEnum
import PySem.Challenge.RW_unitgrids_k22_whole_stars_and_what_is_en
set_option Elab.async false
set_option linter.all false
set_option maxRecDepth 100000
set_option maxHeartbeats 4000000
/-! U1: data over a frozen heap, growth, the typed judgements. -/
namespace U
open PySem L2 Evl

/-- what a value is, as data; raw: the value itself -/
inductive D where
  | raw (v : V)
  | lst (ds : List D)
  | tup (ds : List D)
  | ins (C : Addr) (fs : List (Str × D))
abbrev D.int (i : Int) : D := .raw (.int i)
abbrev D.bl (b : Bool) : D := .raw (.bl b)
abbrev D.str (x : Str) : D := .raw (.str x)
abbrev D.non : D := .raw .non

mutual
inductive Rp (K : PySem.W.Frag) (H : Hp) : V → D → Prop
  | raw (v : V) : Rp K H v (.raw v)
  | lst {a : Addr} {vs : List V} {ds : List D} : H a = some (.lst vs) → RpAll K H vs ds → Rp K H (.ref a) (.lst ds)
  | tup {a : Addr} {vs : List V} {ds : List D} : SqT K H a vs → RpAll K H vs ds → Rp K H (.ref a) (.tup ds)
  | ins {a C dx : Addr} {fvs : List (Str × V)} {fs : List (Str × D)} : H a = some (.ins C dx fvs) → RpFs K H fvs fs → Rp K H (.ref a) (.ins C fs)
inductive RpAll (K : PySem.W.Frag) (H : Hp) : List V → List D → Prop
  | nil : RpAll K H [] []
  | cons {v : V} {vs : List V} {d : D} {ds : List D} : Rp K H v d → RpAll K H vs ds → RpAll K H (v :: vs) (d :: ds)
inductive RpFs (K : PySem.W.Frag) (H : Hp) : List (Str × V) → List (Str × D) → Prop
  | nil : RpFs K H [] []
  | cons {f : Str} {v : V} {vs : List (Str × V)} {d : D} {ds : List (Str × D)} : Rp K H v d → RpFs K H vs ds → RpFs K H ((f, v) :: vs) ((f, d) :: ds)
end

section
variable {K : PySem.W.Frag} {H H' : Hp}
mutual
theorem Rp.mono (e : Ex H H') : ∀ {v : V} {d : D}, Rp K H v d → Rp K H' v d
  | _, _, .raw v => .raw v
  | _, _, .lst h r => .lst (e _ _ h) (RpAll.mono e r)
  | _, _, .tup h r => .tup (ex_t e h) (RpAll.mono e r)
  | _, _, .ins h r => .ins (e _ _ h) (RpFs.mono e r)
theorem RpAll.mono (e : Ex H H') : ∀ {vs : List V} {ds : List D}, RpAll K H vs ds → RpAll K H' vs ds
  | _, _, .nil => .nil
  | _, _, .cons r t => .cons (Rp.mono e r) (RpAll.mono e t)
theorem RpFs.mono (e : Ex H H') : ∀ {vs : List (Str × V)} {ds : List (Str × D)}, RpFs K H vs ds → RpFs K H' vs ds
  | _, _, .nil => .nil
  | _, _, .cons r t => .cons (Rp.mono e r) (RpFs.mono e t)
end
theorem RpAll.length : ∀ {vs : List V} {ds : List D}, RpAll K H vs ds → vs.length = ds.length
  | _, _, .nil => rfl
  | _, _, .cons _ t => by simp [RpAll.length t]
theorem RpAll.get : ∀ {vs : List V} {ds : List D} {i : Nat} {d : D}, RpAll K H vs ds → ds[i]? = some d → ∃ v, vs[i]? = some v ∧ Rp K H v d
  | _, _, _, _, .nil, e => by simp at e
  | _, _, 0, _, .cons r _, e => by simp at e; subst e; exact ⟨_, rfl, r⟩
  | _, _, i + 1, d, .cons _ t, e => by
    obtain ⟨v, h1, h2⟩ := RpAll.get (i := i) (d := d) t (by simpa using e)
    exact ⟨v, by simpa using h1, h2⟩
theorem RpAll.getV : ∀ {vs : List V} {ds : List D} {i : Nat} {v : V}, RpAll K H vs ds → vs[i]? = some v → ∃ d, ds[i]? = some d ∧ Rp K H v d
  | _, _, _, _, .nil, e => by simp at e
  | _, _, 0, _, .cons r _, e => by simp at e; subst e; exact ⟨_, rfl, r⟩
  | _, _, i + 1, v, .cons _ t, e => by
    obtain ⟨d, h1, h2⟩ := RpAll.getV (i := i) (v := v) t (by simpa using e)
    exact ⟨d, by simpa using h1, h2⟩
theorem RpAll.app : ∀ {vs ws : List V} {ds es : List D}, RpAll K H vs ds → RpAll K H ws es → RpAll K H (vs ++ ws) (ds ++ es)
  | _, _, _, _, .nil, s => s
  | _, _, _, _, .cons r t, s => .cons r (RpAll.app t s)
theorem RpAll.one {v : V} {d : D} (h : Rp K H v d) : RpAll K H [v] [d] := .cons h .nil
theorem RpAll.set {v : V} {d : D} (h : Rp K H v d) : ∀ {vs : List V} {ds : List D} (i : Nat), RpAll K H vs ds → RpAll K H (vs.set i v) (ds.set i d)
  | _, _, _, .nil => .nil
  | _, _, 0, .cons _ t => .cons h t
  | _, _, i + 1, .cons q t => .cons q (RpAll.set h i t)
theorem RpAll.take : ∀ {vs : List V} {ds : List D} (n : Nat), RpAll K H vs ds → RpAll K H (vs.take n) (ds.take n)
  | _, _, 0, _ => .nil
  | _, _, _ + 1, .nil => .nil
  | _, _, n + 1, .cons r t => .cons r (RpAll.take n t)
theorem RpAll.drop : ∀ {vs : List V} {ds : List D} (n : Nat), RpAll K H vs ds → RpAll K H (vs.drop n) (ds.drop n)
  | _, _, 0, r => r
  | _, _, _ + 1, .nil => .nil
  | _, _, n + 1, .cons _ t => RpAll.drop n t
/-- flat things: raws are themselves -/
theorem RpAll.raws : ∀ {vs xs : List V}, RpAll K H vs (xs.map D.raw) → vs = xs
  | [], [], _ => rfl
  | _ :: _, [], h => by cases h
  | [], _ :: _, h => by cases h
  | v :: vs, x :: xs, h => by
    cases h with
    | cons r t =>
      cases r
      rw [RpAll.raws t]
theorem RpAll.ofRaws : ∀ (xs : List V), RpAll K H xs (xs.map D.raw)
  | [] => .nil
  | x :: xs => .cons (.raw x) (RpAll.ofRaws xs)
theorem RpFs.get : ∀ {vs : List (Str × V)} {ds : List (Str × D)} {f : Str} {d : D}, RpFs K H vs ds → ds.lookup f = some d → ∃ v, vs.lookup f = some v ∧ Rp K H v d
  | _, _, _, _, .nil, e => by cases e
  | _, _, f, d, .cons (f := g) r t, e => by
    rw [List.lookup_cons] at e
    rw [List.lookup_cons]
    cases q : (f == g) with
    | true =>
      rw [q] at e
      have e2 := Option.some.inj e
      subst e2
      exact ⟨_, rfl, r⟩
    | false =>
      rw [q] at e
      exact RpFs.get t e
end

/-! ### growth: B0, B at the start; H0 the frozen part of H -/
structure Gr (S : List Addr) (B0 B H0 H : Hp) : Prop where
  e0 : Ex B0 H0
  e : ∀ a o, B a = some o → ∃ o', H a = some o' ∧ (a ∉ S → o' = o)
  i : Ex H0 H
  p : ∀ a o, B a = some o → B0 a = none → H0 a = none
section
variable {S : List Addr} {B0 B H0 H H1 H' : Hp}
theorem Gr.refl (i : Ex H0 H) : Gr S H0 H H0 H := ⟨Ex.refl _, fun a o h => ⟨o, h, fun _ => rfl⟩, i, fun _ _ _ h => h⟩
theorem Gr.trans (g : Gr S B0 B H0 H) (h : Gr S H0 H H1 H') : Gr S B0 B H1 H' := by
  refine ⟨g.e0.trans h.e0, fun a o q => ?_, h.i, fun a o q n => ?_⟩
  · obtain ⟨o1, q1, r1⟩ := g.e a o q
    obtain ⟨o2, q2, r2⟩ := h.e a o1 q1
    exact ⟨o2, q2, fun n => (r2 n).trans (r1 n)⟩
  · obtain ⟨o1, q1, _⟩ := g.e a o q
    exact h.p a o1 q1 (g.p a o q n)
theorem Gr.wide (g : Gr [] B0 B H0 H) : Gr S B0 B H0 H := ⟨g.e0, fun a o q => by
  obtain ⟨o', h1, h2⟩ := g.e a o q
  exact ⟨o', h1, fun _ => h2 (by simp)⟩, g.i, g.p⟩
theorem Gr.ex (g : Gr [] B0 B H0 H) : Ex B H := fun a o q => by
  obtain ⟨o', h1, h2⟩ := g.e a o q
  rw [h1, h2 (by simp)]
theorem Gr.at (g : Gr S B0 B H0 H) {a : Addr} {o : HO} (n : a ∉ S) (q : B a = some o) : H a = some o := by
  obtain ⟨o', h1, h2⟩ := g.e a o q
  rw [h1, h2 n]
theorem Gr.free (g : Gr S B0 B H0 H) {a : Addr} (q : H a = none) : B a = none := by
  cases h : B a with
  | none => rfl
  | some o =>
    obtain ⟨o', h1, _⟩ := g.e a o h
    rw [q] at h1
    cases h1
/-- the frozen part may be begun later -/
theorem Gr.rebase {Hs0 Hs : Hp} (g : Gr S B0 B Hs0 Hs) (h : Gr S Hs0 B H0 H) : Gr S B0 B H0 H :=
  ⟨g.e0.trans h.e0, h.e, h.i, fun a o q n => h.p a o q (g.p a o q n)⟩
theorem Gr.base (g : Gr S B0 B H0 H) : Gr S H0 B H0 H := ⟨Ex.refl _, g.e, g.i, fun a o q n => n⟩
/-- a new object, frozen at once -/
theorem Gr.new (i : Ex H0 H) {p : Addr} {o : HO} (hp : H p = none) : Gr S H0 H (upd H0 p o) (upd H p o) := by
  have hp0 : H0 p = none := fresh_back i hp
  refine ⟨Ex.new hp0, fun a o' q => ⟨o', ?_, fun _ => rfl⟩, fun a o' q => ?_, fun a o' q n => ?_⟩
  · rw [upd_ne (ne_of_none q hp)]
    exact q
  · by_cases ha : a = p
    · subst ha
      rw [upd_same] at q ⊢
      exact q
    · rw [upd_ne ha] at q ⊢
      exact i a o' q
  · rw [upd_ne (ne_of_none q hp)]
    exact n
/-- a new object, not frozen -/
theorem Gr.priv (i : Ex H0 H) {p : Addr} {o : HO} (hp : H p = none) : Gr S H0 H H0 (upd H p o) := by
  have hp0 : H0 p = none := fresh_back i hp
  refine ⟨Ex.refl _, fun a o' q => ⟨o', ?_, fun _ => rfl⟩, Ex.mut i hp0, fun a o' q n => n⟩
  rw [upd_ne (ne_of_none q hp)]
  exact q
/-- an object made since B, not frozen, is changed -/
theorem Gr.mut (g : Gr S B0 B H0 H) {p : Addr} {o : HO} (hb : B p = none) (hp : H0 p = none) : Gr S B0 B H0 (upd H p o) := by
  refine ⟨g.e0, fun a o' q => ?_, Ex.mut g.i hp, g.p⟩
  rw [upd_ne (ne_of_none q hb)]
  exact g.e a o' q
/-- an object made since B is frozen as it stands -/
theorem Gr.freeze (g : Gr S B0 B H0 H) {p : Addr} {o : HO} (hb : B p = none) (hp : H0 p = none) (h : H p = some o) : Gr S B0 B (upd H0 p o) H := by
  refine ⟨g.e0.trans (Ex.new hp), g.e, fun a o' q => ?_, fun a o' q n => ?_⟩
  · by_cases ha : a = p
    · subst ha
      rw [upd_same] at q
      rw [h]
      exact q
    · rw [upd_ne ha] at q
      exact g.i a o' q
  · rw [upd_ne (ne_of_none q hb)]
    exact g.p a o' q n
end

/-! ### the law's state [cells, i, n] -/
inductive StV where
  | draw (a c : Addr)
  | self (x C dx : Addr) (fvs : List (Str × V)) (ok : Hp → Prop) (mo : ∀ H H' : Hp, Ex H H' → ok H → ok H')
instance : Coe (Addr × Addr) StV := ⟨fun p => .draw p.1 p.2⟩
abbrev Stt := Option StV
def Sx : Stt → List Addr
  | none => []
  | some (.draw a c) => [a, c]
  | some (.self x _ _ _ _ _) => [x]
/-- what is known of the state between two draws -/
structure StAt (a c : Addr) (H : Hp) (ns : List Int) (i n : Int) : Prop where
  hd : H a = some (.lst [.ref c, .int i, .int n])
  cl : H c = some (.lst (ns.map V.int))
  ne : a ≠ c
  pos : ∀ x ∈ ns, 0 ≤ x
  some_ : ns ≠ []
  few : ns.length ≤ 63
  i0 : 0 ≤ i
  n0 : 0 ≤ n
def StOk (st : Stt) (H0 H : Hp) : Prop := match st with
  | none => True
  | some (.draw a c) => H0 a = none ∧ H0 c = none ∧ ∃ ns i n, StAt a c H ns i n
  | some (.self x C dx fvs ok _) => (H0 x = none ∧ H x = some (.ins C dx fvs)) ∧ ok H0
theorem StOk.gr {st : Stt} {H0 H H1 H' : Hp} (s : StOk st H0 H) (g : Gr [] H0 H H1 H') : StOk st H1 H' := by
  cases st with
  | none => trivial
  | some p =>
    cases p with
    | self x C dx fvs ok mo => exact ⟨⟨g.p _ _ s.1.2 s.1.1, g.ex _ _ s.1.2⟩, mo _ _ g.e0 s.2⟩
    | draw a c =>
    obtain ⟨h1, h2, ns, i, n, q⟩ := s
    exact ⟨g.p _ _ q.hd h1, g.p _ _ q.cl h2, ns, i, n, ⟨g.ex _ _ q.hd, g.ex _ _ q.cl, q.ne, q.pos, q.some_, q.few, q.i0, q.n0⟩⟩

/-! ### lists that may be read and may change later -/
abbrev Mu := List (Addr × List D)
def MuR (K : PySem.W.Frag) (st : Stt) (mu : Mu) (H0 H : Hp) : Prop := ∀ p ∈ mu, p.1 ∉ Sx st ∧ ∃ vs, H p.1 = some (.lst vs) ∧ RpAll K H0 vs p.2
section
variable {K : PySem.W.Frag} {st : Stt} {mu mu' : Mu} {H0 H H1 H' : Hp}
theorem MuR.gr (m : MuR K st mu H0 H) (g : Gr (Sx st) H0 H H1 H') : MuR K st mu H1 H' := fun p hp => by
  obtain ⟨n, vs, h, r⟩ := m p hp
  exact ⟨n, vs, g.at n h, RpAll.mono g.e0 r⟩
theorem MuR.sub (m : MuR K st mu H0 H) (h : ∀ p ∈ mu', p ∈ mu) : MuR K st mu' H0 H := fun p hp => m p (h p hp)
theorem MuR.none_ (m : MuR K st mu H0 H) : MuR K none mu H0 H := fun p hp => ⟨by simp [Sx], (m p hp).2⟩
end

/-! ### slots -/
abbrev G := List (Option D)
structure En (K : PySem.W.Frag) (H : Hp) (σ : L2.St) (Γ : G) : Prop where
  len : σ.length = Γ.length
  get : ∀ (i : Nat) (d : D), Γ[i]? = some (some d) → ∃ v, σ[i]? = some (some v) ∧ Rp K H v d
section
variable {K : PySem.W.Frag} {H H' : Hp} {σ : L2.St} {Γ : G}
theorem En.mono (e : Ex H H') (n : En K H σ Γ) : En K H' σ Γ := ⟨n.len, fun i d h => by
  obtain ⟨v, h1, h2⟩ := n.get i d h
  exact ⟨v, h1, h2.mono e⟩⟩
theorem En.set (n : En K H σ Γ) {v : V} {d : D} (r : Rp K H v d) (j : Nat) : En K H (σ.set j (some v)) (Γ.set j (some d)) := by
  refine ⟨by simp [n.len], fun i d' h => ?_⟩
  by_cases hj : j = i
  · subst hj
    by_cases hl : j < Γ.length
    · rw [List.getElem?_set_self hl] at h
      cases h
      exact ⟨v, List.getElem?_set_self (by rw [n.len]; exact hl), r⟩
    · rw [List.getElem?_eq_none (by simpa using hl)] at h
      cases h
  · rw [List.getElem?_set_ne hj] at h ⊢
    exact n.get i d' h
def wipeG (Γ : G) : List Nat → G
  | [] => Γ
  | v :: vs => (wipeG Γ vs).set v none
theorem En.wipe (n : En K H σ Γ) : ∀ vs : List Nat, En K H (L2.wipe σ vs) (wipeG Γ vs)
  | [] => n
  | v :: vs => by
    have ih := En.wipe n vs
    refine ⟨by show ((L2.wipe σ vs).set v none).length = ((wipeG Γ vs).set v none).length; simp [ih.len], fun i d h => ?_⟩
    have h' : ((wipeG Γ vs).set v none)[i]? = some (some d) := h
    show ∃ x, ((L2.wipe σ vs).set v none)[i]? = some (some x) ∧ _
    by_cases hj : v = i
    · subst hj
      by_cases hl : v < (wipeG Γ vs).length
      · rw [List.getElem?_set_self hl] at h'
        cases h'
      · rw [List.getElem?_eq_none (by simpa using hl)] at h'
        cases h'
    · rw [List.getElem?_set_ne hj] at h' ⊢
      exact ih.get i d h'
theorem En.start {N : List Str} {vs : List V} {ds : List D} (r : RpAll K H vs ds) (h : ds.length ≤ N.length) : En K H (L2.start N vs) (ds.map some ++ List.replicate (N.length - ds.length) none) := by
  refine ⟨by simp [L2.start, r.length], fun i d h => ?_⟩
  unfold L2.start
  by_cases hi : i < ds.length
  · rw [List.getElem?_append_left (by simpa using hi), List.getElem?_map] at h
    cases q : ds[i]? with
    | none => rw [q] at h; cases h
    | some d' =>
      rw [q] at h
      cases h
      obtain ⟨v, h1, h2⟩ := r.get q
      refine ⟨v, ?_, h2⟩
      rw [List.getElem?_append_left (by simp [r.length, hi]), List.getElem?_map, h1]
      rfl
  · rw [List.getElem?_append_right (by simpa using hi), List.getElem?_replicate] at h
    split at h <;> cases h
end

/-! ### the judgements -/
section
variable (K : PySem.W.Frag) (st : Stt) (mu : Mu)
/-- an expression evaluates to some data of which P holds -/
def EV (te : TE) (Γ : G) (P : D → Prop) : Prop := ∀ (σ : L2.St) (H0 H : Hp), Ex H0 H → StOk st H0 H → MuR K st mu H0 H → En K H0 σ Γ →
  ∀ Q : VK, (∀ v d H1 H', Gr (Sx st) H0 H H1 H' → StOk st H1 H' → P d → Rp K H1 v d → Q v H') → te σ H Q
def ET (tt : TT) (Γ : G) (P : Bool → Prop) : Prop := ∀ (σ : L2.St) (H0 H : Hp), Ex H0 H → StOk st H0 H → MuR K st mu H0 H → En K H0 σ Γ →
  ∀ Q : Bool → Hp → Prop, (∀ b H1 H', Gr (Sx st) H0 H H1 H' → StOk st H1 H' → P b → Q b H') → tt σ H Q
def EA (ta : TA) (Γ : G) (P : List D → Prop) : Prop := ∀ (σ : L2.St) (H0 H : Hp), Ex H0 H → StOk st H0 H → MuR K st mu H0 H → En K H0 σ Γ →
  ∀ Q : List V → Hp → Prop, (∀ vs ds H1 H', Gr (Sx st) H0 H H1 H' → StOk st H1 H' → P ds → RpAll K H1 vs ds → Q vs H') → ta σ H Q
/-- an operation on two things; on a list of things (a built-in's call) -/
def RO (r : R2) (x y : D) (P : D → Prop) : Prop := ∀ (H0 H : Hp) (vx vy : V), Ex H0 H → StOk st H0 H → MuR K st mu H0 H → Rp K H0 vx x → Rp K H0 vy y →
  ∀ Q : VK, (∀ v d H1 H', Gr (Sx st) H0 H H1 H' → StOk st H1 H' → P d → Rp K H1 v d → Q v H') → r vx vy H Q
def RC (r : List V → Hp → VK → Prop) (xs : List D) (P : D → Prop) : Prop := ∀ (H0 H : Hp) (vs : List V), Ex H0 H → StOk st H0 H → MuR K st mu H0 H → RpAll K H0 vs xs →
  ∀ Q : VK, (∀ v d H1 H', Gr (Sx st) H0 H H1 H' → StOk st H1 H' → P d → Rp K H1 v d → Q v H') → r vs H Q
end
/-- THE PROMISE of a def: R says of which arguments (with which state, which lists read) and what of the result -/
def spG (K : PySem.W.Frag) (R : List D → Stt → Mu → (D → Prop) → Prop) : Sp := fun vs H Q _ => ∃ (H0 : Hp) (ds : List D) (st : Stt) (mu : Mu) (P : D → Prop),
  Ex H0 H ∧ StOk st H0 H ∧ MuR K st mu H0 H ∧ RpAll K H0 vs ds ∧ R ds st mu P ∧ ∀ v d H1 H', Gr (Sx st) H0 H H1 H' → StOk st H1 H' → P d → Rp K H1 v d → Q v H'
end U
set_option maxHeartbeats 4000000
/-! U2: rules for expressions over typed slots. -/
namespace U
open PySem L2 Evl

abbrev Is {α : Type} (d : α) : α → Prop := fun x => x = d

/-! ### data as PyData, for == and in -/
mutual
def py : D → PyData
  | .raw v => match v with
    | .bl b => .bool b
    | .int i => .int i
    | .str x => .str x
    | _ => .none
  | .lst ds => .list (pys ds)
  | .tup ds => .tuple (pys ds)
  | .ins _ _ => .none
def pys : List D → List PyData
  | [] => []
  | d :: ds => py d :: pys ds
end
mutual
def okD : D → Bool
  | .raw v => match v with
    | .non => true
    | .bl _ => true
    | .int _ => true
    | .str _ => true
    | _ => false
  | .lst ds => okDs ds
  | .tup ds => okDs ds
  | .ins _ _ => false
def okDs : List D → Bool
  | [] => true
  | d :: ds => okD d && okDs ds
end
theorem pys_map (ds : List D) : pys ds = ds.map py := by
  induction ds with
  | nil => rfl
  | cons d ds ih => show py d :: pys ds = _; rw [ih]; rfl
section
variable {K : PySem.W.Frag} {H : Hp}
mutual
theorem Rp.dp : ∀ {v : V} {d : D}, Rp K H v d → okD d = true → Dp K H v (py d)
  | _, _, .raw v, h => by
    cases v with
    | non => exact .non
    | bl b => exact .bl b
    | int i => exact .int i
    | str x => exact .str x
    | _ => cases h
  | _, _, .lst h r, k => .lst (.inl (.inl h)) (RpAll.dp r k)
  | _, _, .tup h r, k => .tup h (RpAll.dp r k)
  | _, _, .ins _ _, k => by cases k
theorem RpAll.dp : ∀ {vs : List V} {ds : List D}, RpAll K H vs ds → okDs ds = true → DpAll K H vs (pys ds)
  | _, _, .nil, _ => .nil
  | _, _, .cons r t, k => .cons (Rp.dp r (Bool.and_eq_true_iff.mp k).1) (RpAll.dp t (Bool.and_eq_true_iff.mp k).2)
end
end

/-! ### what may be read as a sequence -/
def SeqD (mu : Mu) (d : D) (ds : List D) : Prop := d = .lst ds ∨ d = .tup ds ∨ ∃ l, d = .raw (.ref l) ∧ (l, ds) ∈ mu
theorem SeqD.l {mu : Mu} {ds : List D} : SeqD mu (.lst ds) ds := .inl rfl
theorem SeqD.t {mu : Mu} {ds : List D} : SeqD mu (.tup ds) ds := .inr (.inl rfl)
theorem SeqD.m {mu : Mu} {l : Addr} {ds : List D} (h : (l, ds) ∈ mu) : SeqD mu (.raw (.ref l)) ds := .inr (.inr ⟨l, rfl, h⟩)
section
variable {K : PySem.W.Frag} {st : Stt} {mu : Mu} {H0 H : Hp} {v : V} {d : D} {ds : List D}
theorem SeqD.at (s : SeqD mu d ds) (i : Ex H0 H) (m : MuR K st mu H0 H) (r : Rp K H0 v d) : ∃ a vs, v = .ref a ∧ (H a = some (.lst vs) ∨ SqT K H a vs) ∧ RpAll K H0 vs ds := by
  rcases s with e | e | ⟨l, e, hm⟩
  · subst e
    cases r with
    | lst h r => exact ⟨_, _, rfl, .inl (i _ _ h), r⟩
  · subst e
    cases r with
    | tup h r => exact ⟨_, _, rfl, .inr (ex_t i h), r⟩
  · subst e
    cases r
    obtain ⟨_, vs, h, r⟩ := m _ hm
    exact ⟨l, vs, rfl, .inl h, r⟩
theorem SeqD.at2 (s : SeqD mu d ds) (i : Ex H0 H) (m : MuR K st mu H0 H) (r : Rp K H0 v d) : ∃ a vs, v = .ref a ∧ (SqL K H a vs ∨ SqT K H a vs) ∧ RpAll K H0 vs ds := by
  obtain ⟨a, vs, e, h, q⟩ := s.at i m r
  exact ⟨a, vs, e, h.imp SqL.of id, q⟩
end

section
variable {K : PySem.W.Frag} {st : Stt} {mu : Mu} {Γ : G} {te ta tb tc : TE} {tt tu : TT} {P PA PB PC : D → Prop}

/-! ### the plain ones -/
theorem EV.imp (h : EV K st mu te Γ P) (k : ∀ d, P d → PA d) : EV K st mu te Γ PA := fun σ H0 H i s m n Q q => h σ H0 H i s m n Q fun v d H1 H' g s' p r => q v d H1 H' g s' (k d p) r
theorem EV.is {d e : D} (h : EV K st mu te Γ (Is d)) (k : d = e) : EV K st mu te Γ (Is e) := k ▸ h
theorem ET.imp {P P' : Bool → Prop} (h : ET K st mu tt Γ P) (k : ∀ b, P b → P' b) : ET K st mu tt Γ P' := fun σ H0 H i s m n Q q => h σ H0 H i s m n Q fun b H1 H' g s' p => q b H1 H' g s' (k b p)
theorem ET.is {b c : Bool} (h : ET K st mu tt Γ (Is b)) (k : b = c) : ET K st mu tt Γ (Is c) := k ▸ h
theorem ev_var {i : Nat} {d : D} (h : Γ[i]? = some (some d)) : EV K st mu (tVar i) Γ (Is d) := fun σ H0 H i' s m n Q q => by
  obtain ⟨v, h1, h2⟩ := n.get i d h
  exact ⟨v, h1, q v d H0 H (Gr.refl i') s rfl h2⟩
theorem ev_c {v : V} : EV K st mu (tC v) Γ (Is (.raw v)) := fun σ H0 H i s m n Q q => q v _ H0 H (Gr.refl i) s rfl (.raw v)
theorem ev_cT {a : Addr} {vs : List V} (h : ∀ H, SqT K H a vs) : EV K st mu (tC (.ref a)) Γ (Is (.tup (vs.map D.raw))) := fun σ H0 H i s m n Q q => q _ _ H0 H (Gr.refl i) s rfl (.tup (h H0) (RpAll.ofRaws vs))
/-- two in a row -/
theorem ev_op {r : R2} (ha : EV K st mu ta Γ PA) (hb : EV K st mu tb Γ PB) (hr : ∀ x y, PA x → PB y → RO K st mu r x y P) : EV K st mu (tOp r ta tb) Γ P := fun σ H0 H i s m n Q q =>
  ha σ H0 H i s m n _ fun vx x H1 H2 g1 s1 px rx => hb σ H1 H2 g1.i s1 (m.gr g1) (n.mono g1.e0) _ fun vy y H3 H4 g2 s2 py ry =>
    hr x y px py H3 H4 vx vy g2.i s2 ((m.gr g1).gr g2) (rx.mono g2.e0) ry Q fun v d H5 H6 g3 s3 p r => q v d H5 H6 ((g1.trans g2).trans g3) s3 p r
theorem ev_opd {r : R2} {a b : D} (ha : EV K st mu ta Γ (Is a)) (hb : EV K st mu tb Γ (Is b)) (hr : RO K st mu r a b P) : EV K st mu (tOp r ta tb) Γ P :=
  ev_op ha hb fun x y ex ey => by rw [ex, ey]; exact hr
theorem ev_un {i : Int} {f : Int → V} (ha : EV K st mu ta Γ (Is (.int i))) : EV K st mu (tUn (rU f) ta) Γ (Is (.raw (f i))) := fun σ H0 H i' s m n Q q =>
  ha σ H0 H i' s m n _ fun vx x H1 H2 g1 s1 px rx => by
    cases px
    cases rx
    exact ⟨i, rfl, q _ _ H1 H2 g1 s1 rfl (.raw _)⟩

/-! ### operations -/
theorem ro_raw {r : R2} {x y z : V} (h : ∀ (H : Hp) (Q : VK), Q z H → r x y H Q) : RO K st mu r (.raw x) (.raw y) (Is (.raw z)) := fun H0 H vx vy i s m rx ry Q q => by
  cases rx
  cases ry
  exact h H Q (q z _ H0 H (Gr.refl i) s rfl (.raw z))
theorem ro_I0 {g : Int → Int → V} {i j : Int} : RO K st mu (rI0 g) (.int i) (.int j) (Is (.raw (g i j))) := ro_raw fun H Q q => ⟨i, j, rfl, rfl, q⟩
theorem ro_I {C : Int → Int → Prop} {g : Int → Int → V} {i j : Int} (hc : C i j) : RO K st mu (rI C g) (.int i) (.int j) (Is (.raw (g i j))) := ro_raw fun H Q q => ⟨i, j, rfl, rfl, hc, q⟩
theorem ro_eq {x y : V} (h : scal x y = true) : RO K st mu rEq (.raw x) (.raw y) (Is (.bl (decide (x = y)))) := ro_raw fun H Q q => ⟨h, q⟩
theorem ro_ne {x y : V} (h : scal x y = true) : RO K st mu rNe (.raw x) (.raw y) (Is (.bl (!decide (x = y)))) := ro_raw fun H Q q => ⟨h, q⟩
theorem ro_eqD {x y : D} (hx : okD x = true) (hy : okD y = true) (sx : SeqAt.shaped (py x) = true) (sy : SeqAt.shaped (py y) = true) {b : Bool} (e : PyData.eqv (py x) (py y) = b) : RO K st mu (rEqD K) x y (Is (.bl b)) :=
  fun H0 H vx vy i s m rx ry Q q => ⟨py x, py y, (rx.mono i).dp hx, (ry.mono i).dp hy, sx, sy, by rw [e]; exact q _ _ H0 H (Gr.refl i) s rfl (.raw _)⟩
theorem ro_neD {x y : D} (hx : okD x = true) (hy : okD y = true) (sx : SeqAt.shaped (py x) = true) (sy : SeqAt.shaped (py y) = true) {b : Bool} (e : PyData.eqv (py x) (py y) = b) : RO K st mu (rNeD K) x y (Is (.bl (!b))) :=
  fun H0 H vx vy i s m rx ry Q q => ⟨py x, py y, (rx.mono i).dp hx, (ry.mono i).dp hy, sx, sy, by rw [e]; exact q _ _ H0 H (Gr.refl i) s rfl (.raw _)⟩
theorem ro_ix {d e : D} {ds : List D} {i : Int} (s : SeqD mu d ds) (h : atI ds i = some e) : RO K st mu (rIx K) d (.int i) (Is e) := fun H0 H vx vy i' so m rx ry Q q => by
  cases ry
  obtain ⟨a, vs, rfl, hs, r⟩ := s.at2 i' m rx
  have hl := r.length
  obtain ⟨v, h1, h2⟩ : ∃ v, atI vs i = some v ∧ Rp K H0 v e := by
    unfold atI at h ⊢
    rw [hl]
    cases q1 : ixN ds.length i with
    | none => rw [q1] at h; cases h
    | some j =>
      rw [q1] at h
      obtain ⟨v, h1, h2⟩ := r.get (show ds[j]? = some e from h)
      exact ⟨v, h1, h2⟩
  rcases hs with hs | hs
  · exact .inl ⟨a, vs, i, v, rfl, rfl, hs, h1, q v e H0 H (Gr.refl i') so rfl h2⟩
  · exact .inr (.inl ⟨a, vs, i, v, rfl, rfl, hs, h1, q v e H0 H (Gr.refl i') so rfl h2⟩)
theorem atI_of {α : Type} {xs : List α} {j : Nat} {x : α} (h : xs[j]? = some x) : atI xs (j : Int) = some x := atI_nat h
theorem Rp.lstI {H : Hp} {v : V} {ds : List D} (r : Rp K H v (.lst ds)) : ∃ a vs, v = .ref a ∧ H a = some (.lst vs) ∧ RpAll K H vs ds := by
  cases r with
  | lst h r => exact ⟨_, _, rfl, h, r⟩
theorem Rp.tupI {H : Hp} {v : V} {ds : List D} (r : Rp K H v (.tup ds)) : ∃ a vs, v = .ref a ∧ SqT K H a vs ∧ RpAll K H vs ds := by
  cases r with
  | tup h r => exact ⟨_, _, rfl, h, r⟩
theorem ro_cat {xs ys : List D} (hz : xs.length + ys.length ≤ 100000) : RO K st mu rCat (.lst xs) (.lst ys) (Is (.lst (xs ++ ys))) := fun H0 H vx vy i so m rx ry Q q => by
  obtain ⟨a, vs, rfl, h1, r1⟩ := rx.lstI
  obtain ⟨b, ws, rfl, h2, r2⟩ := ry.lstI
  refine ⟨_, _, _, _, rfl, rfl, i _ _ h1, i _ _ h2, sz_of (by rw [r1.length, r2.length]; exact hz), fun p hp => ?_⟩
  have g := Gr.new (S := Sx st) i (o := .lst (vs ++ ws)) hp
  exact q _ _ _ _ g (StOk.gr so (Gr.new i hp)) rfl (.lst upd_same ((r1.app r2).mono g.e0))
theorem ro_rep {x : D} {n : Nat} (hz : n ≤ 100000) : RO K st mu rRep (.lst [x]) (.int n) (Is (.lst (List.replicate n x))) := fun H0 H vx vy i so m rx ry Q q => by
  cases ry
  cases rx with
  | lst h1 r1 =>
    cases r1 with
    | cons r t =>
      cases t
      rename_i v
      refine ⟨_, _, _, rfl, rfl, i _ _ h1, by omega, by omega, sz_of (by simpa using hz), fun p hp => ?_⟩
      have e : (List.replicate (n : Int).toNat [v]).flatten = List.replicate n v := by simp
      rw [e]
      have g := Gr.new (S := Sx st) i (o := .lst (List.replicate n v)) hp
      refine q _ _ _ _ g (StOk.gr so (Gr.new i hp)) rfl (.lst upd_same ?_)
      have all : ∀ k : Nat, RpAll K H0 (List.replicate k v) (List.replicate k x) := fun k => by
        induction k with
        | zero => exact .nil
        | succ k ih => exact .cons r ih
      exact (all n).mono g.e0

/-! ### and, or, not, if -/
theorem ev_if {b : Bool} (h : ET K st mu tt Γ (Is b)) (h1 : b = true → EV K st mu ta Γ P) (h2 : b = false → EV K st mu tb Γ P) : EV K st mu (tIf tt ta tb) Γ P := fun σ H0 H i s m n Q q =>
  h σ H0 H i s m n _ fun b' H1 H2 g s1 e => by
    subst e
    have q' : ∀ v d H3 H4, Gr (Sx st) H1 H2 H3 H4 → StOk st H3 H4 → P d → Rp K H3 v d → Q v H4 := fun v d H3 H4 g' => q v d H3 H4 (g.trans g')
    cases b' with
    | true => exact iteT (h1 rfl σ H1 H2 g.i s1 (m.gr g) (n.mono g.e0) Q q')
    | false => exact iteF (h2 rfl σ H1 H2 g.i s1 (m.gr g) (n.mono g.e0) Q q')
theorem ev_andV {a : Bool} (ha : EV K st mu ta Γ (Is (.bl a))) (hf : a = false → P (.bl false)) (hb : a = true → EV K st mu tb Γ P) : EV K st mu (tAndV ta tb) Γ P := fun σ H0 H i s m n Q q =>
  ha σ H0 H i s m n _ fun v d H1 H2 g s1 e r => by
    cases e
    cases r
    refine ⟨a, rfl, ?_⟩
    cases a with
    | true => exact iteT (hb rfl σ H1 H2 g.i s1 (m.gr g) (n.mono g.e0) Q fun v d H3 H4 g' => q v d H3 H4 (g.trans g'))
    | false => exact iteF (q _ _ H1 H2 g s1 (hf rfl) (.raw _))
theorem ev_orV {a : Bool} (ha : EV K st mu ta Γ (Is (.bl a))) (hf : a = true → P (.bl true)) (hb : a = false → EV K st mu tb Γ P) : EV K st mu (tOrV ta tb) Γ P := fun σ H0 H i s m n Q q =>
  ha σ H0 H i s m n _ fun v d H1 H2 g s1 e r => by
    cases e
    cases r
    refine ⟨a, rfl, ?_⟩
    cases a with
    | false => exact iteF (hb rfl σ H1 H2 g.i s1 (m.gr g) (n.mono g.e0) Q fun v d H3 H4 g' => q v d H3 H4 (g.trans g'))
    | true => exact iteT (q _ _ H1 H2 g s1 (hf rfl) (.raw _))
/-- .. both known -/
theorem ev_and2 {a b : Bool} (ha : EV K st mu ta Γ (Is (.bl a))) (hb : a = true → EV K st mu tb Γ (Is (.bl b))) : EV K st mu (tAndV ta tb) Γ (Is (.bl (a && b))) :=
  ev_andV ha (fun e => by rw [e]; rfl) fun e => by rw [e]; exact hb e
theorem ev_or2 {a b : Bool} (ha : EV K st mu ta Γ (Is (.bl a))) (hb : a = false → EV K st mu tb Γ (Is (.bl b))) : EV K st mu (tOrV ta tb) Γ (Is (.bl (a || b))) :=
  ev_orV ha (fun e => by rw [e]; rfl) fun e => by rw [e]; exact hb e
theorem ev_notV {a : Bool} (ha : EV K st mu ta Γ (Is (.bl a))) : EV K st mu (tNotV ta) Γ (Is (.bl (!a))) := fun σ H0 H i s m n Q q =>
  ha σ H0 H i s m n _ fun v d H1 H2 g s1 e r => by
    cases e
    cases r
    exact ⟨a, rfl, q _ _ H1 H2 g s1 rfl (.raw _)⟩
theorem et_test {PB : Bool → Prop} (h : EV K st mu te Γ (fun d => ∃ b, d = .bl b ∧ PB b)) : ET K st mu (tTest te) Γ PB := fun σ H0 H i s m n Q q =>
  h σ H0 H i s m n _ fun v d H1 H2 g s1 ⟨b, e, p⟩ r => by
    subst e
    cases r
    exact ⟨b, rfl, q b H1 H2 g s1 p⟩
theorem et_testd {b : Bool} (h : EV K st mu te Γ (Is (.bl b))) : ET K st mu (tTest te) Γ (Is b) := et_test (h.imp fun d e => ⟨b, e, rfl⟩)
theorem et_B {b : Bool} (h : EV K st mu te Γ (Is (.bl b))) : ET K st mu (tB te) Γ (Is b) := et_testd h
theorem et_and {a b : Bool} (h1 : ET K st mu tt Γ (Is a)) (h2 : a = true → ET K st mu tu Γ (Is b)) : ET K st mu (tAnd tt tu) Γ (Is (a && b)) := fun σ H0 H i s m n Q q =>
  h1 σ H0 H i s m n _ fun b' H1 H2 g s1 e => by
    subst e
    cases b' with
    | true => exact iteT (h2 rfl σ H1 H2 g.i s1 (m.gr g) (n.mono g.e0) Q fun c H3 H4 g' s' e' => q c H3 H4 (g.trans g') s' e')
    | false => exact iteF (q false H1 H2 g s1 rfl)
theorem et_or {a b : Bool} (h1 : ET K st mu tt Γ (Is a)) (h2 : a = false → ET K st mu tu Γ (Is b)) : ET K st mu (tOr tt tu) Γ (Is (a || b)) := fun σ H0 H i s m n Q q =>
  h1 σ H0 H i s m n _ fun b' H1 H2 g s1 e => by
    subst e
    cases b' with
    | false => exact iteF (h2 rfl σ H1 H2 g.i s1 (m.gr g) (n.mono g.e0) Q fun c H3 H4 g' s' e' => q c H3 H4 (g.trans g') s' e')
    | true => exact iteT (q true H1 H2 g s1 rfl)
theorem et_not {a : Bool} (h1 : ET K st mu tt Γ (Is a)) : ET K st mu (tNot tt) Γ (Is (!a)) := fun σ H0 H i s m n Q q =>
  h1 σ H0 H i s m n _ fun b' H1 H2 g s1 e => q _ H1 H2 g s1 (by rw [e])
/-- a op1 b op2 c -/
theorem ev_chain {r r' : R2} {a b c : D} {k k' : Bool} (ha : EV K st mu ta Γ (Is a)) (hb : EV K st mu tb Γ (Is b)) (hc : EV K st mu tc Γ (Is c)) (hr : RO K st mu r a b (Is (.bl k))) (hr' : RO K st mu r' b c (Is (.bl k'))) :
    EV K st mu (tChain r r' ta tb tc) Γ (Is (.bl (k && k'))) := fun σ H0 H i s m n Q q =>
  ha σ H0 H i s m n _ fun vx x H1 H2 g1 s1 px rx => hb σ H1 H2 g1.i s1 (m.gr g1) (n.mono g1.e0) _ fun vy y H3 H4 g2 s2 py ry => by
    cases px
    cases py
    refine hr H3 H4 vx vy g2.i s2 ((m.gr g1).gr g2) (rx.mono g2.e0) ry _ fun v d H5 H6 g3 s3 p r => ?_
    cases p
    cases r
    have g13 := (g1.trans g2).trans g3
    refine ⟨k, rfl, ?_⟩
    cases k with
    | false => exact iteF (q _ _ H5 H6 g13 s3 rfl (.raw _))
    | true => exact iteT (hc σ H5 H6 g3.i s3 (m.gr g13) (n.mono g13.e0) _ fun vz z H7 H8 g4 s4 pz rz => by
        cases pz
        exact hr' H7 H8 vy vz g4.i s4 (m.gr (g13.trans g4)) (ry.mono (g3.e0.trans g4.e0)) rz Q fun v d H9 H10 g5 s5 p r => by
          cases p
          exact q v _ H9 H10 ((g13.trans g4).trans g5) s5 rfl r)

/-! ### displays, arguments, calls -/
theorem EA.imp {ta : TA} {PL PL' : List D → Prop} (h : EA K st mu ta Γ PL) (k : ∀ ds, PL ds → PL' ds) : EA K st mu ta Γ PL' := fun σ H0 H i s m n Q q => h σ H0 H i s m n Q fun v d H1 H' g s' p r => q v d H1 H' g s' (k d p) r
theorem ea_nil : EA K st mu tNil Γ (Is []) := fun σ H0 H i s m n Q q => q [] [] H0 H (Gr.refl i) s rfl .nil
theorem ea_consP {tr : TA} {PL QL : List D → Prop} (h : EV K st mu te Γ PA) (hr : EA K st mu tr Γ PL) (k : ∀ d ds, PA d → PL ds → QL (d :: ds)) : EA K st mu (tCons te tr) Γ QL := fun σ H0 H i s m n Q q =>
  h σ H0 H i s m n _ fun v d H1 H2 g1 s1 p r => hr σ H1 H2 g1.i s1 (m.gr g1) (n.mono g1.e0) _ fun vs ds H3 H4 g2 s2 p2 r2 => q (v :: vs) (d :: ds) H3 H4 (g1.trans g2) s2 (k d ds p p2) (.cons (r.mono g2.e0) r2)
theorem ea_cons {tr : TA} {d : D} {ds : List D} (h : EV K st mu te Γ (Is d)) (hr : EA K st mu tr Γ (Is ds)) : EA K st mu (tCons te tr) Γ (Is (d :: ds)) := ea_consP h hr fun _ _ e1 e2 => by rw [e1, e2]
theorem ev_tupP {ta : TA} {PL : List D → Prop} (h : EA K st mu ta Γ PL) (hz : ∀ ds, PL ds → ds.length ≤ 100000) (k : ∀ ds, PL ds → P (.tup ds)) : EV K st mu (tTup ta) Γ P := fun σ H0 H i s m n Q q =>
  h σ H0 H i s m n _ fun vs ds H1 H2 g1 s1 p r => ⟨sz_of (by rw [r.length]; exact hz ds p), fun a ha => by
    have g := Gr.new (S := Sx st) g1.i (o := .tup vs) ha
    exact q _ _ _ _ (g1.trans g) (StOk.gr s1 (Gr.new g1.i ha)) (k ds p) (.tup (SqT.of upd_same) (r.mono g.e0))⟩
theorem ev_lstP {ta : TA} {PL : List D → Prop} (h : EA K st mu ta Γ PL) (hz : ∀ ds, PL ds → ds.length ≤ 100000) (k : ∀ ds, PL ds → P (.lst ds)) : EV K st mu (tLst ta) Γ P := fun σ H0 H i s m n Q q =>
  h σ H0 H i s m n _ fun vs ds H1 H2 g1 s1 p r => ⟨sz_of (by rw [r.length]; exact hz ds p), fun a ha => by
    have g := Gr.new (S := Sx st) g1.i (o := .lst vs) ha
    exact q _ _ _ _ (g1.trans g) (StOk.gr s1 (Gr.new g1.i ha)) (k ds p) (.lst upd_same (r.mono g.e0))⟩
theorem ev_tup {ta : TA} {ds : List D} (h : EA K st mu ta Γ (Is ds)) (hz : ds.length ≤ 100000 := by decide) : EV K st mu (tTup ta) Γ (Is (.tup ds)) := ev_tupP h (fun _ e => by rw [e]; exact hz) fun _ e => by rw [e]
theorem ev_lst {ta : TA} {ds : List D} (h : EA K st mu ta Γ (Is ds)) (hz : ds.length ≤ 100000 := by decide) : EV K st mu (tLst ta) Γ (Is (.lst ds)) := ev_lstP h (fun _ e => by rw [e]; exact hz) fun _ e => by rw [e]
theorem ev_cb {r : List V → Hp → VK → Prop} {ta : TA} {PL : List D → Prop} (h : EA K st mu ta Γ PL) (hr : ∀ ds, PL ds → RC K st mu r ds P) : EV K st mu (tCB r ta) Γ P := fun σ H0 H i s m n Q q =>
  h σ H0 H i s m n _ fun vs ds H1 H2 g1 s1 p rr => hr ds p H1 H2 vs g1.i s1 (m.gr g1) rr Q fun v d H3 H4 g2 s2 p2 r2 => q v d H3 H4 (g1.trans g2) s2 p2 r2
theorem ev_cbd {r : List V → Hp → VK → Prop} {ta : TA} {ds : List D} (h : EA K st mu ta Γ (Is ds)) (hr : RC K st mu r ds P) : EV K st mu (tCB r ta) Γ P := ev_cb h fun _ e => by rw [e]; exact hr
/-- a call of a def by its promise; the callee sees the state (st), or not (none), and lists that we see -/
theorem ev_callP {R : List D → Stt → Mu → (D → Prop) → Prop} {E : XK} {ta : TA} {PL : List D → Prop} (h : EA K st mu ta Γ PL) (hr : ∀ ds, PL ds → ∃ st' mu', (st' = none ∨ st' = st) ∧ (∀ p ∈ mu', p ∈ mu) ∧ R ds st' mu' P) :
    EV K st mu (tCall (spG K R) [] E ta) Γ P := fun σ H0 H i s m n Q q =>
  h σ H0 H i s m n _ fun vs ds H1 H2 g1 s1 p rr => by
    obtain ⟨st', mu', hs, hm, hR⟩ := hr ds p
    rw [List.append_nil]
    rcases hs with e | e
    · subst e
      exact ⟨H1, ds, none, mu', P, g1.i, trivial, ((m.gr g1).sub hm).none_, rr, hR, fun v d H3 H4 g2 _ p2 r2 => q v d H3 H4 (g1.trans g2.wide) (s1.gr g2) p2 r2⟩
    · subst e
      exact ⟨H1, ds, _, mu', P, g1.i, s1, (m.gr g1).sub hm, rr, hR, fun v d H3 H4 g2 s2 p2 r2 => q v d H3 H4 (g1.trans g2) s2 p2 r2⟩
theorem ev_call {R : List D → Stt → Mu → (D → Prop) → Prop} {E : XK} {ta : TA} {ds : List D} (h : EA K st mu ta Γ (Is ds)) (hr : R ds none [] P) : EV K st mu (tCall (spG K R) [] E ta) Γ P :=
  ev_callP h fun _ e => ⟨none, [], .inl rfl, (fun _ hp => by cases hp), by rw [e]; exact hr⟩
theorem ev_callM {R : List D → Stt → Mu → (D → Prop) → Prop} {E : XK} {ta : TA} {ds : List D} (mu' : Mu) (h : EA K st mu ta Γ (Is ds)) (hm : ∀ p ∈ mu', p ∈ mu) (hr : R ds none mu' P) : EV K st mu (tCall (spG K R) [] E ta) Γ P :=
  ev_callP h fun _ e => ⟨none, mu', .inl rfl, hm, by rw [e]; exact hr⟩
theorem ev_callS {R : List D → Stt → Mu → (D → Prop) → Prop} {E : XK} {ta : TA} {ds : List D} (mu' : Mu) (h : EA K st mu ta Γ (Is ds)) (hm : ∀ p ∈ mu', p ∈ mu) (hr : R ds st mu' P) : EV K st mu (tCall (spG K R) [] E ta) Γ P :=
  ev_callP h fun _ e => ⟨st, mu', .inr rfl, hm, by rw [e]; exact hr⟩
/-- o.f of a frozen instance -/
theorem ev_fld {C : Addr} {fs : List (Str × D)} {f : Str} {d : D} (h : EV K st mu te Γ (Is (.ins C fs))) (hc : Cls K C) (hn : NoAttr K C f) (hl : fs.lookup f = some d) : EV K st mu (tFld K te f) Γ (Is d) := fun σ H0 H i s m n Q q =>
  h σ H0 H i s m n _ fun v x H1 H2 g s1 e r => by
    cases e
    cases r with
    | ins ha rf =>
      obtain ⟨v, h1, h2⟩ := rf.get hl
      exact ⟨_, C, _, _, v, rfl, g.i _ _ ha, hc, hn, h1, q v d H1 H2 g s1 rfl h2⟩
end

/-! ### built-ins by name -/
section
variable {X : Cx}
def cLen (K : PySem.W.Frag) : List V → Hp → VK → Prop := fun xs H Q => ∃ p ys, xs = [.ref p] ∧ (SqL K H p ys ∨ SqT K H p ys) ∧ Q (.int ys.length) H
theorem cl_len : CallR X (.builtin "len") (cLen X.K) := call_len_seq
def cAbs : List V → Hp → VK → Prop := fun xs H Q => ∃ i, xs = [.int i] ∧ Q (.int (if i < 0 then -i else i)) H
theorem cl_abs : CallR X (.builtin "abs") cAbs := call_abs
def cInt : List V → Hp → VK → Prop := fun xs H Q => (∃ i, xs = [.int i] ∧ Q (.int i) H) ∨ ∃ k, xs = [.bl k] ∧ Q (.int (if k then 1 else 0)) H
theorem cl_int : CallR X (.type "int") cInt := call_int1
def cList (K : PySem.W.Frag) : List V → Hp → VK → Prop := fun xs H Q => ∃ p ys, xs = [.ref p] ∧ (SqL K H p ys ∨ SqT K H p ys) ∧ ∀ l, H l = none → Q (.ref l) (upd H l (.lst ys))
theorem cl_list : CallR X (.type "list") (cList X.K) := call_list_of
def cTup (K : PySem.W.Frag) : List V → Hp → VK → Prop := fun xs H Q => ∃ p ys, xs = [.ref p] ∧ ((SqL K H p ys ∧ ∀ l, H l = none → Q (.ref l) (upd H l (.tup ys))) ∨ (SqT K H p ys ∧ Q (.ref p) H))
theorem cl_tup : CallR X (.type "tuple") (cTup X.K) := call_tuple_of
/-- x in a tuple, of data of any depth -/
def rInT (K : PySem.W.Frag) : R2 := fun x y H Q => ∃ d ds, Dp K H x d ∧ Dp K H y (.tuple ds) ∧ SeqAt.shaped d = true ∧ SeqAt.shaped (.tuple ds) = true ∧ Q (.bl (ds.any fun z => PyData.eqv z d)) H
theorem op_inT (hu : X.A.units + 70 < cLine) : OpR X (compareOp .In) (rInT X.K) := by
  intro pins s σ H x y v u Q I rx ry h
  obtain ⟨d, ds, hd, he, sd, se, q⟩ := h
  obtain ⟨as, r1⟩ := Dp.reads I d x v hd rx
  obtain ⟨bs, r2⟩ := Dp.reads I (.tuple ds) y u he ry
  refine SeqAt.in_tuple_reads r2 r1 (SeqAt.canLay_of_shaped se) (SeqAt.canLay_of_shaped sd) ?_ ⟨.bl _, H, I, rfl, q⟩
  have h1 := SeqAt.depth_of_shaped sd
  omega
end
section
variable {K : PySem.W.Frag} {st : Stt} {mu : Mu} {P : D → Prop}
theorem rc_len {d : D} {ds : List D} (s : SeqD mu d ds) : RC K st mu (cLen K) [d] (Is (.int (ds.length : Int))) := fun H0 H vs i so m r Q q => by
  cases r with
  | cons r t =>
    cases t
    obtain ⟨a, vs, rfl, hs, r⟩ := s.at2 i m r
    exact ⟨a, vs, rfl, hs, by rw [r.length]; exact q _ _ H0 H (Gr.refl i) so rfl (.raw _)⟩
theorem rc_abs {i : Int} : RC K st mu cAbs [.int i] (Is (.int (i.natAbs : Int))) := fun H0 H vs i' so m r Q q => by
  cases r with
  | cons r t =>
    cases t
    cases r
    have e : (if i < 0 then -i else i) = (i.natAbs : Int) := by split <;> omega
    exact ⟨i, rfl, by rw [e]; exact q _ _ H0 H (Gr.refl i') so rfl (.raw _)⟩
theorem rc_int {i : Int} : RC K st mu cInt [.int i] (Is (.int i)) := fun H0 H vs i' so m r Q q => by
  cases r with
  | cons r t =>
    cases t
    cases r
    exact .inl ⟨i, rfl, q _ _ H0 H (Gr.refl i') so rfl (.raw _)⟩
theorem rc_intb {b : Bool} : RC K st mu cInt [.bl b] (Is (.int (if b then 1 else 0))) := fun H0 H vs i' so m r Q q => by
  cases r with
  | cons r t =>
    cases t
    cases r
    exact .inr ⟨b, rfl, q _ _ H0 H (Gr.refl i') so rfl (.raw _)⟩
theorem rc_list {d : D} {ds : List D} (s : SeqD mu d ds) : RC K st mu (cList K) [d] (Is (.lst ds)) := fun H0 H vs i so m r Q q => by
  cases r with
  | cons r t =>
    cases t
    obtain ⟨a, vs, rfl, hs, r⟩ := s.at2 i m r
    refine ⟨a, vs, rfl, hs, fun l hl => ?_⟩
    have g := Gr.new (S := Sx st) i (o := .lst vs) hl
    exact q _ _ _ _ g (StOk.gr so (Gr.new i hl)) rfl (.lst upd_same (r.mono g.e0))
theorem rc_tup {d : D} {ds : List D} (s : SeqD mu d ds) : RC K st mu (cTup K) [d] (Is (.tup ds)) := fun H0 H vs i so m r Q q => by
  cases r with
  | cons r t =>
    cases t
    rcases s with e | e | ⟨l, e, hm⟩
    · subst e
      obtain ⟨a, vs, rfl, h, r⟩ := r.lstI
      refine ⟨_, _, rfl, .inl ⟨SqL.of (i _ _ h), fun l hl => ?_⟩⟩
      have g := Gr.new (S := Sx st) i (o := .tup vs) hl
      exact q _ _ _ _ g (StOk.gr so (Gr.new i hl)) rfl (.tup (SqT.of upd_same) (r.mono g.e0))
    · subst e
      cases r with
      | tup h r => exact ⟨_, _, rfl, .inr ⟨ex_t i h, q _ _ H0 H (Gr.refl i) so rfl (.tup h r)⟩⟩
    · subst e
      cases r
      obtain ⟨_, vs, h, r⟩ := m _ hm
      refine ⟨_, _, rfl, .inl ⟨SqL.of h, fun l hl => ?_⟩⟩
      have g := Gr.new (S := Sx st) i (o := .tup vs) hl
      exact q _ _ _ _ g (StOk.gr so (Gr.new i hl)) rfl (.tup (SqT.of upd_same) (r.mono g.e0))
theorem bls_of {H : Hp} {vs : List V} {bs : List Bool} (r : RpAll K H vs (bs.map D.bl)) : vs = bs.map V.bl := by
  have e : bs.map D.bl = (bs.map V.bl).map D.raw := by simp
  rw [e] at r
  exact r.raws
theorem ints_of {H : Hp} {vs : List V} {ns : List Int} (r : RpAll K H vs (ns.map D.int)) : vs = ns.map V.int := by
  have e : ns.map D.int = (ns.map V.int).map D.raw := by simp
  rw [e] at r
  exact r.raws
theorem rc_all {bs : List Bool} : RC K st mu (rAll K) [.lst (bs.map D.bl)] (Is (.bl (bs.all id))) := fun H0 H vs i so m r Q q => by
  cases r with
  | cons r t =>
    cases t
    cases r with
    | lst h r =>
      have e := bls_of r
      subst e
      exact ⟨_, bs, rfl, SqL.of (i _ _ h), q _ _ H0 H (Gr.refl i) so rfl (.raw _)⟩
theorem rc_any {bs : List Bool} : RC K st mu (rAny K) [.lst (bs.map D.bl)] (Is (.bl (bs.any id))) := fun H0 H vs i so m r Q q => by
  cases r with
  | cons r t =>
    cases t
    cases r with
    | lst h r =>
      have e := bls_of r
      subst e
      exact ⟨_, bs, rfl, SqL.of (i _ _ h), q _ _ H0 H (Gr.refl i) so rfl (.raw _)⟩
theorem ro_inT {x : D} {ds : List D} (hx : okD x = true) (hy : okDs ds = true) (sx : SeqAt.shaped (py x) = true) (sy : SeqAt.shaped (py (.tup ds)) = true) {b : Bool} (e : ((pys ds).any fun z => PyData.eqv z (py x)) = b) : RO K st mu (rInT K) x (.tup ds) (Is (.bl b)) :=
  fun H0 H vx vy i s m rx ry Q q => ⟨py x, pys ds, (rx.mono i).dp hx, (ry.mono i).dp hy, sx, sy, by rw [e]; exact q _ _ H0 H (Gr.refl i) s rfl (.raw _)⟩
/-- isinstance against a built-in type -/
def tyD : D → Option String
  | .raw v => match v with
    | .non => some "NoneType"
    | .bl _ => some "bool"
    | .int _ => some "int"
    | .str _ => some "str"
    | _ => none
  | .lst _ => some "list"
  | .tup _ => some "tuple"
  | .ins _ _ => none
theorem tyX_of {H : Hp} {v : V} {d : D} {t : String} (r : Rp K H v d) (h : tyD d = some t) : TyX K H v (.type t) := by
  cases r with
  | raw v =>
    cases v with
    | non => cases h; exact .base .non
    | bl b => cases h; exact .base (.bl b)
    | int i => cases h; exact .base (.int i)
    | str x => cases h; exact .base (.str x)
    | _ => cases h
  | lst h1 _ => cases h; exact .base (.lst h1)
  | tup h1 _ =>
    cases h
    rcases h1 with (h1 | ⟨o, h1⟩) | ⟨o, its, n, h1, h2, _⟩
    · exact .base (.tup h1)
    · exact .fTuple h1
    · exact .kTuple h1 h2
  | ins _ _ => cases h
theorem rc_isi {d : D} {t n : String} {b : Bool} (h : tyD d = some t) (k : kitB t n = some b) : RC K st mu (rIsi K) [d, .raw (.ty n)] (Is (.bl b)) := fun H0 H vs i so m r Q q => by
  cases r with
  | cons r t' =>
    cases t' with
    | cons r' t'' =>
      cases t''
      cases r'
      exact ⟨_, _, _, _, b, rfl, .ty n, tyX_of (r.mono i) h, kit_ty k, q _ _ H0 H (Gr.refl i) so rfl (.raw _)⟩
end
end U
set_option maxHeartbeats 4000000
/-! U3: what is walked, comprehensions, statements, defs. -/
namespace U
open PySem L2 Evl RZ

theorem StOk.nin {st : Stt} {H0 H : Hp} {p : Addr} (s : StOk st H0 H) (h : H p = none) : p ∉ Sx st := by
  cases st with
  | none => simp [Sx]
  | some q =>
    cases q with
    | self x C dx fvs ok mo =>
      intro hp
      have e : p = x := by simpa [Sx] using hp
      rw [e, s.1.2] at h
      cases h
    | draw a c =>
    obtain ⟨_, _, ns, i, n, z⟩ := s
    intro hp
    have e : p = a ∨ p = c := by simpa [Sx] using hp
    rcases e with e | e
    · rw [e, z.hd] at h; cases h
    · rw [e, z.cl] at h; cases h
theorem StOk.freeze {st : Stt} {H0 H : Hp} {p : Addr} {o : HO} (s : StOk st H0 H) (h : p ∉ Sx st) (hz : H0 p = none) : StOk st (upd H0 p o) H := by
  cases st with
  | none => trivial
  | some q =>
    cases q with
    | self x C dx fvs ok mo =>
      have n : ¬ p = x := by simpa [Sx] using h
      exact ⟨⟨by rw [upd_ne (fun e => n e.symm)]; exact s.1.1, s.1.2⟩, mo _ _ (Ex.new hz) s.2⟩
    | draw a c =>
    obtain ⟨h1, h2, r⟩ := s
    have n : ¬ (p = a ∨ p = c) := by simpa [Sx] using h
    exact ⟨by rw [upd_ne (fun e => n (.inl e.symm))]; exact h1, by rw [upd_ne (fun e => n (.inr e.symm))]; exact h2, r⟩
theorem StOk.mut {st : Stt} {H0 H : Hp} {p : Addr} {o : HO} (s : StOk st H0 H) (h : p ∉ Sx st) : StOk st H0 (upd H p o) := by
  cases st with
  | none => trivial
  | some q =>
    cases q with
    | self x C dx fvs ok mo =>
      have n : ¬ p = x := by simpa [Sx] using h
      exact ⟨⟨s.1.1, by rw [upd_ne (fun e => n e.symm)]; exact s.1.2⟩, s.2⟩
    | draw a c =>
    obtain ⟨h1, h2, ns, i, n, z⟩ := s
    have k : ¬ (p = a ∨ p = c) := by simpa [Sx] using h
    exact ⟨h1, h2, ns, i, n, ⟨by rw [upd_ne (fun e => k (.inl e.symm))]; exact z.hd, by rw [upd_ne (fun e => k (.inr e.symm))]; exact z.cl, z.ne, z.pos, z.some_, z.few, z.i0, z.n0⟩⟩

/-! ### slots forgotten -/
theorem wipe_at (σ : L2.St) : ∀ (vs : List Nat) (i : Nat), (wipe σ vs)[i]? = if i ∈ vs ∧ i < σ.length then some none else σ[i]?
  | [], i => by simp [wipe]
  | v :: vs, i => by
    show ((wipe σ vs).set v none)[i]? = _
    by_cases h : v = i
    · subst h
      by_cases hl : v < σ.length
      · rw [List.getElem?_set_self (by rw [wipe_length]; exact hl), if_pos ⟨by simp, hl⟩]
      · rw [List.getElem?_eq_none (by simp [wipe_length]; omega), if_neg (fun q => hl q.2), List.getElem?_eq_none (by omega)]
    · rw [List.getElem?_set_ne h, wipe_at σ vs i]
      have : (i ∈ v :: vs) ↔ i ∈ vs := by simp [show i ≠ v from fun e => h e.symm]
      simp only [this]
theorem wipe_set {σ : L2.St} {vs : List Nat} {j : Nat} (x : Option V) (h : j ∈ vs) : wipe (σ.set j x) vs = wipe σ vs := by
  apply List.ext_getElem?
  intro i
  rw [wipe_at, wipe_at, List.length_set]
  by_cases q : i ∈ vs ∧ i < σ.length
  · rw [if_pos q, if_pos q]
  · rw [if_neg q, if_neg q]
    by_cases e : j = i
    · subst e
      have hl : ¬ j < σ.length := fun z => q ⟨h, z⟩
      rw [List.getElem?_eq_none (by simpa using hl), List.getElem?_eq_none (by omega)]
    · rw [List.getElem?_set_ne e]
theorem wipe_wipe {σ : L2.St} {vs : List Nat} : wipe (wipe σ vs) vs = wipe σ vs := by
  apply List.ext_getElem?
  intro i
  rw [wipe_at, wipe_at, wipe_length]
  by_cases q : i ∈ vs ∧ i < σ.length
  · rw [if_pos q, if_pos q]
  · rw [if_neg q, if_neg q]

/-! ### what is walked -/
/-- wi with the target g: n turns, at turn i the slots are as t says; mu' the lists that are walked and may change otherwise -/
def IT (K : PySem.W.Frag) (st : Stt) (mu mu' : Mu) (wi : TI) (g : TG) (js : List Nat) (WP : Nat → (G → Nat → G) → Prop) (Γ : G) : Prop :=
  ∀ (σ : L2.St) (H0 H : Hp), Ex H0 H → StOk st H0 H → MuR K st mu H0 H → En K H0 σ Γ → ∀ R : It → Hp → Prop,
    (∀ (J : It) (n : Nat) (t : G → Nat → G) (H1 H' : Hp), WP n t → Gr (Sx st) H0 H H1 H' → StOk st H1 H' →
      (∀ (i : Nat) (A0 A : Hp), i < n → Ex H1 A0 → Ex A0 A → MuR K st mu' A0 A → J.go i A) →
      (∀ (A0 A : Hp), Ex H1 A0 → Ex A0 A → MuR K st mu' A0 A → J.stop n A) →
      (∀ (i : Nat) (A0 A : Hp) (x : V) (A' : Hp), i < n → Ex H1 A0 → Ex A0 A → MuR K st mu' A0 A → J.yld i A x A' → ∀ (σc : L2.St) (Γc : G), En K A0 σc Γc → ∀ cont : L2.St → Hp → Prop,
        (∀ (σ2 : L2.St) (A1 A2 : Hp), Gr [] A0 A A1 A2 → En K A1 σ2 (t Γc i) → (∀ vs, (∀ j ∈ js, j ∈ vs) → wipe σ2 vs = wipe σc vs) → cont σ2 A2) → g x σc A' cont) → R J H') → wi σ H R
abbrev WIs (n : Nat) (t : G → Nat → G) : Nat → (G → Nat → G) → Prop := fun m u => m = n ∧ u = t
/-- a list or a tuple -/
def iSeq (K : PySem.W.Frag) (tl : TE) : TI := fun σ H R => iList K tl σ H R ∨ iTup K tl σ H R
theorem pi_seq {X : Cx} {tg l : Expr} {tl : TE} (hl : PE X l tl) : PI X tg l (iSeq X.K tl) := ⟨fun pins s σ H R I h => by
  rcases h with h | h
  · exact (pi_list hl).run pins s σ H R I h
  · exact (pi_tup hl).run pins s σ H R I h⟩
abbrev tSet (j : Nat) (f : Nat → Option D) : G → Nat → G := fun Γ i => Γ.set j (f i)
abbrev tSet2 (j k : Nat) (f g : Nat → Option D) : G → Nat → G := fun Γ i => (Γ.set j (f i)).set k (g i)
/-- whether the data is a list, a tuple, as one knows beforehand -/
def seqB (mu : Mu) (b : Bool) (d : D) (ds : List D) : Prop := if b then (d = .tup ds) else (d = .lst ds ∨ ∃ l, d = .raw (.ref l) ∧ (l, ds) ∈ mu)
theorem seqB_l {mu : Mu} {ds : List D} : seqB mu false (.lst ds) ds := .inl rfl
theorem seqB_t {mu : Mu} {ds : List D} : seqB mu true (.tup ds) ds := rfl
theorem seqB_m {mu : Mu} {l : Addr} {ds : List D} (h : (l, ds) ∈ mu) : seqB mu false (.raw (.ref l)) ds := .inr ⟨l, rfl, h⟩
section
variable {K : PySem.W.Frag} {st : Stt} {mu mu' : Mu} {Γ : G} {te ta tl : TE} {tt : TT} {P : D → Prop}
/-- over a sequence whose items come to hand at the target g as t tells -/
theorem it_seqG {g : TG} {js : List Nat} {WP : Nat → (G → Nat → G) → Prop} (b : Bool) (h : EV K st mu tl Γ P) (hm : ∀ p ∈ mu', p ∈ mu)
    (hs : ∀ d, P d → ∃ ds t, seqB mu' b d ds ∧ WP ds.length t ∧ ∀ (i : Nat) (e : D) (x : V) (A0 A : Hp), ds[i]? = some e → Rp K A0 x e → Ex A0 A → ∀ (σc : L2.St) (Γc : G), En K A0 σc Γc → ∀ cont : L2.St → Hp → Prop,
      (∀ (σ2 : L2.St) (A1 A2 : Hp), Gr [] A0 A A1 A2 → En K A1 σ2 (t Γc i) → (∀ vs, (∀ j ∈ js, j ∈ vs) → wipe σ2 vs = wipe σc vs) → cont σ2 A2) → g x σc A cont) :
    IT K st mu mu' (iSeq K tl) g js WP Γ := fun σ H0 H i s m n R r => by
  cases b with
  | false =>
    refine .inl (h σ H0 H i s m n _ fun v d H1 H2 g1 s1 p rv => ?_)
    obtain ⟨ds, t, sq, wp, hg⟩ := hs d p
    have m1 := m.gr g1
    have sq' : SeqD mu d ds := by
      rcases sq with e | ⟨l, e, q⟩
      · exact .inl e
      · exact .inr (.inr ⟨l, e, hm _ q⟩)
    obtain ⟨a, vs0, rfl, hv0, rr0⟩ := sq'.at g1.i m1 rv
    -- the list at a later heap
    have later : ∀ A0 A : Hp, Ex H1 A0 → Ex A0 A → MuR K st mu' A0 A → ∃ vs, SqL K A a vs ∧ RpAll K A0 vs ds := fun A0 A e1 e2 mm => by
      rcases sq with e | ⟨l, e, q⟩
      · subst e
        obtain ⟨a', vs, ea, h1, r1⟩ := rv.lstI
        cases ea
        exact ⟨vs, SqL.of (e2 _ _ (e1 _ _ h1)), r1.mono e1⟩
      · subst e
        cases rv
        obtain ⟨_, vs, h1, r1⟩ := mm _ q
        exact ⟨vs, SqL.of h1, r1⟩
    refine ⟨a, rfl, ?_, r _ ds.length t H1 H2 wp g1 s1 (fun i' A0 A hi e1 e2 mm => ?_) (fun A0 A e1 e2 mm => ?_) (fun i' A0 A x A' hi e1 e2 mm y σc Γc nc cont hc => ?_)⟩
    · obtain ⟨vs, q, _⟩ := later H1 H2 (Ex.refl _) g1.i (m1.sub hm)
      exact ⟨vs, q⟩
    · obtain ⟨vs, q, rr⟩ := later A0 A e1 e2 mm
      have hl := rr.length
      exact ⟨vs, vs[i'], q, by simp⟩
    · obtain ⟨vs, q, rr⟩ := later A0 A e1 e2 mm
      exact ⟨vs, q, by rw [rr.length]; exact Nat.le_refl _⟩
    · obtain ⟨vs, q, rr⟩ := later A0 A e1 e2 mm
      obtain ⟨e, hx⟩ := y
      subst e
      obtain ⟨dd, hd, rd⟩ := rr.getV (hx vs q)
      exact hg i' dd x A0 _ hd rd e2 σc Γc nc cont hc
  | true =>
    refine .inr (h σ H0 H i s m n _ fun v d H1 H2 g1 s1 p rv => ?_)
    obtain ⟨ds, t, sq, wp, hg⟩ := hs d p
    have e : d = .tup ds := sq
    subst e
    obtain ⟨a, vs, rfl, h1, rr⟩ := rv.tupI
    have hl := rr.length
    refine ⟨a, rfl, ⟨vs, ex_t g1.i h1⟩, r _ ds.length t H1 H2 wp g1 s1 (fun i' A0 A hi e1 e2 mm => ⟨vs, vs[i'], ex_t (e1.trans e2) h1, by simp⟩) (fun A0 A e1 e2 mm => ⟨vs, ex_t (e1.trans e2) h1, by omega⟩) (fun i' A0 A x A' hi e1 e2 mm y σc Γc nc cont hc => ?_)⟩
    obtain ⟨e, hx⟩ := y
    subst e
    obtain ⟨dd, hd, rd⟩ := rr.getV (hx vs (ex_t (e1.trans e2) h1))
    exact hg i' dd x A0 _ hd (rd.mono e1) e2 σc Γc nc cont hc
theorem to_name {j : Nat} {x : V} {e : D} {A0 A : Hp} (r : Rp K A0 x e) (i : Ex A0 A) {σc : L2.St} {Γc : G} (n : En K A0 σc Γc) {cont : L2.St → Hp → Prop} {Γ2 : G} (e2 : Γ2 = Γc.set j (some e))
    (h : ∀ (σ2 : L2.St) (A1 A2 : Hp), Gr [] A0 A A1 A2 → En K A1 σ2 Γ2 → (∀ vs, (∀ k ∈ [j], k ∈ vs) → wipe σ2 vs = wipe σc vs) → cont σ2 A2) : gName j x σc A cont := by
  subst e2
  exact h _ A0 A (Gr.refl i) (n.set r j) fun vs hv => wipe_set _ (hv j (by simp))
/-- for x in a list or a tuple -/
theorem it_seqP {j : Nat} {WP : Nat → (G → Nat → G) → Prop} (b : Bool) (h : EV K st mu tl Γ P) (hm : ∀ p ∈ mu', p ∈ mu) (hs : ∀ d, P d → ∃ ds, seqB mu' b d ds ∧ WP ds.length (tSet j fun i => ds[i]?)) :
    IT K st mu mu' (iSeq K tl) (gName j) [j] WP Γ := it_seqG b h hm fun d p => by
  obtain ⟨ds, sq, wp⟩ := hs d p
  exact ⟨ds, _, sq, wp, fun i e x A0 A hi r e2 σc Γc n cont hc => to_name r e2 n (by show Γc.set j ds[i]? = _; rw [hi]) hc⟩
theorem it_seq {j : Nat} {d : D} {ds : List D} (b : Bool) (h : EV K st mu tl Γ (Is d)) (hs : seqB [] b d ds) : IT K st mu [] (iSeq K tl) (gName j) [j] (WIs ds.length (tSet j fun i => ds[i]?)) Γ :=
  it_seqP b h (fun p hp => by cases hp) fun d' e => ⟨ds, by rw [e]; exact hs, rfl, rfl⟩
theorem it_seqM {j : Nat} {l : Addr} {ds : List D} (h : EV K st mu tl Γ (Is (.raw (.ref l)))) (hm : (l, ds) ∈ mu) : IT K st mu [(l, ds)] (iSeq K tl) (gName j) [j] (WIs ds.length (tSet j fun i => ds[i]?)) Γ :=
  it_seqP false h (fun p hp => by rw [List.mem_singleton.mp hp]; exact hm) fun d' e => ⟨ds, by rw [e]; exact seqB_m (by simp), rfl, rfl⟩
/-- names side by side as a tuple's targets -/
theorem to_two {j k : Nat} {x y : V} {dx dy : D} {T : Addr} {A0 A : Hp} (rx : Rp K A0 x dx) (ry : Rp K A0 y dy) (hT : SqT K A T [x, y]) (i : Ex A0 A) {σc : L2.St} {Γc : G} (n : En K A0 σc Γc) {cont : L2.St → Hp → Prop} {Γ2 : G} (e2 : Γ2 = (Γc.set j (some dx)).set k (some dy))
    (h : ∀ (σ2 : L2.St) (A1 A2 : Hp), Gr [] A0 A A1 A2 → En K A1 σ2 Γ2 → (∀ vs, (∀ q ∈ [j, k], q ∈ vs) → wipe σ2 vs = wipe σc vs) → cont σ2 A2) : gTup K 2 (gCons (gName j) (gCons (gName k) gNil)) (.ref T) σc A cont := by
  subst e2
  refine ⟨T, [x, y], rfl, hT, rfl, x, [y], rfl, y, [], rfl, rfl, ?_⟩
  exact h _ A0 A (Gr.refl i) ((n.set rx j).set ry k) fun vs hv => by rw [wipe_set _ (hv k (by simp)), wipe_set _ (hv j (by simp))]
/-- for x, y in a sequence of pairs -/
theorem it_seq2 {j k : Nat} {d : D} {ps : List (D × D)} (b : Bool) (h : EV K st mu tl Γ (Is d)) (hs : seqB [] b d (ps.map fun p => .tup [p.1, p.2])) :
    IT K st mu [] (iSeq K tl) (gTup K 2 (gCons (gName j) (gCons (gName k) gNil))) [j, k] (WIs ps.length (tSet2 j k (fun i => (ps[i]?).map (·.1)) fun i => (ps[i]?).map (·.2))) Γ :=
  it_seqG b h (fun p hp => by cases hp) fun d' e => ⟨ps.map fun p => D.tup [p.1, p.2], tSet2 j k (fun i => (ps[i]?).map (·.1)) (fun i => (ps[i]?).map (·.2)), by rw [e]; exact hs, ⟨by simp, rfl⟩, fun i e x A0 A hi r e2 σc Γc n cont hc => by
    rw [List.getElem?_map] at hi
    cases q : ps[i]? with
    | none => rw [q] at hi; cases hi
    | some p =>
      rw [q] at hi
      cases hi
      obtain ⟨T, vs, rfl, hT, rr⟩ := r.tupI
      cases rr with
      | cons r1 t =>
        cases t with
        | cons r2 t =>
          cases t
          exact to_two r1 r2 (ex_t e2 hT) e2 n (by show (Γc.set j ((ps[i]?).map (·.1))).set k ((ps[i]?).map (·.2)) = _; rw [q]; rfl) hc⟩
/-- range(n), range(a, b) -/
theorem it_rngP {j : Nat} {tA : TA} {WP : Nat → (G → Nat → G) → Prop} (h : EA K st mu tA Γ (fun l => ∃ n : Nat, l = [.int (n : Int)] ∧ n ≤ 100000 ∧ WP n (tSet j fun i => some (.int (i : Nat))))) : IT K st mu [] (iRng1 tA) (gName j) [j] WP Γ := fun σ H0 H i s m n R r =>
  h σ H0 H i s m n _ fun vs ds H1 H2 g1 s1 ⟨n', e, hz, wp⟩ rr => by
    subst e
    have ev : vs = [V.int (n' : Int)] := ints_of (ns := [(n' : Int)]) rr
    subst ev
    have ez : ((n' : Nat) : Int).toNat = n' := by simp
    refine ⟨(n' : Int), rfl, by omega, by omega, r _ n' _ H1 H2 wp g1 s1 (fun i' A0 A hi e1 e2 mm => by show i' < ((n' : Nat) : Int).toNat; rw [ez]; exact hi) (fun A0 A e1 e2 mm => by show ((n' : Nat) : Int).toNat ≤ n'; rw [ez]; exact Nat.le_refl _) (fun i' A0 A x A' hi e1 e2 mm y σc Γc nc cont hc => ?_)⟩
    obtain ⟨e, hx⟩ := y
    subst e
    have ex : x = V.int (i' : Nat) := by rw [hx]; simp
    subst ex
    exact to_name (.raw _) e2 nc rfl hc
theorem it_rng {j : Nat} {tA : TA} {n : Nat} (h : EA K st mu tA Γ (Is [.int (n : Int)])) (hz : n ≤ 100000 := by omega) : IT K st mu [] (iRng1 tA) (gName j) [j] (WIs n (tSet j fun i => some (.int (i : Nat)))) Γ :=
  it_rngP (h.imp fun l e => ⟨n, e, hz, rfl, rfl⟩)
theorem it_rng2 {j : Nat} {tA : TA} {a b : Nat} (h : EA K st mu tA Γ (Is [.int (a : Int), .int (b : Int)])) (hz : a ≤ 100000 := by omega) (hz2 : b ≤ 100000 := by omega) : IT K st mu [] (iRng2 tA) (gName j) [j] (WIs (b - a) (tSet j fun i => some (.int ((a + i : Nat) : Int)))) Γ := fun σ H0 H i s m n R r =>
  h σ H0 H i s m n _ fun vs ds H1 H2 g1 s1 e rr => by
    subst e
    have ev : vs = [V.int (a : Int), V.int (b : Int)] := ints_of (ns := [(a : Int), (b : Int)]) rr
    subst ev
    have ez : ((b : Int) - (a : Int)).toNat = b - a := by omega
    refine ⟨(a : Int), (b : Int), rfl, ⟨by omega, by omega, by omega, by omega⟩, r _ (b - a) _ H1 H2 ⟨rfl, rfl⟩ g1 s1 (fun i' A0 A hi e1 e2 mm => by show i' < ((b : Int) - (a : Int)).toNat; rw [ez]; exact hi) (fun A0 A e1 e2 mm => by show ((b : Int) - (a : Int)).toNat ≤ b - a; rw [ez]; exact Nat.le_refl _) (fun i' A0 A x A' hi e1 e2 mm y σc Γc nc cont hc => ?_)⟩
    obtain ⟨e, hx⟩ := y
    subst e
    have ex : x = V.int ((a + i' : Nat) : Int) := by rw [hx, Int.natCast_add]
    subst ex
    exact to_name (.raw _) e2 nc rfl hc
/-- zip of two lists, of two tuples -/
theorem it_zip {j k : Nat} {tA : TA} {d1 d2 : D} {xs ys : List D} (b : Bool) (h : EA K st mu tA Γ (Is [d1, d2])) (s1 : seqB [] b d1 xs) (s2 : seqB [] b d2 ys) {n : Nat} (hn : n = min xs.length ys.length) :
    IT K st mu [] (iZipA K tA) (gTup K 2 (gCons (gName j) (gCons (gName k) gNil))) [j, k] (WIs n (tSet2 j k (fun i => xs[i]?) fun i => ys[i]?)) Γ := fun σ H0 H i s m nn R r =>
  h σ H0 H i s m nn _ fun vs ds H1 H2 g1 s1' e rr => by
    subst e
    subst hn
    cases rr with
    | cons r1 rr =>
      cases rr with
      | cons r2 rr =>
        cases rr
        cases b with
        | false =>
          have e1 : d1 = .lst xs := s1.elim id fun ⟨_, _, q⟩ => by cases q
          have e2 : d2 = .lst ys := s2.elim id fun ⟨_, _, q⟩ => by cases q
          subst e1 e2
          obtain ⟨p, vs, rfl, h1, q1⟩ := r1.lstI
          obtain ⟨p2, ws, rfl, h2, q2⟩ := r2.lstI
          have l1 := q1.length
          have l2 := q2.length
          refine ⟨p, p2, vs, ws, rfl, .inl ⟨SqL.of (g1.i _ _ h1), SqL.of (g1.i _ _ h2), r _ _ _ H1 H2 ⟨rfl, rfl⟩ g1 s1' (fun i' A0 A hi e1 e2 mm => ?_) (fun A0 A e1 e2 mm => ?_) (fun i' A0 A x A' hi e1 e2 mm y σc Γc nc cont hc => ?_)⟩⟩
          · exact ⟨vs, ws, vs[i']'(by omega), ws[i']'(by omega), SqL.of (e2 _ _ (e1 _ _ h1)), SqL.of (e2 _ _ (e1 _ _ h2)), by simp, by simp⟩
          · exact ⟨vs, ws, SqL.of (e2 _ _ (e1 _ _ h1)), SqL.of (e2 _ _ (e1 _ _ h2)), by omega⟩
          · obtain ⟨T, x1, x2, rfl, hT, rfl, y1, y2⟩ := y
            obtain ⟨a1, ha1, ra1⟩ := q1.getV (y1 vs (SqL.of (e2 _ _ (e1 _ _ h1))))
            obtain ⟨a2, ha2, ra2⟩ := q2.getV (y2 ws (SqL.of (e2 _ _ (e1 _ _ h2))))
            have g2 := Gr.new (S := []) e2 (o := .tup [x1, x2]) hT
            exact to_two (ra1.mono (e1.trans g2.e0)) (ra2.mono (e1.trans g2.e0)) (SqT.of upd_same) g2.i (nc.mono g2.e0) (by show (Γc.set j xs[i']?).set k ys[i']? = _; rw [ha1, ha2]) fun σ2 A1 A2 g3 n3 w3 => hc σ2 A1 A2 (g2.trans g3) n3 w3
        | true =>
          have e1 : d1 = .tup xs := s1
          have e2 : d2 = .tup ys := s2
          subst e1 e2
          obtain ⟨p, vs, rfl, h1, q1⟩ := r1.tupI
          obtain ⟨p2, ws, rfl, h2, q2⟩ := r2.tupI
          have l1 := q1.length
          have l2 := q2.length
          refine ⟨p, p2, vs, ws, rfl, .inr ⟨ex_t g1.i h1, ex_t g1.i h2, r _ _ _ H1 H2 ⟨rfl, rfl⟩ g1 s1' (fun i' A0 A hi e1 e2 mm => ?_) (fun A0 A e1 e2 mm => ?_) (fun i' A0 A x A' hi e1 e2 mm y σc Γc nc cont hc => ?_)⟩⟩
          · exact ⟨vs, ws, vs[i']'(by omega), ws[i']'(by omega), ex_t (e1.trans e2) h1, ex_t (e1.trans e2) h2, by simp, by simp⟩
          · exact ⟨vs, ws, ex_t (e1.trans e2) h1, ex_t (e1.trans e2) h2, by omega⟩
          · obtain ⟨T, x1, x2, rfl, hT, rfl, y1, y2⟩ := y
            obtain ⟨a1, ha1, ra1⟩ := q1.getV (y1 vs (ex_t (e1.trans e2) h1))
            obtain ⟨a2, ha2, ra2⟩ := q2.getV (y2 ws (ex_t (e1.trans e2) h2))
            have g2 := Gr.new (S := []) e2 (o := .tup [x1, x2]) hT
            exact to_two (ra1.mono (e1.trans g2.e0)) (ra2.mono (e1.trans g2.e0)) (SqT.of upd_same) g2.i (nc.mono g2.e0) (by show (Γc.set j xs[i']?).set k ys[i']? = _; rw [ha1, ha2]) fun σ2 A1 A2 g3 n3 w3 => hc σ2 A1 A2 (g2.trans g3) n3 w3

/-! ### comprehensions -/
theorem ev_lc {wi : TI} {g : TG} {js vs : List Nat} {WP : Nat → (G → Nat → G) → Prop} (it : IT K st mu mu' wi g js WP Γ) (hm : ∀ p ∈ mu', p ∈ mu) (hj : ∀ j ∈ js, j ∈ vs) (hz : ∀ n t, WP n t → n ≤ 50000) (PE : Nat → (G → Nat → G) → Nat → D → Prop)
    (he : ∀ n t i, WP n t → i < n → EV K st mu te (t (wipeG Γ vs) i) (PE n t i)) :
    EV K st mu (tLc wi g tYes te vs) Γ (fun d => ∃ n t es, WP n t ∧ d = .lst es ∧ es.length = n ∧ ∀ i e, es[i]? = some e → PE n t i e) := fun σ H0 H i s m nn Q q =>
  it σ H0 H i s m nn _ fun J n t H1 H2 wp g1 s1 go stop yld => fun D hD => by
    have hDH : H D = none := g1.free hD
    have hDS : D ∉ Sx st := s1.nin hD
    have hD1 : H1 D = none := fresh_back g1.i hD
    refine ⟨fun i m' A => m' = n - i ∧ i ≤ n ∧ ∃ (A0 : Hp) (ws : List V) (es : List U.D), Gr (Sx st) H0 H A0 A ∧ StOk st A0 A ∧ Ex H1 A0 ∧ A0 D = none ∧ A D = some (.lst ws) ∧ RpAll K A0 ws es ∧ es.length = i ∧ ∀ k e, es[k]? = some e → PE n t k e,
      ⟨n, by simp, Nat.zero_le _, H1, [], [], g1.trans (Gr.priv g1.i hD), s1.mut hDS, Ex.refl _, hD1, upd_same, .nil, rfl, fun k e h => by simp at h⟩, ?_⟩
    rintro k m' A ⟨rfl, hk, A0, ws, es, gA, sA, eA, dA, hA, rA, lA, pA⟩
    have mA : MuR K st mu A0 A := m.gr gA
    by_cases hlt : k < n
    · refine .inr ⟨go k A0 A hlt eA gA.i (mA.sub hm), fun A' => ∃ m2, m2 < n - k ∧ (m2 = n - (k + 1) ∧ k + 1 ≤ n ∧ ∃ (A0 : Hp) (ws : List V) (es : List U.D), Gr (Sx st) H0 H A0 A' ∧ StOk st A0 A' ∧ Ex H1 A0 ∧ A0 D = none ∧ A' D = some (.lst ws) ∧ RpAll K A0 ws es ∧ es.length = k + 1 ∧ ∀ k e, es[k]? = some e → PE n t k e), fun A' z => z, fun x A' y => ?_⟩
      refine yld k A0 A x A' hlt eA gA.i (mA.sub hm) y (wipe σ vs) (wipeG Γ vs) ((nn.mono gA.e0).wipe vs) _ fun σ2 A1 A2 g2 n2 w2 => ?_
      refine ⟨(w2 vs hj).trans wipe_wipe, ?_⟩
      have gA2 : Gr (Sx st) H0 H A1 A2 := gA.trans g2.wide
      have sA2 : StOk st A1 A2 := sA.gr g2
      refine he n t k wp hlt σ2 A1 A2 g2.i sA2 (m.gr gA2) n2 _ fun v d A3 A4 g3 s3 p3 r3 => ?_
      have h2 : A2 D = some (.lst ws) := g2.at (by simp) hA
      have h4 : A4 D = some (.lst ws) := g3.at hDS h2
      have d1 : A1 D = none := g2.p D _ hA dA
      have d3 : A3 D = none := g3.p D _ h2 d1
      refine ⟨ws, h4, sz_lt (by have := hz n t wp; rw [rA.length, lA]; omega), n - (k + 1), by omega, rfl, hlt, A3, ws ++ [v], es ++ [d], (gA2.trans g3).mut hDH d3, s3.mut hDS, (eA.trans g2.e0).trans g3.e0, d3, upd_same, (rA.mono (g2.e0.trans g3.e0)).app (.one r3), by simp [lA], fun k' e h => ?_⟩
      by_cases hk' : k' < es.length
      · rw [List.getElem?_append_left hk'] at h
        exact pA k' e h
      · rw [List.getElem?_append_right (by omega)] at h
        have e0 : k' - es.length = 0 := by
          have := (List.getElem?_eq_some_iff.mp h).1
          simp at this
          omega
        rw [e0] at h
        have ed : d = e := by simpa using h
        have ek : k' = k := by omega
        rw [← ed, ek]
        exact p3
    · have e : k = n := by omega
      subst e
      refine .inl ⟨stop A0 A eA gA.i (mA.sub hm), ?_⟩
      exact q (.ref D) (.lst es) (upd A0 D (.lst ws)) A (gA.freeze hDH dA hA) (sA.freeze hDS dA) ⟨_, t, es, wp, rfl, lA, pA⟩ (.lst upd_same (rA.mono (Ex.new dA)))
/-- all known -/
theorem ev_lcd {wi : TI} {g : TG} {js vs : List Nat} {n : Nat} {t : G → Nat → G} (it : IT K st mu mu' wi g js (WIs n t) Γ) (hm : ∀ p ∈ mu', p ∈ mu) (hj : ∀ j ∈ js, j ∈ vs) (hz : n ≤ 50000) (f : Nat → D)
    (he : ∀ i, i < n → EV K st mu te (t (wipeG Γ vs) i) (Is (f i))) : EV K st mu (tLc wi g tYes te vs) Γ (Is (.lst ((List.range n).map f))) :=
  (ev_lc it hm hj (fun n' t' w => by rw [w.1]; exact hz) (fun _ _ i => Is (f i)) fun n' t' i w hi => by rw [w.2]; exact he i (by rw [← w.1]; exact hi)).imp fun d ⟨n', t', es, w, e, l, h⟩ => by
    subst e
    show D.lst es = _
    have q : es = (List.range n).map f := by
      apply List.ext_getElem?
      intro i
      rw [List.getElem?_map]
      by_cases hi : i < n
      · have hl : i < es.length := by rw [l, w.1]; exact hi
        rw [List.getElem?_range hi, List.getElem?_eq_getElem hl, h i es[i] (by simp [hl])]
        rfl
      · rw [List.getElem?_eq_none (by rw [l, w.1]; omega), List.getElem?_eq_none (by simp; omega)]
        rfl
    rw [q]
/-- over a sequence -/
theorem ev_lcs {vs : List Nat} {j : Nat} {d : D} {ds : List D} (b : Bool) (h : EV K st mu tl Γ (Is d)) (hs : seqB [] b d ds) (hj : j ∈ vs) (hz : ds.length ≤ 50000) (f : D → D) (he : ∀ (i : Nat) (e : D), ds[i]? = some e → EV K st mu te ((wipeG Γ vs).set j (some e)) (Is (f e))) :
    EV K st mu (tLc (iSeq K tl) (gName j) tYes te vs) Γ (Is (.lst (ds.map f))) :=
  (ev_lcd (it_seq b h hs) (fun p hp => by cases hp) (fun k hk => by rw [List.mem_singleton.mp hk]; exact hj) hz (fun i => f (ds[i]?.getD (.raw .non))) fun i hi => by
    have q : ds[i]? = some ds[i] := by simp [hi]
    show EV K st mu te ((wipeG Γ vs).set j ds[i]?) _
    rw [q]
    exact he i ds[i] q).is (by
    congr 1
    apply List.ext_getElem?
    intro i
    rw [List.getElem?_map, List.getElem?_map]
    by_cases hi : i < ds.length
    · rw [List.getElem?_range hi, List.getElem?_eq_getElem hi]
      simp [hi]
    · rw [List.getElem?_eq_none (by simp; omega), List.getElem?_eq_none (by omega)]
      rfl)
/-- with a test, all known -/
theorem ev_lcf {wi : TI} {g : TG} {js vs : List Nat} {n : Nat} {t : G → Nat → G} (it : IT K st mu mu' wi g js (WIs n t) Γ) (hm : ∀ p ∈ mu', p ∈ mu) (hj : ∀ j ∈ js, j ∈ vs) (hz : n ≤ 50000) (c : Nat → Bool) (f : Nat → D)
    (ht : ∀ i, i < n → ET K st mu tt (t (wipeG Γ vs) i) (Is (c i))) (he : ∀ i, i < n → c i = true → EV K st mu te (t (wipeG Γ vs) i) (Is (f i))) :
    EV K st mu (tLc wi g tt te vs) Γ (Is (.lst (((List.range n).filter c).map f))) := fun σ H0 H i s m nn Q q =>
  it σ H0 H i s m nn _ fun J n' t' H1 H2 wp g1 s1 go stop yld => fun D hD => by
    obtain ⟨en, et⟩ := wp
    subst en et
    have hDH : H D = none := g1.free hD
    have hDS : D ∉ Sx st := s1.nin hD
    have hD1 : H1 D = none := fresh_back g1.i hD
    refine ⟨fun i m' A => m' = n' - i ∧ i ≤ n' ∧ ∃ (A0 : Hp) (ws : List V), Gr (Sx st) H0 H A0 A ∧ StOk st A0 A ∧ Ex H1 A0 ∧ A0 D = none ∧ A D = some (.lst ws) ∧ RpAll K A0 ws (((List.range i).filter c).map f),
      ⟨n', by simp, Nat.zero_le _, H1, [], g1.trans (Gr.priv g1.i hD), s1.mut hDS, Ex.refl _, hD1, upd_same, .nil⟩, ?_⟩
    rintro k m' A ⟨rfl, hk, A0, ws, gA, sA, eA, dA, hA, rA⟩
    have mA : MuR K st mu A0 A := m.gr gA
    by_cases hlt : k < n'
    · refine .inr ⟨go k A0 A hlt eA gA.i (mA.sub hm), fun A' => ∃ m2, m2 < n' - k ∧ (m2 = n' - (k + 1) ∧ k + 1 ≤ n' ∧ ∃ (A0 : Hp) (ws : List V), Gr (Sx st) H0 H A0 A' ∧ StOk st A0 A' ∧ Ex H1 A0 ∧ A0 D = none ∧ A' D = some (.lst ws) ∧ RpAll K A0 ws (((List.range (k + 1)).filter c).map f)), fun A' z => z, fun x A' y => ?_⟩
      refine yld k A0 A x A' hlt eA gA.i (mA.sub hm) y (wipe σ vs) (wipeG Γ vs) ((nn.mono gA.e0).wipe vs) _ fun σ2 A1 A2 g2 n2 w2 => ?_
      refine ⟨(w2 vs hj).trans wipe_wipe, ?_⟩
      have gA2 : Gr (Sx st) H0 H A1 A2 := gA.trans g2.wide
      have sA2 : StOk st A1 A2 := sA.gr g2
      have h2 : A2 D = some (.lst ws) := g2.at (by simp) hA
      have d1 : A1 D = none := g2.p D _ hA dA
      refine ht k hlt σ2 A1 A2 g2.i sA2 (m.gr gA2) n2 _ fun b A3 A4 g3 s3 eb => ?_
      have h4 : A4 D = some (.lst ws) := g3.at hDS h2
      have d3 : A3 D = none := g3.p D _ h2 d1
      cases b with
      | true =>
        refine iteT (he k hlt eb.symm σ2 A3 A4 g3.i s3 (m.gr (gA2.trans g3)) (n2.mono g3.e0) _ fun v d A5 A6 g5 s5 p5 r5 => ?_)
        have h6 : A6 D = some (.lst ws) := g5.at hDS h4
        have d5 : A5 D = none := g5.p D _ h4 d3
        refine ⟨ws, h6, sz_lt ?_, n' - (k + 1), by omega, rfl, hlt, A5, ws ++ [v], ((gA2.trans g3).trans g5).mut hDH d5, s5.mut hDS, ((eA.trans g2.e0).trans g3.e0).trans g5.e0, d5, upd_same, ?_⟩
        · have := List.length_filter_le c (List.range k)
          rw [rA.length, List.length_map]
          rw [List.length_range] at this
          omega
        · have e1 : ((List.range (k + 1)).filter c).map f = ((List.range k).filter c).map f ++ [f k] := by
            rw [List.range_succ, List.filter_append, List.map_append]
            simp [eb.symm]
          rw [e1]
          cases p5
          exact (rA.mono ((g2.e0.trans g3.e0).trans g5.e0)).app (.one r5)
      | false =>
        refine iteF ⟨n' - (k + 1), by omega, rfl, hlt, A3, ws, gA2.trans g3, s3, (eA.trans g2.e0).trans g3.e0, d3, h4, ?_⟩
        have e1 : ((List.range (k + 1)).filter c).map f = ((List.range k).filter c).map f := by
          rw [List.range_succ, List.filter_append, List.map_append]
          simp [eb.symm]
        rw [e1]
        exact rA.mono (g2.e0.trans g3.e0)
    · have e : k = n' := by omega
      subst e
      refine .inl ⟨stop A0 A eA gA.i (mA.sub hm), ?_⟩
      exact q (.ref D) _ (upd A0 D (.lst ws)) A (gA.freeze hDH dA hA) (sA.freeze hDS dA) rfl (.lst upd_same (rA.mono (Ex.new dA)))
end
end U
set_option maxHeartbeats 4000000
/-! U4: statements, loops, defs. -/
namespace U
open PySem PyProof.Rows L2 Evl RZ

/-- where one stands in a def: bor the lists that may be read, P what is wanted of the result -/
structure Cn where
  K : PySem.W.Frag
  st : Stt
  bor : Mu
  P : D → Prop
  ct : G → Mu → Prop := fun _ _ => False
  bk : G → Mu → Prop := fun _ _ => False
  W : D → Mu → Prop := fun _ _ => True
/-- the def's own lists, that it may still change -/
structure OwnOk (K : PySem.W.Frag) (st : Stt) (B H0 H : Hp) (own : Mu) : Prop where
  nd : (own.map (·.1)).Nodup
  b : ∀ p ∈ own, B p.1 = none
  z : ∀ p ∈ own, H0 p.1 = none
  s : ∀ p ∈ own, p.1 ∉ Sx st
  h : ∀ p ∈ own, ∃ vs, H p.1 = some (.lst vs) ∧ RpAll K H0 vs p.2
structure Wd (c : Cn) (B0 B H0 : Hp) (Γ : G) (own : Mu) (σ : L2.St) (H : Hp) : Prop where
  gr : Gr (Sx c.st) B0 B H0 H
  s : StOk c.st H0 H
  b : MuR c.K c.st c.bor H0 H
  bB : ∀ p ∈ c.bor, B p.1 ≠ none
  n : En c.K H0 σ Γ
  o : OwnOk c.K c.st B H0 H own
def SJ (c : Cn) (ts : TS) (Γ : G) (own : Mu) (NX : G → Mu → Prop) : Prop := ∀ (B0 B H0 : Hp) (σ : L2.St) (H : Hp), Wd c B0 B H0 Γ own σ H → ∀ D : Ends,
  (∀ Γ' own' H1 σ' H', NX Γ' own' → Wd c B0 B H1 Γ' own' σ' H' → D.nx σ' H') → (∀ Γ' own' H1 σ' H', c.ct Γ' own' → Wd c B0 B H1 Γ' own' σ' H' → D.ct σ' H') →
  (∀ Γ' own' H1 σ' H', c.bk Γ' own' → Wd c B0 B H1 Γ' own' σ' H' → D.bk σ' H') → (∀ v d own' H1 H', Gr (Sx c.st) B0 B H1 H' → StOk c.st H1 H' → c.P d → c.W d own' → OwnOk c.K c.st B H1 H' own' → Rp c.K H1 v d → D.rt v H') → ts D σ H
section
variable {c : Cn} {B0 B H0 H H1 H' : Hp} {Γ : G} {own : Mu} {σ : L2.St}
theorem OwnOk.mu {K : PySem.W.Frag} {st : Stt} (o : OwnOk K st B H0 H own) : MuR K st own H0 H := fun p hp => ⟨o.s p hp, o.h p hp⟩
theorem MuR.app {K : PySem.W.Frag} {st : Stt} {m1 m2 : Mu} (a : MuR K st m1 H0 H) (b : MuR K st m2 H0 H) : MuR K st (m1 ++ m2) H0 H := fun p hp => (List.mem_append.mp hp).elim (a p) (b p)
theorem Wd.mu (w : Wd c B0 B H0 Γ own σ H) : MuR c.K c.st (c.bor ++ own) H0 H := w.b.app w.o.mu
theorem OwnOk.step {K : PySem.W.Frag} {st : Stt} (o : OwnOk K st B H0 H own) (g : Gr (Sx st) H0 H H1 H') : OwnOk K st B H1 H' own :=
  ⟨o.nd, o.b, fun p hp => by
    obtain ⟨vs, h, _⟩ := o.h p hp
    exact g.p _ _ h (o.z p hp), o.s, fun p hp => by
    obtain ⟨vs, h, r⟩ := o.h p hp
    exact ⟨vs, g.at (o.s p hp) h, r.mono g.e0⟩⟩
theorem Wd.step (w : Wd c B0 B H0 Γ own σ H) (g : Gr (Sx c.st) H0 H H1 H') (s : StOk c.st H1 H') : Wd c B0 B H1 Γ own σ H' :=
  ⟨w.gr.trans g, s, w.b.gr g, w.bB, w.n.mono g.e0, w.o.step g⟩
theorem Wd.slot (w : Wd c B0 B H0 Γ own σ H) {v : V} {d : D} (r : Rp c.K H0 v d) (i : Nat) : Wd c B0 B H0 (Γ.set i (some d)) own (σ.set i (some v)) H := ⟨w.gr, w.s, w.b, w.bB, w.n.set r i, w.o⟩
theorem Wd.i (w : Wd c B0 B H0 Γ own σ H) : Ex H0 H := w.gr.i
theorem Wd.with {ct bk : G → Mu → Prop} (w : Wd c B0 B H0 Γ own σ H) : Wd { c with ct := ct, bk := bk } B0 B H0 Γ own σ H := ⟨w.gr, w.s, w.b, w.bB, w.n, w.o⟩
theorem Wd.off {ct bk : G → Mu → Prop} (w : Wd { c with ct := ct, bk := bk } B0 B H0 Γ own σ H) : Wd c B0 B H0 Γ own σ H := ⟨w.gr, w.s, w.b, w.bB, w.n, w.o⟩
/-- a new own list -/
theorem Wd.newl (w : Wd c B0 B H0 Γ own σ H) {p : Addr} (hp : H p = none) {vs : List V} {ds : List D} (r : RpAll c.K H0 vs ds) : Wd c B0 B H0 Γ (own ++ [(p, ds)]) σ (upd H p (.lst vs)) := by
  have g := Gr.priv (S := Sx c.st) w.gr.i (o := .lst vs) hp
  have s' := w.s.mut (o := .lst vs) (w.s.nin hp)
  have w' := w.step g s'
  have npo : ∀ q ∈ own, q.1 ≠ p := fun q hq => by
    obtain ⟨us, h, _⟩ := w.o.h q hq
    exact ne_of_none h hp
  refine ⟨w'.gr, s', w'.b, w'.bB, w'.n, ⟨?_, fun q hq => ?_, fun q hq => ?_, fun q hq => ?_, fun q hq => ?_⟩⟩
  · rw [List.map_append, List.nodup_append]
    refine ⟨w.o.nd, by simp, fun a ha b hb => ?_⟩
    obtain ⟨q, hq, e⟩ := List.mem_map.mp ha
    have eb : b = p := by simpa using hb
    rw [← e, eb]
    exact npo q hq
  · rcases List.mem_append.mp hq with hq | hq
    · exact w.o.b q hq
    · rw [List.mem_singleton.mp hq]
      exact w.gr.free hp
  · rcases List.mem_append.mp hq with hq | hq
    · exact w.o.z q hq
    · rw [List.mem_singleton.mp hq]
      exact fresh_back w.gr.i hp
  · rcases List.mem_append.mp hq with hq | hq
    · exact w.o.s q hq
    · rw [List.mem_singleton.mp hq]
      exact w.s.nin hp
  · rcases List.mem_append.mp hq with hq | hq
    · exact w'.o.h q hq
    · rw [List.mem_singleton.mp hq]
      exact ⟨vs, upd_same, r⟩
theorem nd_keys {own : Mu} {k j : Nat} {a : Addr} {x y : List D} (nd : (own.map (·.1)).Nodup) (hk : own[k]? = some (a, x)) (hj : own[j]? = some (a, y)) : k = j :=
  nd_ix nd (i := k) (j := j) (x := a) (by rw [List.getElem?_map, hk]; rfl) (by rw [List.getElem?_map, hj]; rfl)
/-- an own list is changed -/
theorem Wd.chg (w : Wd c B0 B H0 Γ own σ H) {k : Nat} {l : Addr} {ds es : List D} (hk : own[k]? = some (l, ds)) {vs : List V} (r : RpAll c.K H0 vs es) : Wd c B0 B H0 Γ (own.set k (l, es)) σ (upd H l (.lst vs)) := by
  have hm : (l, ds) ∈ own := List.mem_of_getElem? hk
  have hB := w.o.b _ hm
  have hz := w.o.z _ hm
  have hs := w.o.s _ hm
  have mem : ∀ q ∈ own.set k (l, es), q = (l, es) ∨ (q ∈ own ∧ q.1 ≠ l) := fun q hq => by
    obtain ⟨i, hi⟩ := List.mem_iff_getElem?.mp hq
    by_cases e : k = i
    · subst e
      rw [List.getElem?_set_self (List.getElem?_eq_some_iff.mp hk).1] at hi
      exact .inl (Option.some.inj hi).symm
    · rw [List.getElem?_set_ne e] at hi
      refine .inr ⟨List.mem_of_getElem? hi, fun z => e ?_⟩
      obtain ⟨q1, q2⟩ := q
      have z' : q1 = l := z
      subst z'
      exact nd_keys w.o.nd hk hi
  refine ⟨w.gr.mut hB hz, w.s.mut hs, fun p hp => ?_, w.bB, w.n, ⟨?_, fun q hq => ?_, fun q hq => ?_, fun q hq => ?_, fun q hq => ?_⟩⟩
  · obtain ⟨n, us, h, r'⟩ := w.b p hp
    have ne : p.1 ≠ l := fun e => w.bB p hp (by rw [e]; exact hB)
    exact ⟨n, us, by rw [upd_ne ne]; exact h, r'⟩
  · have e : (own.set k (l, es)).map (·.1) = own.map (·.1) := by
      apply List.ext_getElem?
      intro i
      rw [List.getElem?_map, List.getElem?_map]
      by_cases e : k = i
      · subst e
        rw [List.getElem?_set_self (List.getElem?_eq_some_iff.mp hk).1, hk]
        rfl
      · rw [List.getElem?_set_ne e]
    rw [e]
    exact w.o.nd
  · rcases mem q hq with e | ⟨h, _⟩
    · rw [e]; exact hB
    · exact w.o.b q h
  · rcases mem q hq with e | ⟨h, _⟩
    · rw [e]; exact hz
    · exact w.o.z q h
  · rcases mem q hq with e | ⟨h, _⟩
    · rw [e]; exact hs
    · exact w.o.s q h
  · rcases mem q hq with e | ⟨h, n⟩
    · rw [e]; exact ⟨vs, upd_same, r⟩
    · obtain ⟨us, h1, r1⟩ := w.o.h q h
      exact ⟨us, by rw [upd_ne n]; exact h1, r1⟩
/-- an own list is frozen -/
theorem Wd.frz (w : Wd c B0 B H0 Γ own σ H) {k i : Nat} {l : Addr} {ds : List D} (hk : own[k]? = some (l, ds)) (hi : Γ[i]? = some (some (.raw (.ref l)))) : ∃ H1, Wd c B0 B H1 (Γ.set i (some (.lst ds))) (own.eraseIdx k) σ H ∧ Ex H0 H1 := by
  have hm : (l, ds) ∈ own := List.mem_of_getElem? hk
  obtain ⟨vs, hl, r⟩ := w.o.h _ hm
  have hB := w.o.b _ hm
  have hz := w.o.z _ hm
  have hs := w.o.s _ hm
  have hx : Ex H0 (upd H0 l (.lst vs)) := Ex.new hz
  have mem : ∀ q ∈ own.eraseIdx k, q ∈ own ∧ q.1 ≠ l := fun q hq => by
    obtain ⟨i', ne, hi'⟩ := List.mem_eraseIdx_iff_getElem?.mp hq
    refine ⟨List.mem_of_getElem? hi', fun z => ne ?_⟩
    obtain ⟨q1, q2⟩ := q
    have z' : q1 = l := z
    subst z'
    exact (nd_keys w.o.nd hk hi').symm
  have hn : Rp c.K (upd H0 l (.lst vs)) (.ref l) (.lst ds) := .lst upd_same (r.mono hx)
  refine ⟨upd H0 l (.lst vs), ⟨w.gr.freeze hB hz hl, w.s.freeze hs hz, fun p hp => ?_, w.bB, ⟨by rw [List.length_set]; exact w.n.len, fun j d hj => ?_⟩, ⟨?_, fun q hq => w.o.b q (mem q hq).1, fun q hq => by rw [upd_ne (mem q hq).2]; exact w.o.z q (mem q hq).1, fun q hq => w.o.s q (mem q hq).1, fun q hq => ?_⟩⟩, hx⟩
  · obtain ⟨n, us, h, r'⟩ := w.b p hp
    exact ⟨n, us, h, r'.mono hx⟩
  · by_cases e : i = j
    · subst e
      have hl' := (List.getElem?_eq_some_iff.mp hi).1
      rw [List.getElem?_set_self hl'] at hj
      cases hj
      obtain ⟨v, h1, h2⟩ := w.n.get i _ hi
      cases h2
      exact ⟨.ref l, h1, hn⟩
    · rw [List.getElem?_set_ne e] at hj
      obtain ⟨v, h1, h2⟩ := w.n.get j d hj
      exact ⟨v, h1, h2.mono hx⟩
  · exact List.Nodup.sublist ((List.eraseIdx_sublist own k).map _) w.o.nd
  · obtain ⟨us, h, r'⟩ := w.o.h q (mem q hq).1
    exact ⟨us, h, r'.mono hx⟩
end

section
variable {c : Cn} {Γ : G} {own : Mu} {NX NX' : G → Mu → Prop} {t u ts : TS} {te tj : TE} {tt : TT} {PV : D → Prop} {i j k : Nat}
theorem SJ.imp (h : SJ c t Γ own NX) (k : ∀ Γ' own', NX Γ' own' → NX' Γ' own') : SJ c t Γ own NX' := fun B0 B H0 σ H w D nx ct bk rt => h B0 B H0 σ H w D (fun Γ' own' H1 σ' H' q => nx Γ' own' H1 σ' H' (k _ _ q)) ct bk rt
theorem sj_seq (h : SJ c t Γ own fun Γ' own' => SJ c u Γ' own' NX) : SJ c (tSeq t u) Γ own NX := fun B0 B H0 σ H w D nx ct bk rt =>
  h B0 B H0 σ H w { D with nx := u D } (fun Γ' own' H1 σ' H' q w' => q B0 B H1 σ' H' w' D nx ct bk rt) ct bk rt
theorem sj_next (h : NX Γ own) : SJ c tNext Γ own NX := fun B0 B H0 σ H w D nx ct bk rt => nx _ _ _ _ _ h w
theorem sj_set (h : EV c.K c.st (c.bor ++ own) te Γ PV) (k : ∀ d, PV d → NX (Γ.set i (some d)) own) : SJ c (tAsg te (gName i)) Γ own NX := fun B0 B H0 σ H w D nx ct bk rt =>
  h σ H0 H w.i w.s w.mu w.n _ fun v d H1 H' g s p r => nx _ _ _ _ _ (k d p) ((w.step g s).slot r i)
theorem sj_setd {d : D} (h : EV c.K c.st (c.bor ++ own) te Γ (Is d)) (k : NX (Γ.set i (some d)) own) : SJ c (tAsg te (gName i)) Γ own NX := sj_set h fun _ e => by rw [e]; exact k
/-- x = [] -/
theorem sj_newl (k : ∀ l, NX (Γ.set i (some (.raw (.ref l)))) (own ++ [(l, [])])) : SJ c (tAsg (tLst tNil) (gName i)) Γ own NX := fun B0 B H0 σ H w D nx ct bk rt =>
  ⟨Nat.zero_le _, fun p hp => nx _ _ _ _ _ (k p) ((w.newl hp .nil).slot (.raw _) i)⟩
/-- x = list(e), kept as one's own -/
theorem sj_lstl {ta : TA} {d : D} {ds : List D} (h : EA c.K c.st (c.bor ++ own) ta Γ (Is [d])) (hs : SeqD (c.bor ++ own) d ds) (k : ∀ l, NX (Γ.set i (some (.raw (.ref l)))) (own ++ [(l, ds)])) : SJ c (tAsg (tCB (cList c.K) ta) (gName i)) Γ own NX := fun B0 B H0 σ H w D nx ct bk rt =>
  h σ H0 H w.i w.s w.mu w.n _ fun vs ds' H1 H' g s e r => by
    subst e
    cases r with
    | cons r t =>
      cases t
      have w' := w.step g s
      obtain ⟨a, ws, rfl, hs', r'⟩ := hs.at2 w'.i w'.mu r
      exact ⟨a, ws, rfl, hs', fun p hp => nx _ _ _ _ _ (k p) ((w'.newl hp r').slot (.raw _) i)⟩
theorem sj_app {l : Addr} {ds : List D} (hi : Γ[i]? = some (some (.raw (.ref l)))) (hk : own[k]? = some (l, ds)) (h : EV c.K c.st (c.bor ++ own) te Γ PV) (hz : ds.length < 50000) (q : ∀ d, PV d → NX Γ (own.set k (l, ds ++ [d]))) :
    SJ c (tDrop (tBM c.K "list" rAppend (tVar i) (tCons te tNil))) Γ own NX := fun B0 B H0 σ H w D nx ct bk rt => by
  obtain ⟨v, h1, h2⟩ := w.n.get i _ hi
  cases h2
  have hm : (l, ds) ∈ own := List.mem_of_getElem? hk
  obtain ⟨vs, hl, r⟩ := w.o.h _ hm
  refine ⟨.ref l, h1, .inl ⟨rfl, vs, SqL.of hl⟩, h σ H0 H w.i w.s w.mu w.n _ fun v d H1 H' g s p rd => ?_⟩
  have w' := w.step g s
  have hl' := g.at (w.o.s _ hm) hl
  exact ⟨l, vs, v, rfl, rfl, hl', sz_lt (by rw [r.length]; show ds.length < _; omega), nx _ _ _ _ _ (q d p) (w'.chg hk ((r.mono g.e0).app (.one rd)))⟩
/-- l[e] = v, of an own list -/
theorem sj_setix {l : Addr} {ds : List D} {m : Nat} (hi : Γ[i]? = some (some (.raw (.ref l)))) (hk : own[k]? = some (l, ds)) (h : EV c.K c.st (c.bor ++ own) te Γ PV) (hj : EV c.K c.st (c.bor ++ own) tj Γ (Is (.int (m : Nat)))) (hm : m < ds.length) (q : ∀ d, PV d → NX Γ (own.set k (l, ds.set m d))) :
    SJ c (tAsg te (gSub (tVar i) tj rSetL)) Γ own NX := fun B0 B H0 σ H w D nx ct bk rt =>
  h σ H0 H w.i w.s w.mu w.n _ fun v d H1 H' g s p rd => by
    have w1 := w.step g s
    obtain ⟨v2, h1, h2⟩ := w1.n.get i _ hi
    cases h2
    refine ⟨.ref l, h1, hj σ H1 H' w1.i w1.s w1.mu w1.n _ fun v3 d3 H2 H2' g2 s2 p2 r2 => ?_⟩
    cases p2
    cases r2
    have w2 := w1.step g2 s2
    obtain ⟨vs, hl, r⟩ := w2.o.h _ (List.mem_of_getElem? hk)
    have hz : m < vs.length := by rw [r.length]; exact hm
    exact ⟨l, vs, _, m, rfl, rfl, hl, ixN_nat hz, nx _ _ _ _ _ (q d p) (w2.chg hk (r.set (rd.mono g2.e0) m))⟩
theorem sj_ret (h : EV c.K c.st (c.bor ++ own) te Γ c.P) (hw : ∀ d, c.P d → c.W d own := by exact fun _ _ => True.intro) : SJ c (tRet te) Γ own NX := fun B0 B H0 σ H w D nx ct bk rt =>
  h σ H0 H w.i w.s w.mu w.n _ fun v d H1 H' g s p r => rt v d own H1 H' (w.gr.trans g) s p (hw d p) (w.o.step g) r
theorem sj_if {PB : Bool → Prop} (h : ET c.K c.st (c.bor ++ own) tt Γ PB) (h1 : PB true → SJ c t Γ own NX) (h2 : PB false → SJ c u Γ own NX) : SJ c (tIfS tt t u) Γ own NX := fun B0 B H0 σ H w D nx ct bk rt =>
  h σ H0 H w.i w.s w.mu w.n _ fun b H1 H' g s p => by
    cases b with
    | true => exact iteT (h1 p B0 B H1 σ H' (w.step g s) D nx ct bk rt)
    | false => exact iteF (h2 p B0 B H1 σ H' (w.step g s) D nx ct bk rt)
theorem sj_ifd {b : Bool} (h : ET c.K c.st (c.bor ++ own) tt Γ (Is b)) (h1 : b = true → SJ c t Γ own NX) (h2 : b = false → SJ c u Γ own NX) : SJ c (tIfS tt t u) Γ own NX := sj_if h (fun e => h1 e.symm) fun e => h2 e.symm
theorem sj_cont (h : c.ct Γ own) : SJ c tCont Γ own NX := fun B0 B H0 σ H w D nx ct bk rt => ct _ _ _ _ _ h w
theorem sj_frz {l : Addr} {ds : List D} (hk : own[k]? = some (l, ds)) (hi : Γ[i]? = some (some (.raw (.ref l)))) (h : SJ c ts (Γ.set i (some (.lst ds))) (own.eraseIdx k) NX) : SJ c ts Γ own NX := fun B0 B H0 σ H w D nx ct bk rt => by
  obtain ⟨H1, w', _⟩ := w.frz hk hi
  exact h B0 B H1 σ H w' D nx ct bk rt
/-- an expression's value is dropped -/
theorem sj_drop (h : EV c.K c.st (c.bor ++ own) te Γ PV) (k : NX Γ own) : SJ c (tDrop te) Γ own NX := fun B0 B H0 σ H w D nx ct bk rt =>
  h σ H0 H w.i w.s w.mu w.n _ fun v d H1 H' g s p r => nx _ _ _ _ _ k (w.step g s)
/-- x, y = a tuple; three; four -/
theorem sj_un2 {a b : Nat} (h : EV c.K c.st (c.bor ++ own) te Γ (fun d => ∃ x y, d = .tup [x, y] ∧ NX ((Γ.set a (some x)).set b (some y)) own)) : SJ c (tAsg te (gTup c.K 2 (gCons (gName a) (gCons (gName b) gNil)))) Γ own NX := fun B0 B H0 σ H w D nx ct bk rt =>
  h σ H0 H w.i w.s w.mu w.n _ fun v d H1 H' g s ⟨x, y, e, q⟩ r => by
    subst e
    obtain ⟨T, vs, rfl, hT, rr⟩ := r.tupI
    cases rr with
    | cons r1 t =>
      cases t with
      | cons r2 t =>
        cases t
        exact ⟨T, _, rfl, ex_t g.i hT, rfl, _, _, rfl, _, _, rfl, rfl, nx _ _ _ _ _ q (((w.step g s).slot r1 a).slot r2 b)⟩
theorem sj_un3 {a b e : Nat} (h : EV c.K c.st (c.bor ++ own) te Γ (fun d => ∃ x y z, d = .tup [x, y, z] ∧ NX (((Γ.set a (some x)).set b (some y)).set e (some z)) own)) : SJ c (tAsg te (gTup c.K 3 (gCons (gName a) (gCons (gName b) (gCons (gName e) gNil))))) Γ own NX := fun B0 B H0 σ H w D nx ct bk rt =>
  h σ H0 H w.i w.s w.mu w.n _ fun v d H1 H' g s ⟨x, y, z, e, q⟩ r => by
    subst e
    obtain ⟨T, vs, rfl, hT, rr⟩ := r.tupI
    cases rr with
    | cons r1 t =>
      cases t with
      | cons r2 t =>
        cases t with
        | cons r3 t =>
          cases t
          exact ⟨T, _, rfl, ex_t g.i hT, rfl, _, _, rfl, _, _, rfl, _, _, rfl, rfl, nx _ _ _ _ _ q ((((w.step g s).slot r1 _).slot r2 _).slot r3 _)⟩
theorem sj_un4 {a b e f : Nat} (h : EV c.K c.st (c.bor ++ own) te Γ (fun d => ∃ x y z u, d = .tup [x, y, z, u] ∧ NX ((((Γ.set a (some x)).set b (some y)).set e (some z)).set f (some u)) own)) : SJ c (tAsg te (gTup c.K 4 (gCons (gName a) (gCons (gName b) (gCons (gName e) (gCons (gName f) gNil)))))) Γ own NX := fun B0 B H0 σ H w D nx ct bk rt =>
  h σ H0 H w.i w.s w.mu w.n _ fun v d H1 H' g s ⟨x, y, z, u, e, q⟩ r => by
    subst e
    obtain ⟨T, vs, rfl, hT, rr⟩ := r.tupI
    cases rr with
    | cons r1 t =>
      cases t with
      | cons r2 t =>
        cases t with
        | cons r3 t =>
          cases t with
          | cons r4 t =>
            cases t
            exact ⟨T, _, rfl, ex_t g.i hT, rfl, _, _, rfl, _, _, rfl, _, _, rfl, _, _, rfl, rfl, nx _ _ _ _ _ q (((((w.step g s).slot r1 _).slot r2 _).slot r3 _).slot r4 _)⟩
/-- x, y = a, b -/
theorem sj_par {a b : Nat} {ta : TA} {PL : List D → Prop} (h : EA c.K c.st (c.bor ++ own) ta Γ PL) (k : ∀ ds, PL ds → ∃ x y, ds = [x, y] ∧ NX ((Γ.set a (some x)).set b (some y)) own) : SJ c (tPar a b ta) Γ own NX := fun B0 B H0 σ H w D nx ct bk rt =>
  h σ H0 H w.i w.s w.mu w.n _ fun vs ds H1 H' g s p r => by
    obtain ⟨x, y, e, q⟩ := k ds p
    subst e
    cases r with
    | cons r1 t =>
      cases t with
      | cons r2 t =>
        cases t
        exact ⟨_, _, rfl, nx _ _ _ _ _ q (((w.step g s).slot r1 a).slot r2 b)⟩
theorem sj_pard {a b : Nat} {ta : TA} {x y : D} (h : EA c.K c.st (c.bor ++ own) ta Γ (Is [x, y])) (k : NX ((Γ.set a (some x)).set b (some y)) own) : SJ c (tPar a b ta) Γ own NX := sj_par h fun _ e => ⟨x, y, e, k⟩
/-- a loop: Inv by the turn -/
theorem sj_for {wi : TI} {g : TG} {js : List Nat} {WP : Nat → (G → Nat → G) → Prop} (it : IT c.K c.st (c.bor ++ own) [] wi g js WP Γ) (Inv : Nat → (G → Nat → G) → Nat → G → Mu → Prop) (h0 : ∀ n t, WP n t → Inv n t 0 Γ own)
    (hs : ∀ n t i Γ' own', WP n t → i < n → Inv n t i Γ' own' → SJ { c with ct := Inv n t (i + 1), bk := NX } ts (t Γ' i) own' (Inv n t (i + 1))) (hd : ∀ n t Γ' own', WP n t → Inv n t n Γ' own' → NX Γ' own') : SJ c (tFor wi g ts) Γ own NX := fun B0 B H0 σ H w D nx ct bk rt =>
  it σ H0 H w.i w.s w.mu w.n _ fun J n t H1 H2 wp g1 s1 go stop yld => by
    have w1 := w.step g1 s1
    refine ⟨fun i m σ' A => m = n - i ∧ i ≤ n ∧ ∃ Γ' own' A0, Inv n t i Γ' own' ∧ Wd c H1 B A0 Γ' own' σ' A, ⟨n, by simp, Nat.zero_le _, Γ, own, H1, h0 n t wp, ⟨w1.gr.base, w1.s, w1.b, w1.bB, w1.n, w1.o⟩⟩, ?_⟩
    rintro i m σ' A ⟨rfl, hi, Γ', own', A0, inv, wA⟩
    have up : ∀ {Γ' own' H3 σ3 A3}, Wd c H1 B H3 Γ' own' σ3 A3 → Wd c B0 B H3 Γ' own' σ3 A3 := fun z => ⟨w1.gr.rebase z.gr, z.s, z.b, z.bB, z.n, z.o⟩
    by_cases hlt : i < n
    · refine .inr ⟨go i A0 A hlt wA.gr.e0 wA.i (fun _ h => by cases h), fun σ3 A3 => ∃ m', m' < n - i ∧ (m' = n - (i + 1) ∧ i + 1 ≤ n ∧ ∃ Γ' own' A0, Inv n t (i + 1) Γ' own' ∧ Wd c H1 B A0 Γ' own' σ3 A3), fun _ _ z => z, fun x A' y => ?_⟩
      refine yld i A0 A x A' hlt wA.gr.e0 wA.i (fun _ h => by cases h) y σ' Γ' wA.n _ fun σ2 A1 A2 g2 n2 w2 => ?_
      have wA2 : Wd c H1 B A1 (t Γ' i) own' σ2 A2 := by
        have z := wA.step g2.wide (wA.s.gr g2)
        exact ⟨z.gr, z.s, z.b, z.bB, n2, z.o⟩
      refine hs n t i Γ' own' wp hlt inv H1 B A1 σ2 A2 wA2.with _ (fun Γ4 own4 H4 σ4 A4 q4 w4 => ?_) (fun Γ4 own4 H4 σ4 A4 q4 w4 => ?_) (fun Γ4 own4 H4 σ4 A4 q4 w4 => nx _ _ _ _ _ q4 (up w4.off)) fun v d own4 H4 A4 g4 s4 p4 q4 o4 r4 => rt v d own4 H4 A4 (w1.gr.rebase g4) s4 p4 q4 o4 r4
      · exact ⟨n - (i + 1), by omega, rfl, hlt, Γ4, own4, H4, q4, w4.off⟩
      · exact ⟨n - (i + 1), by omega, rfl, hlt, Γ4, own4, H4, q4, w4.off⟩
    · have e : i = n := by omega
      subst e
      exact .inl ⟨stop A0 A wA.gr.e0 wA.i (fun _ h => by cases h), nx _ _ _ _ _ (hd i t Γ' own' wp inv) (up wA)⟩
/-- the same, the number of turns and the slots known -/
theorem sj_ford {wi : TI} {g : TG} {js : List Nat} {n : Nat} {t : G → Nat → G} (it : IT c.K c.st (c.bor ++ own) [] wi g js (WIs n t) Γ) (Inv : Nat → G → Mu → Prop) (h0 : Inv 0 Γ own)
    (hs : ∀ i Γ' own', i < n → Inv i Γ' own' → SJ { c with ct := Inv (i + 1), bk := NX } ts (t Γ' i) own' (Inv (i + 1))) (hd : ∀ Γ' own', Inv n Γ' own' → NX Γ' own') : SJ c (tFor wi g ts) Γ own NX :=
  sj_for it (fun _ _ => Inv) (fun _ _ _ => h0) (fun n' t' i Γ' own' w hi q => by rw [w.2]; exact hs i Γ' own' (by rw [← w.1]; exact hi) q) fun n' t' Γ' own' w q => hd Γ' own' (by rw [← w.1]; exact q)
/-- a while: Inv by the measure -/
theorem sj_while (Inv : Nat → G → Mu → Prop) (m0 : Nat) (h0 : Inv m0 Γ own) (hs : ∀ m Γ' own', Inv m Γ' own' → ∃ b, ET c.K c.st (c.bor ++ own') tt Γ' (Is b) ∧ (b = true → SJ { c with ct := fun Γ2 own2 => ∃ m', m' < m ∧ Inv m' Γ2 own2, bk := NX } ts Γ' own' fun Γ2 own2 => ∃ m', m' < m ∧ Inv m' Γ2 own2) ∧ (b = false → NX Γ' own')) :
    SJ c (tWhile tt ts) Γ own NX := fun B0 B H0 σ H w D nx ct bk rt => by
  refine ⟨fun m σ' A => ∃ Γ' own' A0, Inv m Γ' own' ∧ Wd c B0 B A0 Γ' own' σ' A, ⟨m0, Γ, own, H0, h0, w⟩, ?_⟩
  rintro m σ' A ⟨Γ', own', A0, inv, wA⟩
  obtain ⟨b, hb, h1, h2⟩ := hs m Γ' own' inv
  refine hb σ' A0 A wA.i wA.s wA.mu wA.n _ fun b' H1 H' g s e => ?_
  subst e
  have w1 := wA.step g s
  cases b' with
  | true =>
    refine iteT ⟨fun σ3 A3 => ∃ m', m' < m ∧ ∃ Γ' own' A0, Inv m' Γ' own' ∧ Wd c B0 B A0 Γ' own' σ3 A3, fun _ _ z => z, ?_⟩
    refine h1 rfl B0 B H1 σ' H' w1.with _ (fun Γ4 own4 H4 σ4 A4 ⟨m', hm, q4⟩ w4 => ⟨m', hm, Γ4, own4, H4, q4, w4.off⟩) (fun Γ4 own4 H4 σ4 A4 ⟨m', hm, q4⟩ w4 => ⟨m', hm, Γ4, own4, H4, q4, w4.off⟩) (fun Γ4 own4 H4 σ4 A4 q4 w4 => nx _ _ _ _ _ q4 w4.off) rt
  | false => exact iteF (nx _ _ _ _ _ (h2 rfl) w1)
end

/-! ### a def -/
def st0 (N : List Str) (ds : List D) : G := ds.map some ++ List.replicate (N.length - ds.length) none
section
variable {P : Program} {w : World} {K : PySem.W.Frag} {mg : Str → Option Value} {base : Heap} {x qual : Str} {params : Arguments} {body : List Stmt} {scope : Scope} {dvs : List V} {kws : List (Str × V)} {f : Addr} {fd : FuncData}
theorem def_ok {N ps : List Str} {k : Nat} {R : List D → Stt → Mu → (D → Prop) → Prop} (F : FunD K x qual params body scope dvs kws f fd) (S : FnScope N ps scope) (hl : ∀ ds st mu PP, R ds st mu PP → ds.length = ps.length) (hN : ps.length ≤ N.length)
    (hbody : ∀ (cdv : Value) (A : Around) (outer : List Env) (s : Shared) (H : Hp) (E : XK), Room k (A.deeper (envOfC qual scope s.heap.objs.size f cdv)) → ∀ ds st mu PP, R ds st mu PP →
      ∃ t, PSs (cxOf CX0 P w K mg base N qual scope f cdv A outer s H E).nox body t ∧ SJ ⟨K, st, mu, PP, fun _ _ => False, fun _ _ => False, fun _ _ => True⟩ t (st0 N ds) [] (fun _ _ => PP .non)) : FnOk P w K mg base CX0 (k + 1) f fd ps (spG K R) := by
  refine F.ok S (fun vs H Q E h => ?_) (fun cdv A outer s H vs Q E hr h => ?_)
  · obtain ⟨H0, ds, st, mu, PP, i, s, m, r, hR, _⟩ := h
    rw [r.length]
    exact hl ds st mu PP hR
  · obtain ⟨H0, ds, st, mu, PP, i, so, m, r, hR, q⟩ := h
    obtain ⟨t, ht, hj⟩ := hbody cdv A outer s H E hr ds st mu PP hR
    have hd := hl ds st mu PP hR
    refine ⟨t, ht.nox, hj H0 H H0 (start N vs) H ⟨Gr.refl i, so, m, fun p hp => ?_, En.start r (by omega), ⟨by simp, (fun _ h => by cases h), (fun _ h => by cases h), (fun _ h => by cases h), (fun _ h => by cases h)⟩⟩ _ (fun Γ' own' H1 σ' H' pn w' => ?_) (fun _ _ _ _ _ z => z.elim) (fun _ _ _ _ _ z => z.elim) fun v d own' H1 H' g s' p _ _ r' => ?_⟩
    · obtain ⟨_, us, h, _⟩ := m p hp
      rw [h]
      exact fun z => by cases z
    · exact q .non .non H1 H' w'.gr w'.s pn (.raw _)
    · exact q v d H1 H' g s' p r'
end
end U
set_option maxHeartbeats 4000000
/-! U5: the text by places (printed by gen.py), what is known of the top, rules for this program. -/
namespace U
open PySem PyProof.Rows L2 Evl RZ
def top (i : Nat) : Stmt := PySem.Challenge.pw_unitgrids_k22_whole_stars_and_what_is_en.main.body.getD i (.Pass ⟨0, 0, 0, 0⟩)
section
abbrev s_l_start : Stmt := top 60
abbrev n_l_start : List Str := ["_law_script_here", "_law_cells", "_law_cell_here"]
theorem sc_l_start : FnScope n_l_start ["_law_script_here"] (defScope s_l_start) := ⟨rfl, rfl, rfl, by decide +kernel, rfl, by decide +kernel, by decide +kernel⟩
abbrev s_l_pick : Stmt := top 61
abbrev n_l_pick : List Str := ["_law_state", "_law_many", "_law_cells", "_law_at", "_law_cell_here", "_law_number"]
theorem sc_l_pick : FnScope n_l_pick ["_law_state", "_law_many"] (defScope s_l_pick) := ⟨rfl, rfl, rfl, by decide +kernel, rfl, by decide +kernel, by decide +kernel⟩
abbrev s_l_words : Stmt := top 71
abbrev n_l_words : List Str := ["_law_state", "_law_many", "_law_menu", "_law_time"]
theorem sc_l_words : FnScope n_l_words ["_law_state", "_law_many"] (defScope s_l_words) := ⟨rfl, rfl, rfl, by decide +kernel, rfl, by decide +kernel, by decide +kernel⟩
abbrev s_l_vector : Stmt := top 64
abbrev n_l_vector : List Str := ["_law_state", "_law_bottoms", "_law_most", "_law_bottom"]
theorem sc_l_vector : FnScope n_l_vector ["_law_state", "_law_bottoms", "_law_most"] (defScope s_l_vector) := ⟨rfl, rfl, rfl, by decide +kernel, rfl, by decide +kernel, by decide +kernel⟩
abbrev s_l_cell : Stmt := top 65
abbrev n_l_cell : List Str := ["_law_state", "_law_bottoms", "_law_heights", "_law_shift", "_law_i", "_law_j", "_law_choice", "_law_bottom", "_law_base"]
theorem sc_l_cell : FnScope n_l_cell ["_law_state", "_law_bottoms", "_law_heights", "_law_shift", "_law_i", "_law_j"] (defScope s_l_cell) := ⟨rfl, rfl, rfl, by decide +kernel, rfl, by decide +kernel, by decide +kernel⟩
abbrev s_l_row : Stmt := top 66
abbrev n_l_row : List Str := ["_law_state", "_law_bottoms", "_law_heights", "_law_shift", "_law_i", "_law_columns", "_law_j"]
theorem sc_l_row : FnScope n_l_row ["_law_state", "_law_bottoms", "_law_heights", "_law_shift", "_law_i", "_law_columns"] (defScope s_l_row) := ⟨rfl, rfl, rfl, by decide +kernel, rfl, by decide +kernel, by decide +kernel⟩
abbrev s_l_square : Stmt := top 75
abbrev n_l_square : List Str := ["_law_state", "_law_bottoms", "_law_size", "_law_heights", "_law_place", "_law_i"]
theorem sc_l_square : FnScope n_l_square ["_law_state", "_law_bottoms", "_law_size"] (defScope s_l_square) := ⟨rfl, rfl, rfl, by decide +kernel, rfl, by decide +kernel, by decide +kernel⟩
abbrev s_l_shape : Stmt := top 68
abbrev n_l_shape : List Str := ["_law_step_here", "_law_shapes", "_law_rows", "_law_columns", "_law_other"]
theorem sc_l_shape : FnScope n_l_shape ["_law_step_here", "_law_shapes"] (defScope s_l_shape) := ⟨rfl, rfl, rfl, by decide +kernel, rfl, by decide +kernel, by decide +kernel⟩
abbrev s_l_step : Stmt := top 69
abbrev n_l_step : List Str := ["_law_state", "_law_word", "_law_shapes", "_law_at", "_law_rows", "_law_columns", "_law_i", "_law_j", "_law_found", "_law_one", "_law_other", "_law_step_here", "_law_made"]
theorem sc_l_step : FnScope n_l_step ["_law_state", "_law_word", "_law_shapes"] (defScope s_l_step) := ⟨rfl, rfl, rfl, by decide +kernel, rfl, by decide +kernel, by decide +kernel⟩
abbrev s_l_starred : Stmt := top 76
abbrev n_l_starred : List Str := ["_law_state", "_law_bottoms", "_law_size", "_law_grids_here", "_law_shapes", "_law_steps", "_law_word", "_law_step_here", "_law_base", "_law_at", "_law_rows"]
theorem sc_l_starred : FnScope n_l_starred ["_law_state"] (defScope s_l_starred) := ⟨rfl, rfl, rfl, by decide +kernel, rfl, by decide +kernel, by decide +kernel⟩
abbrev s_shape_made : Stmt := top 39
abbrev n_shape_made : List Str := ["step", "shapes", "word", "rows", "columns", "i", "j", "many_rows", "many_columns"]
theorem sc_shape_made : FnScope n_shape_made ["step", "shapes"] (defScope s_shape_made) := ⟨rfl, rfl, rfl, by decide +kernel, rfl, by decide +kernel, by decide +kernel⟩
abbrev s_is_integer : Stmt := top 7
abbrev n_is_integer : List Str := ["thing"]
theorem sc_is_integer : FnScope n_is_integer ["thing"] (defScope s_is_integer) := ⟨rfl, rfl, rfl, by decide +kernel, rfl, by decide +kernel, by decide +kernel⟩
abbrev s_is_number : Stmt := top 9
abbrev n_is_number : List Str := ["thing"]
theorem sc_is_number : FnScope n_is_number ["thing"] (defScope s_is_number) := ⟨rfl, rfl, rfl, by decide +kernel, rfl, by decide +kernel, by decide +kernel⟩
abbrev s_is_step : Stmt := top 37
abbrev n_is_step : List Str := ["thing", "item"]
theorem sc_is_step : FnScope n_is_step ["thing"] (defScope s_is_step) := ⟨rfl, rfl, rfl, by decide +kernel, rfl, by decide +kernel, by decide +kernel⟩
abbrev s_parts_of : Stmt := top 38
abbrev n_parts_of : List Str := ["step"]
theorem sc_parts_of : FnScope n_parts_of ["step"] (defScope s_parts_of) := ⟨rfl, rfl, rfl, by decide +kernel, rfl, by decide +kernel, by decide +kernel⟩
abbrev s_shape_of_step : Stmt := top 40
abbrev n_shape_of_step : List Str := ["step", "shapes", "made", "at"]
theorem sc_shape_of_step : FnScope n_shape_of_step ["step", "shapes"] (defScope s_shape_of_step) := ⟨rfl, rfl, rfl, by decide +kernel, rfl, by decide +kernel, by decide +kernel⟩
abbrev s_shapes_of : Stmt := top 41
abbrev n_shapes_of : List Str := ["grids", "steps", "found", "index", "step", "made", "grid"]
theorem sc_shapes_of : FnScope n_shapes_of ["grids", "steps"] (defScope s_shapes_of) := ⟨rfl, rfl, rfl, by decide +kernel, rfl, by decide +kernel, by decide +kernel⟩
abbrev s_are_grids : Stmt := top 36
abbrev n_are_grids : List Str := ["thing", "grid"]
theorem sc_are_grids : FnScope n_are_grids ["thing"] (defScope s_are_grids) := ⟨rfl, rfl, rfl, by decide +kernel, rfl, by decide +kernel, by decide +kernel⟩
abbrev s_reached_by : Stmt := top 43
abbrev n_reached_by : List Str := ["rows", "many", "found", "middle", "one", "other", "row"]
theorem sc_reached_by : FnScope n_reached_by ["rows"] (defScope s_reached_by) := ⟨rfl, rfl, rfl, by decide +kernel, rfl, by decide +kernel, by decide +kernel⟩
abbrev s_source_of : Stmt := top 42
abbrev n_source_of : List Str := ["step", "shapes", "i", "j", "word", "rows", "columns"]
theorem sc_source_of : FnScope n_source_of ["step", "shapes", "i", "j"] (defScope s_source_of) := ⟨rfl, rfl, rfl, by decide +kernel, rfl, by decide +kernel, by decide +kernel⟩
abbrev s_flags_made : Stmt := top 44
abbrev n_flags_made : List Str := ["step", "shapes", "flags", "made", "rows", "columns", "found", "i", "line", "j", "first", "second", "at", "row", "column", "k"]
theorem sc_flags_made : FnScope n_flags_made ["step", "shapes", "flags", "made"] (defScope s_flags_made) := ⟨rfl, rfl, rfl, by decide +kernel, rfl, by decide +kernel, by decide +kernel⟩
abbrev s_Script_init : Stmt := inClass (top 45) 0
abbrev n_Script_init : List Str := ["self", "grids", "steps", "index", "step", "made", "grid", "row", "item"]
theorem sc_Script_init : FnScope n_Script_init ["self", "grids", "steps"] (defScope s_Script_init) := ⟨rfl, rfl, rfl, by decide +kernel, rfl, by decide +kernel, by decide +kernel⟩
abbrev s_is_part : Stmt := top 23
abbrev n_is_part : List Str := ["thing"]
theorem sc_is_part : FnScope n_is_part ["thing"] (defScope s_is_part) := ⟨rfl, rfl, rfl, by decide +kernel, rfl, by decide +kernel, by decide +kernel⟩
abbrev s_divisor : Stmt := top 10
abbrev n_divisor : List Str := ["one", "other"]
theorem sc_divisor : FnScope n_divisor ["one", "other"] (defScope s_divisor) := ⟨rfl, rfl, rfl, by decide +kernel, rfl, by decide +kernel, by decide +kernel⟩
abbrev s_is_fraction : Stmt := top 12
abbrev n_is_fraction : List Str := ["thing"]
theorem sc_is_fraction : FnScope n_is_fraction ["thing"] (defScope s_is_fraction) := ⟨rfl, rfl, rfl, by decide +kernel, rfl, by decide +kernel, by decide +kernel⟩
abbrev s_is_unit_of : Stmt := top 16
abbrev n_is_unit_of : List Str := ["bases", "thing", "item"]
theorem sc_is_unit_of : FnScope n_is_unit_of ["bases", "thing"] (defScope s_is_unit_of) := ⟨rfl, rfl, rfl, by decide +kernel, rfl, by decide +kernel, by decide +kernel⟩
abbrev s_is_cell : Stmt := top 24
abbrev n_is_cell : List Str := ["bases", "thing", "top", "bottom"]
theorem sc_is_cell : FnScope n_is_cell ["bases", "thing"] (defScope s_is_cell) := ⟨rfl, rfl, rfl, by decide +kernel, rfl, by decide +kernel, by decide +kernel⟩
abbrev s_check_rows : Stmt := top 25
abbrev n_check_rows : List Str := ["bases", "rows", "i", "row", "j", "item"]
theorem sc_check_rows : FnScope n_check_rows ["bases", "rows"] (defScope s_check_rows) := ⟨rfl, rfl, rfl, by decide +kernel, rfl, by decide +kernel, by decide +kernel⟩
abbrev s_is_within : Stmt := top 8
abbrev n_is_within : List Str := ["thing", "least", "most"]
theorem sc_is_within : FnScope n_is_within ["thing", "least", "most"] (defScope s_is_within) := ⟨rfl, rfl, rfl, by decide +kernel, rfl, by decide +kernel, by decide +kernel⟩
abbrev s_Grid_init : Stmt := inClass (top 26) 0
abbrev n_Grid_init : List Str := ["self", "bases", "rows"]
theorem sc_Grid_init : FnScope n_Grid_init ["self", "bases", "rows"] (defScope s_Grid_init) := ⟨rfl, rfl, rfl, by decide +kernel, rfl, by decide +kernel, by decide +kernel⟩
abbrev s_l_lowest : Stmt := top 62
abbrev n_l_lowest : List Str := ["_law_top", "_law_bottom", "_law_one", "_law_other"]
theorem sc_l_lowest : FnScope n_l_lowest ["_law_top", "_law_bottom"] (defScope s_l_lowest) := ⟨rfl, rfl, rfl, by decide +kernel, rfl, by decide +kernel, by decide +kernel⟩
abbrev s_l_unit : Stmt := top 63
abbrev n_l_unit : List Str := ["_law_cell_here", "_law_part"]
theorem sc_l_unit : FnScope n_l_unit ["_law_cell_here"] (defScope s_l_unit) := ⟨rfl, rfl, rfl, by decide +kernel, rfl, by decide +kernel, by decide +kernel⟩
abbrev s_l_grid : Stmt := top 72
abbrev n_l_grid : List Str := ["_law_bases", "_law_rows", "_law_row_here", "_law_cell_here"]
theorem sc_l_grid : FnScope n_l_grid ["_law_bases", "_law_rows"] (defScope s_l_grid) := ⟨rfl, rfl, rfl, by decide +kernel, rfl, by decide +kernel, by decide +kernel⟩
abbrev s_l_script : Stmt := top 73
abbrev n_l_script : List Str := ["_law_world_here", "_law_rows"]
theorem sc_l_script : FnScope n_l_script ["_law_world_here"] (defScope s_l_script) := ⟨rfl, rfl, rfl, by decide +kernel, rfl, by decide +kernel, by decide +kernel⟩
abbrev s_are_rows : Stmt := top 17
abbrev n_are_rows : List Str := ["thing", "rows", "columns", "row"]
theorem sc_are_rows : FnScope n_are_rows ["thing", "rows", "columns"] (defScope s_are_rows) := ⟨rfl, rfl, rfl, by decide +kernel, rfl, by decide +kernel, by decide +kernel⟩
abbrev s_fits : Stmt := top 27
abbrev n_fits : List Str := ["item", "number"]
theorem sc_fits : FnScope n_fits ["item", "number"] (defScope s_fits) := ⟨rfl, rfl, rfl, by decide +kernel, rfl, by decide +kernel, by decide +kernel⟩
abbrev s_are_numbers : Stmt := top 28
abbrev n_are_numbers : List Str := ["grid", "thing", "row", "numbers", "item", "number"]
theorem sc_are_numbers : FnScope n_are_numbers ["grid", "thing"] (defScope s_are_numbers) := ⟨rfl, rfl, rfl, by decide +kernel, rfl, by decide +kernel, by decide +kernel⟩
abbrev s_are_values : Stmt := top 29
abbrev n_are_values : List Str := ["grid", "thing", "row", "numbers", "item", "number"]
theorem sc_are_values : FnScope n_are_values ["grid", "thing"] (defScope s_are_values) := ⟨rfl, rfl, rfl, by decide +kernel, rfl, by decide +kernel, by decide +kernel⟩
abbrev s_check_values : Stmt := top 57
abbrev n_check_values : List Str := ["script", "thing", "grid", "item"]
theorem sc_check_values : FnScope n_check_values ["script", "thing"] (defScope s_check_values) := ⟨rfl, rfl, rfl, by decide +kernel, rfl, by decide +kernel, by decide +kernel⟩
abbrev s_check_at : Stmt := top 46
abbrev n_check_at : List Str := ["script", "at"]
theorem sc_check_at : FnScope n_check_at ["script", "at"] (defScope s_check_at) := ⟨rfl, rfl, rfl, by decide +kernel, rfl, by decide +kernel, by decide +kernel⟩
abbrev s_lowest : Stmt := top 11
abbrev n_lowest : List Str := ["top", "bottom", "common"]
theorem sc_lowest : FnScope n_lowest ["top", "bottom"] (defScope s_lowest) := ⟨rfl, rfl, rfl, by decide +kernel, rfl, by decide +kernel, by decide +kernel⟩
abbrev s_over : Stmt := top 15
abbrev n_over : List Str := ["one", "other"]
theorem sc_over : FnScope n_over ["one", "other"] (defScope s_over) := ⟨rfl, rfl, rfl, by decide +kernel, rfl, by decide +kernel, by decide +kernel⟩
abbrev s_rounds_of : Stmt := top 52
abbrev n_rounds_of : List Str := ["number"]
theorem sc_rounds_of : FnScope n_rounds_of ["number"] (defScope s_rounds_of) := ⟨rfl, rfl, rfl, by decide +kernel, rfl, by decide +kernel, by decide +kernel⟩
abbrev s_times : Stmt := top 14
abbrev n_times : List Str := ["one", "other"]
theorem sc_times : FnScope n_times ["one", "other"] (defScope s_times) := ⟨rfl, rfl, rfl, by decide +kernel, rfl, by decide +kernel, by decide +kernel⟩
abbrev s_product_of : Stmt := top 51
abbrev n_product_of : List Str := ["one", "other"]
theorem sc_product_of : FnScope n_product_of ["one", "other"] (defScope s_product_of) := ⟨rfl, rfl, rfl, by decide +kernel, rfl, by decide +kernel, by decide +kernel⟩
abbrev s_plus : Stmt := top 13
abbrev n_plus : List Str := ["one", "other"]
theorem sc_plus : FnScope n_plus ["one", "other"] (defScope s_plus) := ⟨rfl, rfl, rfl, by decide +kernel, rfl, by decide +kernel, by decide +kernel⟩
abbrev s_sum_of : Stmt := top 50
abbrev n_sum_of : List Str := ["one", "other"]
theorem sc_sum_of : FnScope n_sum_of ["one", "other"] (defScope s_sum_of) := ⟨rfl, rfl, rfl, by decide +kernel, rfl, by decide +kernel, by decide +kernel⟩
abbrev s_star_of : Stmt := top 53
abbrev n_star_of : List Str := ["rows", "found", "middle", "rounds", "first", "second", "later", "share", "line", "row", "number", "more"]
theorem sc_star_of : FnScope n_star_of ["rows"] (defScope s_star_of) := ⟨rfl, rfl, rfl, by decide +kernel, rfl, by decide +kernel, by decide +kernel⟩
abbrev s_cell_of_product : Stmt := top 54
abbrev n_cell_of_product : List Str := ["one", "other", "i", "j", "found", "k", "row"]
theorem sc_cell_of_product : FnScope n_cell_of_product ["one", "other", "i", "j"] (defScope s_cell_of_product) := ⟨rfl, rfl, rfl, by decide +kernel, rfl, by decide +kernel, by decide +kernel⟩
abbrev s_rows_made : Stmt := top 55
abbrev n_rows_made : List Str := ["script", "step", "made", "rows", "found", "i", "line", "j", "at", "row", "column"]
theorem sc_rows_made : FnScope n_rows_made ["script", "step", "made", "rows"] (defScope s_rows_made) := ⟨rfl, rfl, rfl, by decide +kernel, rfl, by decide +kernel, by decide +kernel⟩
abbrev s_raw_outcomes : Stmt := top 56
abbrev n_raw_outcomes : List Str := ["script", "values", "last", "found", "index", "step", "at"]
theorem sc_raw_outcomes : FnScope n_raw_outcomes ["script", "values", "last"] (defScope s_raw_outcomes) := ⟨rfl, rfl, rfl, by decide +kernel, rfl, by decide +kernel, by decide +kernel⟩
abbrev s_outcome : Stmt := top 58
abbrev n_outcome : List Str := ["script", "values", "at", "row"]
theorem sc_outcome : FnScope n_outcome ["script", "values", "at"] (defScope s_outcome) := ⟨rfl, rfl, rfl, by decide +kernel, rfl, by decide +kernel, by decide +kernel⟩
abbrev s_l_values : Stmt := top 82
abbrev n_l_values : List Str := ["_law_state", "_law_rows", "_law_found", "_law_row_here", "_law_cell_here"]
theorem sc_l_values : FnScope n_l_values ["_law_state", "_law_rows"] (defScope s_l_values) := ⟨rfl, rfl, rfl, by decide +kernel, rfl, by decide +kernel, by decide +kernel⟩
abbrev s_l_is_fraction : Stmt := top 77
abbrev n_l_is_fraction : List Str := ["_law_thing", "_law_part"]
theorem sc_l_is_fraction : FnScope n_l_is_fraction ["_law_thing"] (defScope s_l_is_fraction) := ⟨rfl, rfl, rfl, by decide +kernel, rfl, by decide +kernel, by decide +kernel⟩
abbrev s_l_are_outcomes : Stmt := top 91
abbrev n_l_are_outcomes : List Str := ["_law_thing", "_law_shape_here", "_law_row_here", "_law_item"]
theorem sc_l_are_outcomes : FnScope n_l_are_outcomes ["_law_thing", "_law_shape_here"] (defScope s_l_are_outcomes) := ⟨rfl, rfl, rfl, by decide +kernel, rfl, by decide +kernel, by decide +kernel⟩
abbrev s_l_reached : Stmt := top 84
abbrev n_l_reached : List Str := ["_law_rows", "_law_found", "_law_k", "_law_i", "_law_j", "_law_row_here", "_law_number"]
theorem sc_l_reached : FnScope n_l_reached ["_law_rows"] (defScope s_l_reached) := ⟨rfl, rfl, rfl, by decide +kernel, rfl, by decide +kernel, by decide +kernel⟩
abbrev s_l_signed : Stmt := top 86
abbrev n_l_signed : List Str := ["_law_top", "_law_bottom", "_law_found"]
theorem sc_l_signed : FnScope n_l_signed ["_law_top", "_law_bottom"] (defScope s_l_signed) := ⟨rfl, rfl, rfl, by decide +kernel, rfl, by decide +kernel, by decide +kernel⟩
abbrev s_l_plus : Stmt := top 78
abbrev n_l_plus : List Str := ["_law_one", "_law_other"]
theorem sc_l_plus : FnScope n_l_plus ["_law_one", "_law_other"] (defScope s_l_plus) := ⟨rfl, rfl, rfl, by decide +kernel, rfl, by decide +kernel, by decide +kernel⟩
abbrev s_l_less : Stmt := top 85
abbrev n_l_less : List Str := ["_law_one", "_law_other"]
theorem sc_l_less : FnScope n_l_less ["_law_one", "_law_other"] (defScope s_l_less) := ⟨rfl, rfl, rfl, by decide +kernel, rfl, by decide +kernel, by decide +kernel⟩
abbrev s_l_times : Stmt := top 79
abbrev n_l_times : List Str := ["_law_one", "_law_other"]
theorem sc_l_times : FnScope n_l_times ["_law_one", "_law_other"] (defScope s_l_times) := ⟨rfl, rfl, rfl, by decide +kernel, rfl, by decide +kernel, by decide +kernel⟩
abbrev s_l_shrinks : Stmt := top 87
abbrev n_l_shrinks : List Str := ["_law_rows", "_law_many", "_law_lines", "_law_i", "_law_at", "_law_good", "_law_head", "_law_lead", "_law_j", "_law_number", "_law_line"]
theorem sc_l_shrinks : FnScope n_l_shrinks ["_law_rows"] (defScope s_l_shrinks) := ⟨rfl, rfl, rfl, by decide +kernel, rfl, by decide +kernel, by decide +kernel⟩
abbrev s_l_heavy : Stmt := top 88
abbrev n_l_heavy : List Str := ["_law_rows", "_law_reached_here", "_law_place", "_law_piece", "_law_inner", "_law_k", "_law_i", "_law_j", "_law_row_here"]
theorem sc_l_heavy : FnScope n_l_heavy ["_law_rows", "_law_reached_here", "_law_place"] (defScope s_l_heavy) := ⟨rfl, rfl, rfl, by decide +kernel, rfl, by decide +kernel, by decide +kernel⟩
abbrev s_l_is_endless : Stmt := top 89
abbrev n_l_is_endless : List Str := ["_law_rows", "_law_reached_here", "_law_heavy_here", "_law_i", "_law_j", "_law_p", "_law_begins", "_law_q"]
theorem sc_l_is_endless : FnScope n_l_is_endless ["_law_rows", "_law_reached_here", "_law_heavy_here", "_law_i", "_law_j"] (defScope s_l_is_endless) := ⟨rfl, rfl, rfl, by decide +kernel, rfl, by decide +kernel, by decide +kernel⟩
abbrev s_l_sum : Stmt := top 80
abbrev n_l_sum : List Str := ["_law_one", "_law_other"]
theorem sc_l_sum : FnScope n_l_sum ["_law_one", "_law_other"] (defScope s_l_sum) := ⟨rfl, rfl, rfl, by decide +kernel, rfl, by decide +kernel, by decide +kernel⟩
abbrev s_l_product : Stmt := top 81
abbrev n_l_product : List Str := ["_law_one", "_law_other"]
theorem sc_l_product : FnScope n_l_product ["_law_one", "_law_other"] (defScope s_l_product) := ⟨rfl, rfl, rfl, by decide +kernel, rfl, by decide +kernel, by decide +kernel⟩
abbrev s_l_is_star : Stmt := top 90
abbrev n_l_is_star : List Str := ["_law_rows", "_law_told", "_law_reached_here", "_law_heavy_here", "_law_i", "_law_j", "_law_due", "_law_k", "_law_place"]
theorem sc_l_is_star : FnScope n_l_is_star ["_law_rows", "_law_told"] (defScope s_l_is_star) := ⟨rfl, rfl, rfl, by decide +kernel, rfl, by decide +kernel, by decide +kernel⟩
abbrev s_l_source : Stmt := top 74
abbrev n_l_source : List Str := ["_law_step_here", "_law_shapes", "_law_i", "_law_j", "_law_rows", "_law_columns"]
theorem sc_l_source : FnScope n_l_source ["_law_step_here", "_law_shapes", "_law_i", "_law_j"] (defScope s_l_source) := ⟨rfl, rfl, rfl, by decide +kernel, rfl, by decide +kernel, by decide +kernel⟩
abbrev s_l_cell_of : Stmt := top 83
abbrev n_l_cell_of : List Str := ["_law_step_here", "_law_shapes", "_law_told", "_law_i", "_law_j", "_law_found", "_law_k", "_law_at", "_law_row_here", "_law_column"]
theorem sc_l_cell_of : FnScope n_l_cell_of ["_law_step_here", "_law_shapes", "_law_told", "_law_i", "_law_j"] (defScope s_l_cell_of) := ⟨rfl, rfl, rfl, by decide +kernel, rfl, by decide +kernel, by decide +kernel⟩
abbrev s_law : Stmt := top 92
abbrev n_law : List Str := ["_law_script_here", "_law_state", "_law_world_here", "_law_values_here", "_law_subject", "_law_told", "_law_at", "_law_found", "_law_step_here", "_law_rows", "_law_columns", "_law_i", "_law_j"]
theorem sc_law : FnScope n_law ["_law_script_here"] (defScope s_law) := ⟨rfl, rfl, rfl, by decide +kernel, rfl, by decide +kernel, by decide +kernel⟩
end
/-- the built-ins' names are free, the constants of the top -/
structure Tx (K : PySem.W.Frag) (mg : Str → Option Value) : Prop where
  len : mg "len" = none
  abs : mg "abs" = none
  all : mg "all" = none
  any : mg "any" = none
  isinstance : mg "isinstance" = none
  max : mg "max" = none
  range : mg "range" = none
  zip : mg "zip" = none
  enumerate : mg "enumerate" = none
  tuple : mg "tuple" = none
  list : mg "list" = none
  int : mg "int" = none
  bool : mg "bool" = none
  str : mg "str" = none
  MOST_BASES : ∃ t, mg "MOST_BASES" = some (.int 3 t)
  MOST_ROWS : ∃ t, mg "MOST_ROWS" = some (.int 10 t)
  MOST_TOP : ∃ t, mg "MOST_TOP" = some (.int 6 t)
  MOST_BOTTOM : ∃ t, mg "MOST_BOTTOM" = some (.int 4 t)
  MOST_GRIDS : ∃ t, mg "MOST_GRIDS" = some (.int 6 t)
  MOST_STEPS : ∃ t, mg "MOST_STEPS" = some (.int 16 t)
  MOST_SIDE : ∃ t, mg "MOST_SIDE" = some (.int 12 t)
  ENDLESS : ∃ t, mg "ENDLESS" = some (.str "endless" t)
  NOUGHT : mg "NOUGHT" = some (.ref (He.ga K "NOUGHT"))
  nought : ∀ H, SqT K H (He.ga K "NOUGHT") [.int 0, .int 1]
  Grid : mg "Grid" = some (.ref (He.ga K "Grid"))
  gridC : Cls K (He.ga K "Grid")
  gB : NoAttr K (He.ga K "Grid") "bases"
  gR : NoAttr K (He.ga K "Grid") "rows"
  scrC : Cls K (He.ga K "Script")
  sG : NoAttr K (He.ga K "Script") "grids"
  sS : NoAttr K (He.ga K "Script") "steps"
  sK : NoAttr K (He.ga K "Script") "kept_shapes"
  sF : NoAttr K (He.ga K "Script") "kept_flags"
/-- a def of the top that keeps its promise -/
def Def (P : Program) (w : World) (K : PySem.W.Frag) (mg : Str → Option Value) (base : Heap) (k : Nat) (x : Str) (ps : List Str) (R : List D → Stt → Mu → (D → Prop) → Prop) : Prop :=
  ∃ (f : Addr) (fd : FuncData), FnOk P w K mg base CX0 k f fd ps (spG K R) ∧ mg x = some (.ref f) ∧ PySem.W.keepIn K (.ref f) = true ∧ Binds K fd ps []
section
variable {X : Cx}
/-- where one stands: the same program, world, written part, names, base -/
structure XIs (X : Cx) (P : Program) (w : World) (K : PySem.W.Frag) (mg : Str → Option Value) (base : Heap) : Prop where
  p : X.prog = P
  w : X.w = w
  k : X.K = K
  m : X.mg = mg
  b : X.base = base
theorem pe_callD {P : Program} {w : World} {K : PySem.W.Frag} {mg : Str → Option Value} {base : Heap} {k : Nat} {x : Str} {ps : List Str} {R : List D → Stt → Mu → (D → Prop) → Prop} {p pos : Pos} {e : Expr} {es : List Expr} {t : TA} (F : Def P w K mg base k x ps R) (hX : XIs X P w K mg base)
    (hr : Room k X.A) (hg : Gl X x) (ha : PA X (e :: es) t) (hdb : (x == ("__debug__" : Str)) = false := by decide) (he : starEach (e :: es) X.env = (false, eval e X.env) :: starEach es X.env := by rfl)
    (hpl : (backTo pos (starEach es X.env)).any (·.1) = false := by rfl) : PE X (.Call (.Name x p) (e :: es) [] pos) (tCall (spG K R) [] E0 t) := by
  obtain ⟨h1, h2, h3, h4, h5⟩ := hX
  subst h1 h2 h3 h4 h5
  obtain ⟨f, fd, F, hm, hk, hb⟩ := F
  exact pe_call F hr hg hm hk hb .nil pass0 ha hdb he hpl
section
variable {K : PySem.W.Frag}
theorem k_ix (h : X.K = K) : IxR X (rIx K) := by subst h; exact ix_seq
theorem k_len (h : X.K = K) : CallR X (.builtin "len") (cLen K) := by subst h; exact cl_len
theorem k_list (h : X.K = K) : CallR X (.type "list") (cList K) := by subst h; exact cl_list
theorem k_tup (h : X.K = K) : CallR X (.type "tuple") (cTup K) := by subst h; exact cl_tup
theorem k_isi (h : X.K = K) : CallR X (.builtin "isinstance") (rIsi K) := by subst h; exact call_isi
theorem k_all (h : X.K = K) (hc : X.calm = true) : CallR X (.builtin "all") (rAll K) := by subst h; exact cr_all hc
theorem k_any (h : X.K = K) (hc : X.calm = true) : CallR X (.builtin "any") (rAny K) := by subst h; exact cr_any hc
theorem k_eqD (h : X.K = K) (hu : X.A.units + 64 < cLine) : OpR X (compareOp .Eq) (rEqD K) := by subst h; exact op_eqD hu
theorem k_neD (h : X.K = K) (hu : X.A.units + 64 < cLine) : OpR X (compareOp .NotEq) (rNeD K) := by subst h; exact op_neD hu
theorem k_inT (h : X.K = K) (hu : X.A.units + 70 < cLine) : OpR X (compareOp .In) (rInT K) := by subst h; exact op_inT hu
theorem k_sl (h : X.K = K) : SlR X (rSlT K) := by subst h; exact sl_tup
theorem k_fld {e : Expr} {f : Str} {pos : Pos} {ta : TE} (h : X.K = K) (he : PE X e ta) (hb : attributeBase e f X.env (eval e X.env) = eval e X.env) : PE X (.Attribute e f pos) (tFld K ta f) := by subst h; exact pe_fld he hb
theorem k_seq {tg l : Expr} {tl : TE} (h : X.K = K) (hl : PE X l tl) : PI X tg l (iSeq K tl) := by subst h; exact pi_seq hl
theorem k_zip {e e2 : Expr} {ta : TA} {p pos tpos : Pos} {elts : List Expr} {kk : Nat} (h : X.K = K) (hg : Gl X "zip") (hm : X.mg "zip" = none) (ha : PA X [e, e2] ta)
    (hs : starEach [e, e2] X.env = (false, eval e X.env) :: starEach [e2] X.env := by rfl) (hpl : (backTo pos (starEach [e2] X.env)).any (·.1) = false := by rfl) :
    PI X (.Tuple elts kk tpos) (.Call (.Name "zip" p) [e, e2] [] pos) (iZipA K ta) := by subst h; exact pi_zipA hg hm ha hs hpl
theorem k_gtup {es : List Expr} {k : Nat} {t : TGs} {n : Nat} {pos : Pos} (h : X.K = K) (hc : X.calm = true) (hp : PGs X es t) (hn : (assignEach es X.env).length = n := by rfl) (hst : (assignEach es X.env).findIdx? (·.1) = none := by rfl) :
    PG X (.Tuple es k pos) (gTup K n t) := by subst h; exact pg_tup hc hp hn hst
theorem k_app {o e : Expr} {pos apos : Pos} {to te : TE} (h : X.K = K) (ho : PE X o to) (he : PE X e te) (q : PE X (.Call (.Attribute o "append" apos) [e] [] pos) (tBM X.K "list" rAppend to (tCons te tNil))) : PE X (.Call (.Attribute o "append" apos) [e] [] pos) (tBM K "list" rAppend to (tCons te tNil)) := by subst h; exact q
end
theorem pe_gint {x : Str} {i : Int} {pos : Pos} (h : ∃ t, X.mg x = some (.int i t)) (hg : Gl X x) (hd : (x == ("__debug__" : Str)) = false := by decide) : PE X (.Name x pos) (tC (.int i)) := by
  obtain ⟨t, h⟩ := h
  exact pe_glob hg h ⟨t, rfl⟩ hd
theorem pe_gstr {x z : Str} {pos : Pos} (h : ∃ t, X.mg x = some (.str z t)) (hg : Gl X x) (hd : (x == ("__debug__" : Str)) = false := by decide) : PE X (.Name x pos) (tC (.str z)) := by
  obtain ⟨t, h⟩ := h
  exact pe_glob hg h ⟨t, rfl⟩ hd
theorem pe_gref {x : Str} {a : Addr} {pos : Pos} (h : X.mg x = some (.ref a)) (hg : Gl X x) (hd : (x == ("__debug__" : Str)) = false := by decide) : PE X (.Name x pos) (tC (.ref a)) := pe_glob hg h rfl hd
theorem hu_70 {A : Around} {k : Nat} (hr : Room k A) : A.units + 70 < cLine := by
  have := hr.un
  omega
theorem op_mulA : OpR X (binaryOp .Mult) (rI IntMulOk fun i j => .int (i * j)) := opI fun _ _ _ _ _ _ _ hc q => mul_int q hc
end
/-- how a def without defaults binds -/
theorem mk_def {P : Program} {w : World} {K : PySem.W.Frag} {mg : Str → Option Value} {base : Heap} {k : Nat} {x : Str} {ps : List Str} {R : List D → Stt → Mu → (D → Prop) → Prop} {params : Arguments} {body : List Stmt} {scope : Scope} {f : Addr} {fd : FuncData}
    (F : FunD K x x params body scope [] [] f fd) (hm : mg x = some (.ref f)) (G : FnOk P w K mg base CX0 k f fd ps (spG K R))
    (h : ∀ (kV doc pm : Value) (an : Option Addr) (cdv ct : Value) (us : List Value), us.length = ps.length → bindArgs (PySem.W.fnOf x x params body scope .none kV doc pm an cdv ct) ⟨us, []⟩ = pure (ps.zip us)) : Def P w K mg base k x ps R :=
  ⟨f, fd, G, hm, F.kp, F.bindsN h⟩
/-- a def of the top as it stands -/
structure At (K : PySem.W.Frag) (mg : Str → Option Value) (x : Str) (st : Stmt) : Prop where
  fn : ∃ f fd, FunD K x x (defArgs st) (defBody st) (defScope st) [] [] f fd ∧ mg x = some (.ref f)
end U
set_option maxHeartbeats 0
namespace UH
open PySem PySem.Spec PyProof.Rows L2 U
/-! ### what the head tells -/
def fa1 : List He.Fa := [.free "len", .free "abs", .free "all", .free "any", .free "isinstance", .free "max", .free "range", .free "zip", .free "enumerate", .free "tuple", .free "list", .free "int", .free "bool", .free "str", .int "MOST_BASES" 3, .int "MOST_ROWS" 10, .int "MOST_TOP" 6, .int "MOST_BOTTOM" 4, .int "MOST_GRIDS" 6, .int "MOST_STEPS" 16, .int "MOST_SIDE" 12, .str "ENDLESS" "endless", .glo "NOUGHT", .glo "Grid", .glo "Script", .glo "FORMS", .glo "PARTS", .cls "Grid", .cls "Script", .noat "Grid" "bases", .noat "Grid" "rows", .noat "Script" "grids", .noat "Script" "steps", .noat "Script" "kept_shapes", .noat "Script" "kept_flags", .mkr "Grid", .mkr "Script"]
def fa2 : List He.Fa := [.glo "_law_start", .glo "_law_pick", .glo "_law_words", .glo "_law_vector", .glo "_law_cell", .glo "_law_row", .glo "_law_square", .glo "_law_shape", .glo "_law_step", .glo "_law_starred", .glo "shape_made", .glo "is_integer", .glo "is_number", .glo "is_step", .glo "parts_of", .glo "shape_of_step", .glo "shapes_of", .glo "are_grids", .glo "reached_by", .glo "source_of", .glo "flags_made", .glo "is_part", .glo "divisor", .glo "is_fraction", .glo "is_unit_of", .glo "is_cell", .glo "check_rows", .glo "is_within", .glo "_law_lowest", .glo "_law_unit", .glo "_law_grid", .glo "_law_script", .glo "are_rows", .glo "fits", .glo "are_numbers"]
def fa3 : List He.Fa := [.glo "are_values", .glo "check_values", .glo "check_at", .glo "lowest", .glo "over", .glo "rounds_of", .glo "times", .glo "product_of", .glo "plus", .glo "sum_of", .glo "star_of", .glo "cell_of_product", .glo "rows_made", .glo "raw_outcomes", .glo "outcome", .glo "_law_values", .glo "_law_is_fraction", .glo "_law_are_outcomes", .glo "_law_reached", .glo "_law_signed", .glo "_law_plus", .glo "_law_less", .glo "_law_times", .glo "_law_shrinks", .glo "_law_heavy", .glo "_law_is_endless", .glo "_law_sum", .glo "_law_product", .glo "_law_is_star", .glo "_law_source", .glo "_law_cell_of", .glo "law"]
def fa : List He.Fa := fa1 ++ (fa2 ++ fa3)
def dd_l_start : He.DefD := ⟨("_law_start", none), "_law_start", "_law_start", defArgs s_l_start, defBody s_l_start, defScope s_l_start, [], []⟩
def dd_l_pick : He.DefD := ⟨("_law_pick", none), "_law_pick", "_law_pick", defArgs s_l_pick, defBody s_l_pick, defScope s_l_pick, [], []⟩
def dd_l_words : He.DefD := ⟨("_law_words", none), "_law_words", "_law_words", defArgs s_l_words, defBody s_l_words, defScope s_l_words, [], []⟩
def dd_l_vector : He.DefD := ⟨("_law_vector", none), "_law_vector", "_law_vector", defArgs s_l_vector, defBody s_l_vector, defScope s_l_vector, [], []⟩
def dd_l_cell : He.DefD := ⟨("_law_cell", none), "_law_cell", "_law_cell", defArgs s_l_cell, defBody s_l_cell, defScope s_l_cell, [], []⟩
def dd_l_row : He.DefD := ⟨("_law_row", none), "_law_row", "_law_row", defArgs s_l_row, defBody s_l_row, defScope s_l_row, [], []⟩
def dd_l_square : He.DefD := ⟨("_law_square", none), "_law_square", "_law_square", defArgs s_l_square, defBody s_l_square, defScope s_l_square, [], []⟩
def dd_l_shape : He.DefD := ⟨("_law_shape", none), "_law_shape", "_law_shape", defArgs s_l_shape, defBody s_l_shape, defScope s_l_shape, [], []⟩
def dd_l_step : He.DefD := ⟨("_law_step", none), "_law_step", "_law_step", defArgs s_l_step, defBody s_l_step, defScope s_l_step, [], []⟩
def dd_l_starred : He.DefD := ⟨("_law_starred", none), "_law_starred", "_law_starred", defArgs s_l_starred, defBody s_l_starred, defScope s_l_starred, [], []⟩
def dd_shape_made : He.DefD := ⟨("shape_made", none), "shape_made", "shape_made", defArgs s_shape_made, defBody s_shape_made, defScope s_shape_made, [], []⟩
def dd_is_integer : He.DefD := ⟨("is_integer", none), "is_integer", "is_integer", defArgs s_is_integer, defBody s_is_integer, defScope s_is_integer, [], []⟩
def dd_is_number : He.DefD := ⟨("is_number", none), "is_number", "is_number", defArgs s_is_number, defBody s_is_number, defScope s_is_number, [], []⟩
def dd_is_step : He.DefD := ⟨("is_step", none), "is_step", "is_step", defArgs s_is_step, defBody s_is_step, defScope s_is_step, [], []⟩
def dd_parts_of : He.DefD := ⟨("parts_of", none), "parts_of", "parts_of", defArgs s_parts_of, defBody s_parts_of, defScope s_parts_of, [], []⟩
def dd_shape_of_step : He.DefD := ⟨("shape_of_step", none), "shape_of_step", "shape_of_step", defArgs s_shape_of_step, defBody s_shape_of_step, defScope s_shape_of_step, [], []⟩
def dd_shapes_of : He.DefD := ⟨("shapes_of", none), "shapes_of", "shapes_of", defArgs s_shapes_of, defBody s_shapes_of, defScope s_shapes_of, [], []⟩
def dd_are_grids : He.DefD := ⟨("are_grids", none), "are_grids", "are_grids", defArgs s_are_grids, defBody s_are_grids, defScope s_are_grids, [], []⟩
def dd_reached_by : He.DefD := ⟨("reached_by", none), "reached_by", "reached_by", defArgs s_reached_by, defBody s_reached_by, defScope s_reached_by, [], []⟩
def dd_source_of : He.DefD := ⟨("source_of", none), "source_of", "source_of", defArgs s_source_of, defBody s_source_of, defScope s_source_of, [], []⟩
def dd_flags_made : He.DefD := ⟨("flags_made", none), "flags_made", "flags_made", defArgs s_flags_made, defBody s_flags_made, defScope s_flags_made, [], []⟩
def dd_is_part : He.DefD := ⟨("is_part", none), "is_part", "is_part", defArgs s_is_part, defBody s_is_part, defScope s_is_part, [], []⟩
def dd_divisor : He.DefD := ⟨("divisor", none), "divisor", "divisor", defArgs s_divisor, defBody s_divisor, defScope s_divisor, [], []⟩
def dd_is_fraction : He.DefD := ⟨("is_fraction", none), "is_fraction", "is_fraction", defArgs s_is_fraction, defBody s_is_fraction, defScope s_is_fraction, [], []⟩
def dd_is_unit_of : He.DefD := ⟨("is_unit_of", none), "is_unit_of", "is_unit_of", defArgs s_is_unit_of, defBody s_is_unit_of, defScope s_is_unit_of, [], []⟩
def dd_is_cell : He.DefD := ⟨("is_cell", none), "is_cell", "is_cell", defArgs s_is_cell, defBody s_is_cell, defScope s_is_cell, [], []⟩
def dd_check_rows : He.DefD := ⟨("check_rows", none), "check_rows", "check_rows", defArgs s_check_rows, defBody s_check_rows, defScope s_check_rows, [], []⟩
def dd_is_within : He.DefD := ⟨("is_within", none), "is_within", "is_within", defArgs s_is_within, defBody s_is_within, defScope s_is_within, [], []⟩
def dd_l_lowest : He.DefD := ⟨("_law_lowest", none), "_law_lowest", "_law_lowest", defArgs s_l_lowest, defBody s_l_lowest, defScope s_l_lowest, [], []⟩
def dd_l_unit : He.DefD := ⟨("_law_unit", none), "_law_unit", "_law_unit", defArgs s_l_unit, defBody s_l_unit, defScope s_l_unit, [], []⟩
def dd_l_grid : He.DefD := ⟨("_law_grid", none), "_law_grid", "_law_grid", defArgs s_l_grid, defBody s_l_grid, defScope s_l_grid, [], []⟩
def dd_l_script : He.DefD := ⟨("_law_script", none), "_law_script", "_law_script", defArgs s_l_script, defBody s_l_script, defScope s_l_script, [], []⟩
def dd_are_rows : He.DefD := ⟨("are_rows", none), "are_rows", "are_rows", defArgs s_are_rows, defBody s_are_rows, defScope s_are_rows, [], []⟩
def dd_fits : He.DefD := ⟨("fits", none), "fits", "fits", defArgs s_fits, defBody s_fits, defScope s_fits, [], []⟩
def dd_are_numbers : He.DefD := ⟨("are_numbers", none), "are_numbers", "are_numbers", defArgs s_are_numbers, defBody s_are_numbers, defScope s_are_numbers, [], []⟩
def dd_are_values : He.DefD := ⟨("are_values", none), "are_values", "are_values", defArgs s_are_values, defBody s_are_values, defScope s_are_values, [], []⟩
def dd_check_values : He.DefD := ⟨("check_values", none), "check_values", "check_values", defArgs s_check_values, defBody s_check_values, defScope s_check_values, [], []⟩
def dd_check_at : He.DefD := ⟨("check_at", none), "check_at", "check_at", defArgs s_check_at, defBody s_check_at, defScope s_check_at, [], []⟩
def dd_lowest : He.DefD := ⟨("lowest", none), "lowest", "lowest", defArgs s_lowest, defBody s_lowest, defScope s_lowest, [], []⟩
def dd_over : He.DefD := ⟨("over", none), "over", "over", defArgs s_over, defBody s_over, defScope s_over, [], []⟩
def dd_rounds_of : He.DefD := ⟨("rounds_of", none), "rounds_of", "rounds_of", defArgs s_rounds_of, defBody s_rounds_of, defScope s_rounds_of, [], []⟩
def dd_times : He.DefD := ⟨("times", none), "times", "times", defArgs s_times, defBody s_times, defScope s_times, [], []⟩
def dd_product_of : He.DefD := ⟨("product_of", none), "product_of", "product_of", defArgs s_product_of, defBody s_product_of, defScope s_product_of, [], []⟩
def dd_plus : He.DefD := ⟨("plus", none), "plus", "plus", defArgs s_plus, defBody s_plus, defScope s_plus, [], []⟩
def dd_sum_of : He.DefD := ⟨("sum_of", none), "sum_of", "sum_of", defArgs s_sum_of, defBody s_sum_of, defScope s_sum_of, [], []⟩
def dd_star_of : He.DefD := ⟨("star_of", none), "star_of", "star_of", defArgs s_star_of, defBody s_star_of, defScope s_star_of, [], []⟩
def dd_cell_of_product : He.DefD := ⟨("cell_of_product", none), "cell_of_product", "cell_of_product", defArgs s_cell_of_product, defBody s_cell_of_product, defScope s_cell_of_product, [], []⟩
def dd_rows_made : He.DefD := ⟨("rows_made", none), "rows_made", "rows_made", defArgs s_rows_made, defBody s_rows_made, defScope s_rows_made, [], []⟩
def dd_raw_outcomes : He.DefD := ⟨("raw_outcomes", none), "raw_outcomes", "raw_outcomes", defArgs s_raw_outcomes, defBody s_raw_outcomes, defScope s_raw_outcomes, [], []⟩
def dd_outcome : He.DefD := ⟨("outcome", none), "outcome", "outcome", defArgs s_outcome, defBody s_outcome, defScope s_outcome, [], []⟩
def dd_l_values : He.DefD := ⟨("_law_values", none), "_law_values", "_law_values", defArgs s_l_values, defBody s_l_values, defScope s_l_values, [], []⟩
def dd_l_is_fraction : He.DefD := ⟨("_law_is_fraction", none), "_law_is_fraction", "_law_is_fraction", defArgs s_l_is_fraction, defBody s_l_is_fraction, defScope s_l_is_fraction, [], []⟩
def dd_l_are_outcomes : He.DefD := ⟨("_law_are_outcomes", none), "_law_are_outcomes", "_law_are_outcomes", defArgs s_l_are_outcomes, defBody s_l_are_outcomes, defScope s_l_are_outcomes, [], []⟩
def dd_l_reached : He.DefD := ⟨("_law_reached", none), "_law_reached", "_law_reached", defArgs s_l_reached, defBody s_l_reached, defScope s_l_reached, [], []⟩
def dd_l_signed : He.DefD := ⟨("_law_signed", none), "_law_signed", "_law_signed", defArgs s_l_signed, defBody s_l_signed, defScope s_l_signed, [], []⟩
def dd_l_plus : He.DefD := ⟨("_law_plus", none), "_law_plus", "_law_plus", defArgs s_l_plus, defBody s_l_plus, defScope s_l_plus, [], []⟩
def dd_l_less : He.DefD := ⟨("_law_less", none), "_law_less", "_law_less", defArgs s_l_less, defBody s_l_less, defScope s_l_less, [], []⟩
def dd_l_times : He.DefD := ⟨("_law_times", none), "_law_times", "_law_times", defArgs s_l_times, defBody s_l_times, defScope s_l_times, [], []⟩
def dd_l_shrinks : He.DefD := ⟨("_law_shrinks", none), "_law_shrinks", "_law_shrinks", defArgs s_l_shrinks, defBody s_l_shrinks, defScope s_l_shrinks, [], []⟩
def dd_l_heavy : He.DefD := ⟨("_law_heavy", none), "_law_heavy", "_law_heavy", defArgs s_l_heavy, defBody s_l_heavy, defScope s_l_heavy, [], []⟩
def dd_l_is_endless : He.DefD := ⟨("_law_is_endless", none), "_law_is_endless", "_law_is_endless", defArgs s_l_is_endless, defBody s_l_is_endless, defScope s_l_is_endless, [], []⟩
def dd_l_sum : He.DefD := ⟨("_law_sum", none), "_law_sum", "_law_sum", defArgs s_l_sum, defBody s_l_sum, defScope s_l_sum, [], []⟩
def dd_l_product : He.DefD := ⟨("_law_product", none), "_law_product", "_law_product", defArgs s_l_product, defBody s_l_product, defScope s_l_product, [], []⟩
def dd_l_is_star : He.DefD := ⟨("_law_is_star", none), "_law_is_star", "_law_is_star", defArgs s_l_is_star, defBody s_l_is_star, defScope s_l_is_star, [], []⟩
def dd_l_source : He.DefD := ⟨("_law_source", none), "_law_source", "_law_source", defArgs s_l_source, defBody s_l_source, defScope s_l_source, [], []⟩
def dd_l_cell_of : He.DefD := ⟨("_law_cell_of", none), "_law_cell_of", "_law_cell_of", defArgs s_l_cell_of, defBody s_l_cell_of, defScope s_l_cell_of, [], []⟩
def dd_law : He.DefD := ⟨("law", none), "law", "law", defArgs s_law, defBody s_law, defScope s_law, [], []⟩
def dd_Script_init : He.DefD := ⟨("Script", some "__init__"), "__init__", "Script.__init__", defArgs s_Script_init, defBody s_Script_init, defScope s_Script_init, [], []⟩
def dd_Grid_init : He.DefD := ⟨("Grid", some "__init__"), "__init__", "Grid.__init__", defArgs s_Grid_init, defBody s_Grid_init, defScope s_Grid_init, [], []⟩
def fn1 : List He.DefD := [dd_l_start, dd_l_pick, dd_l_words, dd_l_vector, dd_l_cell, dd_l_row, dd_l_square, dd_l_shape, dd_l_step, dd_l_starred, dd_shape_made, dd_is_integer, dd_is_number, dd_is_step, dd_parts_of, dd_shape_of_step, dd_shapes_of, dd_are_grids, dd_reached_by, dd_source_of, dd_flags_made, dd_is_part, dd_divisor, dd_is_fraction, dd_is_unit_of, dd_is_cell, dd_check_rows, dd_is_within, dd_l_lowest, dd_l_unit, dd_l_grid, dd_l_script, dd_are_rows, dd_fits, dd_are_numbers]
def fn2 : List He.DefD := [dd_are_values, dd_check_values, dd_check_at, dd_lowest, dd_over, dd_rounds_of, dd_times, dd_product_of, dd_plus, dd_sum_of, dd_star_of, dd_cell_of_product, dd_rows_made, dd_raw_outcomes, dd_outcome, dd_l_values, dd_l_is_fraction, dd_l_are_outcomes, dd_l_reached, dd_l_signed, dd_l_plus, dd_l_less, dd_l_times, dd_l_shrinks, dd_l_heavy, dd_l_is_endless, dd_l_sum, dd_l_product, dd_l_is_star, dd_l_source, dd_l_cell_of, dd_law, dd_Script_init, dd_Grid_init]
def fn : List He.DefD := fn1 ++ fn2
def ts : List He.Tab := [(fun K => He.ga K "FORMS", ["plus", "times", "turned", "beside", "above", "piece", "star"]), (fun K => He.ga K "PARTS", ["plus", "times", "turned", "beside", "above", "piece", "star"])]
def kvF : List (Str × He.Dv) := [("plus", .int 2), ("times", .int 2), ("turned", .int 1), ("beside", .int 2), ("above", .int 2), ("piece", .int 5), ("star", .int 1)]
def kvP : List (Str × He.Dv) := [("plus", .int 2), ("times", .int 2), ("turned", .int 1), ("beside", .int 2), ("above", .int 2), ("piece", .int 1), ("star", .int 1)]
def ex (K : PySem.W.Frag) : Bool := He.tupB K "NOUGHT" [.int 0, .int 1] && (He.valsB K (He.ga K "FORMS") kvF && (He.valsB K (He.ga K "PARTS") kvP && (He.eqO (PySem.W.findIn K (.ref (He.ga K "Grid")) "__class__") (some (some (.builtin "object.__class__"))) &&
  (He.eqO (PySem.W.specialIn K (.builtin "object.__class__") "__get__") (some (some (.builtin "getset_descriptor.__get__"))) && (decide (PySem.W.takesIn K (.builtin "object.__class__") = some true) && decide (PySem.W.mroIn K (He.ga K "Grid") (.type "object") = some true))))))
def loose0 : List Str := ["GridError", "BadGrid", "BadScript", "NoGrid", "NoValues", "is_integer", "is_within", "is_number", "divisor", "lowest", "is_fraction", "plus", "times", "over", "is_unit_of", "are_rows", "MOST_BASES", "MOST_ROWS", "MOST_TOP", "MOST_BOTTOM", "is_part", "is_cell", "check_rows", "Grid", "fits", "are_numbers", "are_values", "MOST_GRIDS", "MOST_STEPS", "MOST_SIDE"]
def loose1 : List Str := ["FORMS", "PARTS", "are_grids", "is_step", "parts_of", "shape_made", "shape_of_step", "shapes_of", "source_of", "reached_by", "flags_made", "Script", "check_at", "ENDLESS", "NOUGHT", "sum_of", "product_of", "rounds_of", "star_of", "cell_of_product", "rows_made", "raw_outcomes", "check_values", "outcome", "_law_start", "_law_pick", "_law_lowest", "_law_unit", "_law_vector", "_law_cell"]
def loose2 : List Str := ["_law_row", "_law_grids", "_law_shape", "_law_step", "_law_world", "_law_words", "_law_grid", "_law_script", "_law_source", "_law_square", "_law_starred", "_law_is_fraction", "_law_plus", "_law_times", "_law_sum", "_law_product", "_law_values", "_law_cell_of", "_law_reached", "_law_less", "_law_signed", "_law_shrinks", "_law_heavy", "_law_is_endless", "_law_is_star", "_law_are_outcomes"]
def loose : List Str := loose0 ++ loose1 ++ loose2
abbrev R : PySem.W.OpenRow := PySem.W.OpenLaw.row PySem.Challenge.rw_unitgrids_k22_whole_stars_and_what_is_en
abbrev hk : PySem.W.Hook := He.hookX 5 fa fn ts [] ex
def ob (s : PySem.W.SharedT) : He.AlX := He.obsX 5 fa fn ts [] ex (HandSHeadRun.getT s)
theorem ob_eq (s : PySem.W.SharedT) : ob s = hk.obs s.abs := He.obsX_eq (HandSHeadRun.getT_eq s)

/-- the run's equation by its three parts: each is one run of the top -/
theorem join3 {α β γ δ : Type _} {o : Option α} {f : α → β} {g : α → γ} {h : α → δ} {a : β} {b : γ} {c : δ} (h1 : o.map f = some a) (h2 : o.map g = some b) (h3 : o.map h = some c) : (o.map fun s => (f s, g s, h s)) = some (a, b, c) := by
  cases o with
  | none => cases h1
  | some x =>
    have e1 : f x = a := Option.some.inj h1
    have e2 : g x = b := Option.some.inj h2
    have e3 : h x = c := Option.some.inj h3
    show some (f x, g x, h x) = _
    rw [e1, e2, e3]
abbrev qv : Program := PySem.W.view R.prog [92]
open PySem.W HandSHeadRun in
def P1 (r : OpenRow) (M : Nat) (w : World) : Prop := ∀ os : OsState, (endF (stepQ (denQ tabQ) r.prog w) M r.prog w os).map (fun s => looksF r.prog (boot_heap w.params) s.abs) = some true
open PySem.W HandSHeadRun in
def P2 (r : OpenRow) (q : Program) (M : Nat) (loose : List PySem.Str) (w : World) : Prop := ∀ os : OsState, (endF (stepQ (denQ tabQ) r.prog w) M r.prog w os).map (fun s => seenQ q loose (importedModules r.prog.main.body) (fun s => xlAt q [] s && recOk r.toRowW.records s) s.abs) = some (openGood q loose)
open PySem.W HandSHeadRun in
def P3 (r : OpenRow) (H : Hook) (ob : SharedT → H.α) (M : Nat) (w : World) : Prop := ∀ os : OsState, (endF (stepQ (denQ tabQ) r.prog w) M r.prog w os).map ob = some (H.val w)
open PySem.W HandSHeadRun in
theorem runOf {r : OpenRow} {q : Program} {H : Hook} {ob : SharedT → H.α} {M : Nat} {loose : List PySem.Str} {w : World} (h1 : P1 r M w) (h2 : P2 r q M loose w) (h3 : P3 r H ob M w) : RunEq r q H ob M loose w := fun os => join3 (h1 os) (h2 os) (h3 os)
theorem p1F (w : World) : P1 R 6000 (w.withFollow "special-get-raises" false) := by
  intro os
  kernel_rfl
theorem p1T (w : World) : P1 R 6000 (w.withFollow "special-get-raises" true) := by
  intro os
  kernel_rfl
theorem p2F (w : World) : P2 R qv 6000 loose (w.withFollow "special-get-raises" false) := by
  intro os
  kernel_rfl
theorem p2T (w : World) : P2 R qv 6000 loose (w.withFollow "special-get-raises" true) := by
  intro os
  kernel_rfl
theorem p3F (w : World) : P3 R hk ob 6000 (w.withFollow "special-get-raises" false) := by
  intro os
  kernel_rfl
theorem p3T (w : World) : P3 R hk ob 6000 (w.withFollow "special-get-raises" true) := by
  intro os
  kernel_rfl
theorem p1 (w : World) : P1 R 6000 w := PySem.W.byRow2 "special-get-raises" (P := fun w => P1 R 6000 w) p1F p1T w
theorem p2 (w : World) : P2 R qv 6000 loose w := PySem.W.byRow2 "special-get-raises" (P := fun w => P2 R qv 6000 loose w) p2F p2T w
theorem p3 (w : World) : P3 R hk ob 6000 w := PySem.W.byRow2 "special-get-raises" (P := fun w => P3 R hk ob 6000 w) p3F p3T w
theorem run (w : World) : HandSHeadRun.RunEq R qv hk ob 6000 loose w := runOf (p1 w) (p2 w) (p3 w)
end UH
set_option maxHeartbeats 4000000
/-! M1: outcomes as Option Rat, their data. -/
namespace U
open PySem PyProof.Rows L2 Evl RZ
abbrev Oc := Option Rat
def encQ (q : Rat) : D := .tup [.int q.num, .int (q.den : Nat)]
def encO : Oc → D
  | none => .str "endless"
  | some q => encQ q
def oadd : Oc → Oc → Oc
  | some a, some b => some (a + b)
  | _, _ => none
def omul (x y : Oc) : Oc := if x = some 0 ∨ y = some 0 then some 0 else match x, y with
  | some a, some b => some (a * b)
  | _, _ => none
def orounds : Oc → Oc
  | none => none
  | some q => if 1 ≤ q then none else some (1 / (1 - q))
/-- 2 ^ 4000, 2 ^ 8999, kept closed -/
@[irreducible] def B4 : Nat := 2 ^ 4000
@[irreducible] def B9 : Nat := 2 ^ 8999
theorem pow_le {a b : Nat} (h : a ≤ b) : 2 ^ a ≤ 2 ^ b := Nat.pow_le_pow_right (by decide) h
theorem lt_B4 {x n : Nat} (h : x < 2 ^ n) (hn : n ≤ 4000) : x < B4 := by
  unfold B4
  exact Nat.lt_of_lt_of_le h (pow_le hn)
theorem B4_lt {x : Nat} (h : x < B4) : x < 2 ^ 4000 := by
  unfold B4 at h
  exact h
theorem B9_lt {x : Nat} (h : x < B9) : x < 2 ^ 8999 := by
  unfold B9 at h
  exact h
theorem B4_B9 {x : Nat} (h : x < B4) : x < B9 := by
  unfold B9
  exact Nat.lt_of_lt_of_le (B4_lt h) (pow_le (by decide))
theorem B44_B9 {x y : Nat} (h : x < B4) (h2 : y < B4) : x * y < B9 := by
  have k : x * y < 2 ^ 4000 * 2 ^ 4000 := Nat.mul_lt_mul'' (B4_lt h) (B4_lt h2)
  rw [← Nat.pow_add] at k
  unfold B9
  exact Nat.lt_of_lt_of_le k (pow_le (by decide))
theorem one_B4 : (1 : Nat) < B4 := lt_B4 (n := 1) (by decide) (by decide)
/-- top and bottom not too great -/
def Sm (q : Rat) : Prop := q.num.natAbs < B4 ∧ q.den < B4
def SmO : Oc → Prop
  | none => True
  | some q => Sm q
theorem encQ_mk (t : Int) (b : Nat) (hb : 0 < b) : encQ (mkRat t b) = .tup [.int (t / (Int.gcd t b : Nat)), .int ((b : Int) / (Int.gcd t b : Nat))] := by
  have e : b.gcd t.natAbs = Int.gcd t b := by
    rw [Nat.gcd_comm]
    rfl
  unfold encQ
  rw [Rat.num_mkRat, Rat.den_mkRat, if_neg (by omega), if_neg (by omega), e, Int.natCast_ediv]
theorem gcd_pos {t : Int} {b : Nat} (hb : 0 < b) : 0 < Int.gcd t b := Nat.gcd_pos_of_pos_right _ hb
theorem gcd_le {t : Int} {b : Nat} (hb : 0 < b) : Int.gcd t b ≤ b := Nat.le_of_dvd hb (Nat.gcd_dvd_right _ _)
theorem mul_okA {i j : Int} {a b : Nat} (ha : i.natAbs < 2 ^ a) (hb : j.natAbs < 2 ^ b) (h : a + b ≤ 900000) : IntMulOk i j :=
  (wide_mul (a := a + 1) (b := b + 1) (Nat.lt_of_lt_of_le ha (Nat.pow_le_pow_right (by decide) (by omega))) (Nat.lt_of_lt_of_le hb (Nat.pow_le_pow_right (by decide) (by omega))) (by omega) (by omega) (by omega)).ok
theorem mul_ok {i j : Int} (ha : i.natAbs < B4) (hb : j.natAbs < B4) : IntMulOk i j := mul_okA (B4_lt ha) (B4_lt hb) (by decide)
theorem mul_okN {i : Int} {j : Nat} (ha : i.natAbs < B4) (hb : j < B4) : IntMulOk i (j : Nat) := mul_ok ha (by rw [Int.natAbs_natCast]; exact hb)
theorem mul_okNN {i j : Nat} (ha : i < B4) (hb : j < B4) : IntMulOk (i : Nat) (j : Nat) := mul_okN (by rw [Int.natAbs_natCast]; exact ha) hb
theorem add_eq (a b : Rat) : a + b = mkRat (a.num * (b.den : Int) + b.num * (a.den : Int)) (a.den * b.den) := Rat.add_def' a b
theorem mul_eq (a b : Rat) : a * b = mkRat (a.num * b.num) (a.den * b.den) := Rat.mul_def' a b
theorem len_ok {n : Nat} (h : Nat.ble n 100000 = true) : n ≤ 100000 := Nat.le_of_ble_eq_true h
/-! ### == and in on outcomes -/
theorem ok_encQ (q : Rat) : okD (encQ q) = true := rfl
theorem ok_encO : ∀ o : Oc, okD (encO o) = true
  | none => rfl
  | some _ => rfl
theorem lay_encQ (q : Rat) : (py (encQ q)).canLay0 = true := rfl
theorem lay_encO : ∀ o : Oc, (py (encO o)).canLay0 = true
  | none => by decide +kernel
  | some q => rfl
theorem depth_encO : ∀ o : Oc, (py (encO o)).depth ≤ 1
  | none => by decide +kernel
  | some q => by show PyData.depth (.tuple [.int _, .int _]) ≤ 1; simp [PyData.depth, PyData.depthAll]
theorem shaped_of {d : PyData} (h : d.canLay0 = true) {n : Nat} (hd : d.depth ≤ n) (hn : n ≤ 64 := by decide) : SeqAt.shaped d = true := by
  unfold SeqAt.shaped
  rw [h, decide_eq_true (Nat.le_trans hd hn)]
  rfl
theorem sh_encO (o : Oc) : SeqAt.shaped (py (encO o)) = true := shaped_of (lay_encO o) (depth_encO o)
theorem sh_encQ (q : Rat) : SeqAt.shaped (py (encQ q)) = true := sh_encO (some q)
theorem rat_ext {a b : Rat} (h1 : a.num = b.num) (h2 : a.den = b.den) : a = b := Rat.ext h1 h2
theorem eqv_encO : ∀ a b : Oc, PyData.eqv (py (encO a)) (py (encO b)) = decide (a = b)
  | none, none => by decide +kernel
  | none, some q => by simp [encO, encQ, py, PyData.eqv]
  | some q, none => by simp [encO, encQ, py, PyData.eqv]
  | some p, some q => by
    have e : PyData.eqv (py (encO (some p))) (py (encO (some q))) = ((p.num == q.num) && ((p.den : Int) == (q.den : Int)) ) := by
      simp [encO, encQ, py, pys, PyData.eqv, PyData.eqvAll]
    rw [e]
    by_cases h : p = q
    · subst h
      simp
    · rw [decide_eq_false (fun z => h (Option.some.inj z))]
      by_cases h1 : p.num = q.num
      · have h2 : ¬ (p.den : Int) = (q.den : Int) := fun z => h (rat_ext h1 (by omega))
        simp [h1, h2]
      · simp [h1]
theorem str_endless : D.str "endless" = encO none := rfl
theorem zero_enc : (D.tup [.int 0, .int 1]) = encO (some 0) := rfl
theorem one_enc : (D.tup [.int 1, .int 1]) = encO (some 1) := rfl
end U
set_option maxHeartbeats 4000000
/-! U6: the rules over typed lists: a list of x's told by enc. -/
namespace U
open PySem PyProof.Rows L2 Evl RZ
/-- a tuple or a list -/
def mk (b : Bool) (ds : List D) : D := if b then .tup ds else .lst ds
theorem seqB_mk {mu : Mu} (b : Bool) (ds : List D) : seqB mu b (mk b ds) ds := by
  cases b
  · exact .inl rfl
  · rfl
theorem seqD_mk {mu : Mu} (b : Bool) (ds : List D) : SeqD mu (mk b ds) ds := by
  cases b
  · exact .inl rfl
  · exact .inr (.inl rfl)
theorem atI_natE {α : Type} (xs : List α) (j : Nat) : atI xs (j : Int) = xs[j]? := by
  cases h : xs[j]? with
  | some x => exact atI_nat h
  | none =>
    have hl := List.getElem?_eq_none_iff.mp h
    unfold atI ixN
    rw [if_pos (by omega), if_neg (by omega)]
    rfl
theorem range_get {α : Type} (xs : List α) {β : Type} (g : α → β) (d : α) : (List.range xs.length).map (fun i => g (xs[i]?.getD d)) = xs.map g := by
  apply List.ext_getElem?
  intro i
  rw [List.getElem?_map, List.getElem?_map]
  by_cases hi : i < xs.length
  · rw [List.getElem?_range hi, List.getElem?_eq_getElem hi]
    simp [hi]
  · rw [List.getElem?_eq_none (by simp; omega), List.getElem?_eq_none (by omega)]
    rfl
section
variable {K : PySem.W.Frag} {st : Stt} {mu mu' : Mu} {Γ : G} {te ta tl : TE} {tt : TT} {P : D → Prop} {α β : Type}
/-- [e for x in xs] -/
theorem ev_lct {vs : List Nat} {j : Nat} {d : D} (xs : List α) (enc : α → D) (g : α → D) (b : Bool) (h : EV K st mu tl Γ (Is d)) (hs : seqB [] b d (xs.map enc)) (hj : j ∈ vs) (hz : xs.length ≤ 50000)
    (he : ∀ (i : Nat) (x : α), xs[i]? = some x → EV K st mu te ((wipeG Γ vs).set j (some (enc x))) (Is (g x))) : EV K st mu (tLc (iSeq K tl) (gName j) tYes te vs) Γ (Is (.lst (xs.map g))) := by
  by_cases hn : xs = []
  · subst hn
    exact (ev_lcd (it_seq b h hs) (fun p hp => by cases hp) (fun k hk => by rw [List.mem_singleton.mp hk]; exact hj) (by simp) (fun _ => .non) fun i hi => by simp at hi).is (by simp)
  · obtain ⟨x0, hx0⟩ : ∃ x, x ∈ xs := by
      cases xs with
      | nil => exact absurd rfl hn
      | cons x _ => exact ⟨x, by simp⟩
    have hl : (xs.map enc).length = xs.length := by simp
    refine (ev_lcd (it_seq b h hs) (fun p hp => by cases hp) (fun k hk => by rw [List.mem_singleton.mp hk]; exact hj) (by rw [hl]; exact hz) (fun i => g (xs[i]?.getD x0)) fun i hi => ?_).is (by rw [hl, range_get])
    have hi' : i < xs.length := by rw [← hl]; exact hi
    have q : (xs.map enc)[i]? = some (enc xs[i]) := by rw [List.getElem?_map, List.getElem?_eq_getElem hi']; rfl
    have q2 : xs[i]?.getD x0 = xs[i] := by rw [List.getElem?_eq_getElem hi']; rfl
    show EV K st mu te ((wipeG Γ vs).set j ((xs.map enc)[i]?)) (Is (g (xs[i]?.getD x0)))
    rw [q, q2]
    exact he i xs[i] (List.getElem?_eq_getElem hi')
theorem zip_get (xs : List α) (ys : List β) {γ : Type} (g : α → β → γ) (a : α) (b : β) : (List.range (min xs.length ys.length)).map (fun i => g (xs[i]?.getD a) (ys[i]?.getD b)) = List.zipWith g xs ys := by
  apply List.ext_getElem?
  intro i
  rw [List.getElem?_map, List.getElem?_zipWith]
  by_cases hi : i < min xs.length ys.length
  · have h1 : i < xs.length := by omega
    have h2 : i < ys.length := by omega
    rw [List.getElem?_range hi, List.getElem?_eq_getElem h1, List.getElem?_eq_getElem h2]
    simp [h1, h2]
  · rw [List.getElem?_eq_none (by simp; omega)]
    by_cases h1 : i < xs.length
    · rw [List.getElem?_eq_getElem h1, List.getElem?_eq_none (l := ys) (by omega)]
      rfl
    · rw [List.getElem?_eq_none (l := xs) (by omega)]
      rfl
/-- [e for x, y in zip(xs, ys)] -/
theorem ev_lcz {vs : List Nat} {j k : Nat} {tA : TA} {d1 d2 : D} (xs : List α) (ys : List β) (ex : α → D) (ey : β → D) (g : α → β → D) (b : Bool) (h : EA K st mu tA Γ (Is [d1, d2])) (s1 : seqB [] b d1 (xs.map ex)) (s2 : seqB [] b d2 (ys.map ey)) (hj : j ∈ vs) (hk : k ∈ vs) (hz : xs.length ≤ 50000)
    (he : ∀ (i : Nat) (x : α) (y : β), xs[i]? = some x → ys[i]? = some y → EV K st mu te (((wipeG Γ vs).set j (some (ex x))).set k (some (ey y))) (Is (g x y))) :
    EV K st mu (tLc (iZipA K tA) (gTup K 2 (gCons (gName j) (gCons (gName k) gNil))) tYes te vs) Γ (Is (.lst (List.zipWith g xs ys))) := by
  have hm : min (xs.map ex).length (ys.map ey).length = min xs.length ys.length := by simp
  by_cases hn : min xs.length ys.length = 0
  · refine (ev_lcd (it_zip b h s1 s2 (hm.trans hn).symm) (fun p hp => by cases hp) (fun q hq => ?_) (by simp) (fun _ => .non) fun i hi => by simp at hi).is ?_
    · rcases List.mem_cons.mp hq with e | hq
      · rw [e]; exact hj
      · rw [List.mem_singleton.mp hq]; exact hk
    · have e : List.zipWith g xs ys = [] := List.eq_nil_of_length_eq_zero (by rw [List.length_zipWith]; exact hn)
      rw [e]
      rfl
  · have h1 : 0 < xs.length := by omega
    have h2 : 0 < ys.length := by omega
    refine (ev_lcd (it_zip b h s1 s2 hm.symm) (fun p hp => by cases hp) (fun q hq => ?_) (by omega) (fun i => g (xs[i]?.getD xs[0]) (ys[i]?.getD ys[0])) fun i hi => ?_).is (by rw [zip_get])
    · rcases List.mem_cons.mp hq with e | hq
      · rw [e]; exact hj
      · rw [List.mem_singleton.mp hq]; exact hk
    · have i1 : i < xs.length := by omega
      have i2 : i < ys.length := by omega
      have q1 : (xs.map ex)[i]? = some (ex xs[i]) := by rw [List.getElem?_map, List.getElem?_eq_getElem i1]; rfl
      have q2 : (ys.map ey)[i]? = some (ey ys[i]) := by rw [List.getElem?_map, List.getElem?_eq_getElem i2]; rfl
      have q3 : xs[i]?.getD xs[0] = xs[i] := by rw [List.getElem?_eq_getElem i1]; rfl
      have q4 : ys[i]?.getD ys[0] = ys[i] := by rw [List.getElem?_eq_getElem i2]; rfl
      show EV K st mu te (((wipeG Γ vs).set j ((xs.map ex)[i]?)).set k ((ys.map ey)[i]?)) (Is (g (xs[i]?.getD xs[0]) (ys[i]?.getD ys[0])))
      rw [q1, q2, q3, q4]
      exact he i xs[i] ys[i] (List.getElem?_eq_getElem i1) (List.getElem?_eq_getElem i2)
/-- [e for i in range(n)] -/
theorem ev_lcr {vs : List Nat} {j n : Nat} {tA : TA} (h : EA K st mu tA Γ (Is [.int (n : Int)])) (hj : j ∈ vs) (hz : n ≤ 50000) (g : Nat → D) (he : ∀ i, i < n → EV K st mu te ((wipeG Γ vs).set j (some (.int (i : Nat)))) (Is (g i))) :
    EV K st mu (tLc (iRng1 tA) (gName j) tYes te vs) Γ (Is (.lst ((List.range n).map g))) :=
  ev_lcd (it_rng h) (fun p hp => by cases hp) (fun k hk => by rw [List.mem_singleton.mp hk]; exact hj) hz g he
end
section
variable {c : Cn} {Γ : G} {own : Mu} {NX : G → Mu → Prop} {ts : TS} {tl : TE} {α β : Type}
/-- for x in xs -/
theorem sj_fort {j : Nat} {d : D} (xs : List α) (enc : α → D) (b : Bool) (h : EV c.K c.st (c.bor ++ own) tl Γ (Is d)) (hs : seqB [] b d (xs.map enc)) (Inv : Nat → G → Mu → Prop) (h0 : Inv 0 Γ own)
    (hb : ∀ i x Γ' own', xs[i]? = some x → Inv i Γ' own' → SJ { c with ct := Inv (i + 1), bk := NX } ts (Γ'.set j (some (enc x))) own' (Inv (i + 1))) (hd : ∀ Γ' own', Inv xs.length Γ' own' → NX Γ' own') : SJ c (tFor (iSeq c.K tl) (gName j) ts) Γ own NX :=
  sj_ford (it_seq b h hs) Inv h0 (fun i Γ' own' hi q => by
    have hi' : i < xs.length := by simpa using hi
    have e : (xs.map enc)[i]? = some (enc xs[i]) := by rw [List.getElem?_map, List.getElem?_eq_getElem hi']; rfl
    show SJ _ ts (Γ'.set j ((xs.map enc)[i]?)) own' _
    rw [e]
    exact hb i xs[i] Γ' own' (List.getElem?_eq_getElem hi') q) fun Γ' own' q => hd Γ' own' (by simpa using q)
/-- for x, y in zip(xs, ys) -/
theorem sj_forz {j k : Nat} {tA : TA} {d1 d2 : D} (xs : List α) (ys : List β) (ex : α → D) (ey : β → D) (b : Bool) (h : EA c.K c.st (c.bor ++ own) tA Γ (Is [d1, d2])) (s1 : seqB [] b d1 (xs.map ex)) (s2 : seqB [] b d2 (ys.map ey)) (hl : xs.length = ys.length) (Inv : Nat → G → Mu → Prop) (h0 : Inv 0 Γ own)
    (hb : ∀ i x y Γ' own', xs[i]? = some x → ys[i]? = some y → Inv i Γ' own' → SJ { c with ct := Inv (i + 1), bk := NX } ts ((Γ'.set j (some (ex x))).set k (some (ey y))) own' (Inv (i + 1))) (hd : ∀ Γ' own', Inv xs.length Γ' own' → NX Γ' own') :
    SJ c (tFor (iZipA c.K tA) (gTup c.K 2 (gCons (gName j) (gCons (gName k) gNil))) ts) Γ own NX :=
  sj_ford (n := xs.length) (it_zip b h s1 s2 (by simp [hl])) Inv h0 (fun i Γ' own' hi q => by
    have i2 : i < ys.length := by omega
    have q1 : (xs.map ex)[i]? = some (ex xs[i]) := by rw [List.getElem?_map, List.getElem?_eq_getElem hi]; rfl
    have q2 : (ys.map ey)[i]? = some (ey ys[i]) := by rw [List.getElem?_map, List.getElem?_eq_getElem i2]; rfl
    show SJ _ ts ((Γ'.set j ((xs.map ex)[i]?)).set k ((ys.map ey)[i]?)) own' _
    rw [q1, q2]
    exact hb i xs[i] ys[i] Γ' own' (List.getElem?_eq_getElem hi) (List.getElem?_eq_getElem i2) q) hd
/-- for i in range(n) -/
theorem sj_forr {j n : Nat} {tA : TA} (h : EA c.K c.st (c.bor ++ own) tA Γ (Is [.int (n : Int)])) (hz : n ≤ 50000) (Inv : Nat → G → Mu → Prop) (h0 : Inv 0 Γ own)
    (hb : ∀ i Γ' own', i < n → Inv i Γ' own' → SJ { c with ct := Inv (i + 1), bk := NX } ts (Γ'.set j (some (.int (i : Nat)))) own' (Inv (i + 1))) (hd : ∀ Γ' own', Inv n Γ' own' → NX Γ' own') : SJ c (tFor (iRng1 tA) (gName j) ts) Γ own NX :=
  sj_ford (it_rng h) Inv h0 hb hd
end
end U
set_option maxHeartbeats 4000000
/-! U7: enumerate over a tuple as well as over a list. -/
namespace U
open PySem PyProof.Rows L2 Evl RZ
/-- the items of the tuple at a, each in a new pair with its place -/
def Itp (K : PySem.W.Frag) (a : Addr) : It where
  go := fun i H => ∃ (xs : List V) (x : V), SqT K H a xs ∧ xs[i]? = some x
  yld := fun i H v H' => ∃ T x, v = .ref T ∧ H T = none ∧ H' = upd H T (.tup [.int (i : Nat), x]) ∧ ∀ xs, SqT K H a xs → xs[i]? = some x
  stop := fun i H => ∃ xs : List V, SqT K H a xs ∧ xs.length = i
set_option maxHeartbeats 8000000 in
theorem mee_tup {v : Value} {o : Obj} {Hy : Heap → Prop} (B : Begins v o Hy) :
    Meets (Builtin.«enumerate.__new__» ⟨[.type "enumerate", v], []⟩) (fun _ R s =>
      Hy s.heap ∧ R (.ok (.ret (.ref (s.heap.push o).objs.size)))
        { s with heap := (s.heap.push o).push { cls := .type "enumerate", data := .fields #[.none, .bool false, .ref s.heap.objs.size, rawInt 0, .none, .none] } }) :=
  .of_wp fun pr wo Ar Re sh hh => by
    obtain ⟨hp, gs, dr, tk, os⟩ := sh
    obtain ⟨hy, hR⟩ := hh
    have su := sub_enumerate
    have it1 : ∀ {Ar' : Around} {Ex' : Value → Shared → Prop} {Qu : Value → Shared → Prop}, Qu (.ref hp.objs.size) ⟨hp.push o, gs, dr, tk, os⟩ →
        wpAny (model pr wo) Ar' (pyIter v) Qu Ex' ⟨hp, gs, dr, tk, os⟩ :=
      fun qu => B.iter pr wo _ _ ⟨hp, gs, dr, tk, os⟩ _ hy qu
    wp_walk using it1
    refine wpAny_stack_any fun stk => wpAny_pure ?_
    split
    · rename_i cc _ _ _ _ _
      cases (cc == Value.type "enumerate") <;>
        (wp_walk using it1
         exact ⟨_, rfl, hR⟩)
    · wp_walk using it1
      exact ⟨_, rfl, hR⟩
theorem call_enu {prog : Program} {w : World} {A : Around} {E : Value → Shared → Prop} {s : Shared} {v : Value} {o : Obj} {Hy : Heap → Prop} {Q : Value → Shared → Prop}
    (B : Begins v o Hy) (hy : Hy s.heap)
    (h : ∀ h' : Heap, IsEnum h' (s.heap.objs.size + 1) s.heap.objs.size 0 .none → h'.get? s.heap.objs.size = some o →
      (∀ b o', s.heap.get? b = some o' → h'.get? b = some o') → Q (.ref (s.heap.objs.size + 1)) { s with heap := h' }) :
    wpAny (model prog w) A (call (.type "enumerate") [v]) Q E s := by
  refine callType_new F.called_enumerate (by decide) (F.typeCall_enumerate_1 _) (F.newCall_enumerate_1 _) (fun ob => F.args_object_init_2 ob _) F.entry_enumerate_new (mee_tup B) ?_
  have hz : (s.heap.push o).objs.size = s.heap.objs.size + 1 := Heap.size_push ..
  refine ⟨hy, ?_⟩
  show _ ∧ _
  rw [hz]
  have e0 := Heap.get?_push_size (s.heap.push o) (o := { cls := .type "enumerate", data := .fields #[.none, .bool false, .ref s.heap.objs.size, rawInt 0, .none, .none] }) rfl
  rw [hz] at e0
  refine ⟨⟨_, e0, rfl⟩, h _ e0 (Heap.get?_push_of_some _ (Heap.get?_push_size _ B.free)) fun b o' x => ?_⟩
  exact Heap.get?_push_of_some _ (Heap.get?_push_of_some _ x)
structure TpSt (h : Heap) (e it a : Addr) (i : Nat) : Prop where
  en : ∃ old, IsEnum h e it ((i : Nat) : Int) old
  ti : h.IsTupleIter it a i
  n1 : e ≠ it
  n2 : e ≠ a
  n3 : a ≠ it
theorem turn_tp {P : Program} {w : World} {K : PySem.W.Frag} {elts : List Expr} {kk : Nat} {tpos : Pos} (a e it : Addr) :
    Turn P w K (.Tuple elts kk tpos) (Itp K a) [e, it] e (fun i h => TpSt h e it a i) where
  mem := List.mem_cons_self
  obj := fun i h z b hb => by
    obtain ⟨⟨old, he⟩, ⟨ob, ho, _, hd⟩, _, _, _⟩ := z
    rcases List.mem_cons.mp hb with q | q
    · subst q
      exact ⟨_, he, fun v y => nomatch y⟩
    · have q' := List.mem_singleton.mp q
      subst q'
      exact ⟨ob, ho, fun v y => by rw [hd] at y; cases y⟩
  keep := fun i h h' z k => by
    obtain ⟨⟨old, he⟩, hi, n1, n2, n3⟩ := z
    exact ⟨⟨old, k e List.mem_cons_self _ he⟩, hi.at fun ob q => k it (by simp) ob q, n1, n2, n3⟩
  item := by
    intro X hP hw hK hc i pins s σ H E I hf z hg
    subst hP hw hK
    obtain ⟨⟨old, he⟩, hit, n1, n2, n3⟩ := z
    obtain ⟨xs, x, hq, hx⟩ := hg
    obtain ⟨its, rv, p, _⟩ := I.tuple hq
    obtain ⟨u, hu, ru⟩ := rv.get hx
    have hil : i < its.toArray.size := by
      have := (List.getElem?_eq_some_iff.mp hu).1
      simpa using this
    have hes : e < s.heap.objs.size := Heap.lt_size he
    have his : it < s.heap.objs.size := by
      obtain ⟨_, q, _⟩ := hit
      exact Heap.lt_size q
    have hh : X.A.in1.handled = none := I.ok.hd hc
    refine wpAny_pyNext_enum_itemC (Draws.tuple hh it a n3 its.toArray) he ⟨hit, p⟩ hil n1 (by simp [n1, n2]) fun y h1 tk hy ho st1 hT _ hk => ?_
    have ey : y = u := by
      have h2 : its.toArray[i]? = some y := hy
      rw [List.getElem?_toArray, hu] at h2
      exact (Option.some.inj h2).symm
    subst ey
    refine ⟨_, rfl, wpAny_letOwnedTupleGo_enum (s := { s with heap := h1, toks := tk + 1 }) ho fun h2 he2 sb => ?_⟩
    have hT2 : h2.get? s.heap.objs.size = some { cls := .type "tuple", data := .seq #[.int i tk, y] } := (sb.2 _ (Nat.ne_of_gt hes)).trans hT
    have nw : ObjOk X.prog X.w (upd H s.heap.objs.size (.tup [.int (i : Nat), x])) h2 s.heap.objs.size (.tup [.int (i : Nat), x]) :=
      ⟨by show 2 ≤ sizeLine; decide, [.int i tk, y], .cons ⟨_, rfl⟩ (.cons ru .nil), ⟨_, hT2, rfl, _, rfl⟩⟩
    have I1 := I.turnedNew (t' := tk + 1) (ch := [e, it]) (fun b ob hb q => (sb.2 b (fun z => hb (by simp [z]))).trans (hk b ob (fun z => hb (by simp [z])) (fun z => hb (by simp [z])) q)) hf (Nat.le_refl _) nw
    refine ⟨.ref s.heap.objs.size, _, I1, rfl, ⟨_, x, rfl, I.hok.fresh (Nat.le_refl _), rfl, fun ys h => ?_⟩, ⟨⟨y, ?_⟩, st1.1.at fun ob q => (sb.2 it (Ne.symm n1)).trans q, n1, n2, n3⟩, fun b hb => ?_⟩
    · rw [I.tuple_inj h hq]
      exact hx
    · have e1 : ((i + 1 : Nat) : Int) = (i : Int) + 1 := by omega
      rw [e1]
      exact he2
    · have hbl : b < s.heap.objs.size := by
        rcases List.mem_cons.mp hb with q | q
        · rw [q]; exact hes
        · rw [List.mem_singleton.mp q]; exact his
      rw [upd_ne (Nat.ne_of_lt hbl)]
      exact (hf b hb).1
  done := by
    intro X hP hw hK hc i pins s σ H E I hf z hg
    subst hP hw hK
    obtain ⟨⟨old, he⟩, hit, n1, n2, n3⟩ := z
    obtain ⟨xs, hq, hx⟩ := hg
    obtain ⟨its, rv, p, _⟩ := I.tuple hq
    have hl := rv.length
    have hh : X.A.in1.handled = none := I.ok.hd hc
    obtain ⟨f0, f1, f2, f3, f4, f5⟩ := hf it (by simp)
    have ei : i = its.toArray.size := by
      rw [List.size_toArray]
      omega
    subst ei
    refine wpAny_pyNext_enum_endD (Draws.tuple hh it a n3 its.toArray) he ⟨hit, p⟩ fun h1 eb => ⟨rfl, I.turned (t' := s.toks) (fun b ob hb q => eb b ob hb q) f0 f1 f3 f4 f5⟩
  self := fun A i s Q E z h => by
    obtain ⟨⟨_, he⟩, _⟩ := z
    exact wpAny_pyIter_enum he h
/-- enumerate of a list, of a tuple -/
def iEnA (K : PySem.W.Frag) (ta : TA) : TI := fun σ H R => iEnum K ta σ H R ∨ ta σ H fun vs H1 => ∃ a xs, vs = [.ref a] ∧ SqT K H1 a xs ∧ R (Itp K a) H1
theorem pi_enA {X : Cx} {e : Expr} {ta : TA} {p pos tpos : Pos} {elts : List Expr} {kk : Nat} (hg : Gl X "enumerate") (hm : X.mg "enumerate" = none) (ha : PA X [e] ta)
    (hs : starEach [e] X.env = [(false, eval e X.env)] := by rfl) : PI X (.Tuple elts kk tpos) (.Call (.Name "enumerate" p) [e] [] pos) (iEnA X.K ta) := by
  refine ⟨fun pins s σ H R I h => ?_⟩
  rcases h with h | h
  · exact (pi_enum hg hm ha hs).run pins s σ H R I h
  refine Call_ (ld_blt I hg hm boot_enumerate (PyProof.Rows.callWith_type1 (thn (ha.run pos pins s σ H _ I h) fun us s1 ⟨vs, H1, I1, rr, a, xs, ev, hq, q⟩ => ?_) hs rfl))
  subst ev
  cases rr with
  | cons r rr =>
    cases rr
    cases r
    obtain ⟨its, rv, pt, _⟩ := I1.tuple hq
    have hal : a < s1.heap.objs.size := pt.lt
    refine call_enu (begins_tuple a its.toArray) (show s1.heap.IsTuple a its.toArray from pt) fun h1 he hit hk => wpAny_pyIter_enum he ?_
    have I2 := I1.kept (t' := s1.toks) hk
    refine ⟨s1.heap.objs.size + 1, [s1.heap.objs.size + 1, s1.heap.objs.size], _, _, H1, rfl, I2, turn_tp a (s1.heap.objs.size + 1) s1.heap.objs.size,
      ⟨⟨_, he⟩, ⟨_, hit, rfl, rfl⟩, Nat.succ_ne_self _, Nat.ne_of_gt (Nat.lt_succ_of_lt hal), Nat.ne_of_lt hal⟩, fun b hb => ?_, q⟩
    have hle : s1.heap.objs.size ≤ b := by
      rcases List.mem_cons.mp hb with z | z
      · rw [z]; exact Nat.le_succ _
      · rw [List.mem_singleton.mp z]; exact Nat.le_refl _
    exact I1.fpOk hle (I1.hok.fresh hle)
theorem k_enum {X : Cx} {K : PySem.W.Frag} {e : Expr} {ta : TA} {p pos tpos : Pos} {elts : List Expr} {kk : Nat} (h : X.K = K) (hg : Gl X "enumerate") (hm : X.mg "enumerate" = none) (ha : PA X [e] ta)
    (hs : starEach [e] X.env = [(false, eval e X.env)] := by rfl) : PI X (.Tuple elts kk tpos) (.Call (.Name "enumerate" p) [e] [] pos) (iEnA K ta) := by
  subst h
  exact pi_enA hg hm ha hs
section
variable {K : PySem.W.Frag} {st : Stt} {mu : Mu} {Γ : G}
theorem it_enum {j k : Nat} {tA : TA} {d : D} {xs : List D} (b : Bool) (h : EA K st mu tA Γ (Is [d])) (hs : seqB [] b d xs) :
    IT K st mu [] (iEnA K tA) (gTup K 2 (gCons (gName j) (gCons (gName k) gNil))) [j, k] (WIs xs.length (tSet2 j k (fun i => some (.int (i : Nat))) fun i => xs[i]?)) Γ := fun σ H0 H i s m nn R r => by
  cases b with
  | false =>
    refine .inl (h σ H0 H i s m nn _ fun vs ds H1 H2 g1 s1 e rr => ?_)
    subst e
    have e1 : d = .lst xs := hs.elim id fun ⟨_, _, q⟩ => by cases q
    subst e1
    cases rr with
    | cons r1 rr =>
      cases rr
      obtain ⟨p, vs, rfl, h1, q1⟩ := r1.lstI
      have l1 := q1.length
      have at_ : ∀ A0 A : Hp, Ex H1 A0 → Ex A0 A → SqL K A p vs := fun A0 A e1 e2 => SqL.of (e2 _ _ (e1 _ _ h1))
      refine ⟨p, vs, rfl, at_ H1 H2 (Ex.refl _) g1.i, r _ _ _ H1 H2 ⟨rfl, rfl⟩ g1 s1 (fun i' A0 A hi e1 e2 mm => ⟨vs, vs[i']'(by omega), at_ A0 A e1 e2, by simp⟩) (fun A0 A e1 e2 mm => ⟨vs, at_ A0 A e1 e2, by omega⟩) (fun i' A0 A x A' hi e1 e2 mm y σc Γc nc cont hc => ?_)⟩
      obtain ⟨T, x1, rfl, hT, rfl, y1⟩ := y
      obtain ⟨a1, ha1, ra1⟩ := q1.getV (y1 vs (at_ A0 A e1 e2))
      have g2 := Gr.new (S := []) e2 (o := .tup [.int (i' : Nat), x1]) hT
      exact to_two (dx := .int (i' : Nat)) (.raw _) (ra1.mono (e1.trans g2.e0)) (SqT.of upd_same) g2.i (nc.mono g2.e0) (by show (Γc.set j _).set k xs[i']? = _; rw [ha1]) fun σ2 A1 A2 g3 n3 w3 => hc σ2 A1 A2 (g2.trans g3) n3 w3
  | true =>
    refine .inr (h σ H0 H i s m nn _ fun vs ds H1 H2 g1 s1 e rr => ?_)
    subst e
    have e1 : d = .tup xs := hs
    subst e1
    cases rr with
    | cons r1 rr =>
      cases rr
      obtain ⟨p, vs, rfl, h1, q1⟩ := r1.tupI
      have l1 := q1.length
      have at_ : ∀ A0 A : Hp, Ex H1 A0 → Ex A0 A → SqT K A p vs := fun A0 A e1 e2 => ex_t (e1.trans e2) h1
      refine ⟨p, vs, rfl, at_ H1 H2 (Ex.refl _) g1.i, r _ _ _ H1 H2 ⟨rfl, rfl⟩ g1 s1 (fun i' A0 A hi e1 e2 mm => ⟨vs, vs[i']'(by omega), at_ A0 A e1 e2, by simp⟩) (fun A0 A e1 e2 mm => ⟨vs, at_ A0 A e1 e2, by omega⟩) (fun i' A0 A x A' hi e1 e2 mm y σc Γc nc cont hc => ?_)⟩
      obtain ⟨T, x1, rfl, hT, rfl, y1⟩ := y
      obtain ⟨a1, ha1, ra1⟩ := q1.getV (y1 vs (at_ A0 A e1 e2))
      have g2 := Gr.new (S := []) e2 (o := .tup [.int (i' : Nat), x1]) hT
      exact to_two (dx := .int (i' : Nat)) (.raw _) (ra1.mono (e1.trans g2.e0)) (SqT.of upd_same) g2.i (nc.mono g2.e0) (by show (Γc.set j _).set k xs[i']? = _; rw [ha1]) fun σ2 A1 A2 g3 n3 w3 => hc σ2 A1 A2 (g2.trans g3) n3 w3
end
section
variable {c : Cn} {Γ : G} {own : Mu} {NX : G → Mu → Prop} {ts : TS} {α : Type}
/-- for i, x in enumerate(xs) -/
theorem sj_fore {j k : Nat} {tA : TA} {d : D} (xs : List α) (enc : α → D) (b : Bool) (h : EA c.K c.st (c.bor ++ own) tA Γ (Is [d])) (hs : seqB [] b d (xs.map enc)) (Inv : Nat → G → Mu → Prop) (h0 : Inv 0 Γ own)
    (hb : ∀ i x Γ' own', xs[i]? = some x → Inv i Γ' own' → SJ { c with ct := Inv (i + 1), bk := NX } ts ((Γ'.set j (some (.int (i : Nat)))).set k (some (enc x))) own' (Inv (i + 1))) (hd : ∀ Γ' own', Inv xs.length Γ' own' → NX Γ' own') :
    SJ c (tFor (iEnA c.K tA) (gTup c.K 2 (gCons (gName j) (gCons (gName k) gNil))) ts) Γ own NX :=
  sj_ford (it_enum b h hs) Inv h0 (fun i Γ' own' hi q => by
    have hi' : i < xs.length := by simpa using hi
    have e : (xs.map enc)[i]? = some (enc xs[i]) := by rw [List.getElem?_map, List.getElem?_eq_getElem hi']; rfl
    show SJ _ ts ((Γ'.set j _).set k ((xs.map enc)[i]?)) own' _
    rw [e]
    exact hb i xs[i] Γ' own' (List.getElem?_eq_getElem hi') q) fun Γ' own' q => hd Γ' own' (by simpa using q)
end
end U
set_option maxHeartbeats 4000000
/-! F1: numbers: is_integer, is_number, is_within, divisor, lowest. -/
namespace U
open PySem PyProof.Rows L2 Evl RZ
local macro_rules | `(tactic| walk_at "u") => `(tactic| first
  | ((with_reducible apply ev_cT) <;> assumption)
  | with_reducible apply ev_c
  | ((with_reducible apply ev_var); rfl)
  | with_reducible apply ea_nil
  | ((with_reducible apply ea_cons) <;> (try walk_at "u"))
  | ((with_reducible apply ev_opd) <;> (try walk_at "u"))
  | with_reducible apply ro_I0
  | ((with_reducible apply ro_I) <;> (try walk_at "s"))
  | ((with_reducible apply ro_ix) <;> (try walk_at "s"))
  | ((with_reducible apply ro_eq); rfl)
  | ((with_reducible apply ro_ne); rfl)
  | ((with_reducible apply ev_un) <;> (try walk_at "u"))
  | ((with_reducible apply ev_tup) <;> (try walk_at "u"))
  | ((with_reducible apply ev_lst) <;> (try walk_at "u"))
  | ((with_reducible apply ev_cbd) <;> (try walk_at "u"))
  | ((with_reducible apply rc_len) <;> (try walk_at "s"))
  | with_reducible apply rc_abs
  | with_reducible apply rc_int
  | with_reducible apply rc_intb
  | ((with_reducible apply rc_list) <;> (try walk_at "s"))
  | ((with_reducible apply rc_tup) <;> (try walk_at "s"))
  | ((with_reducible apply rc_isi) <;> (try walk_at "s"))
  | ((with_reducible apply ev_call) <;> (try walk_at "u"))
  | ((with_reducible apply ev_and2) <;> (try walk_at "u"))
  | ((with_reducible apply ev_or2) <;> (try walk_at "u"))
  | ((with_reducible apply ev_notV) <;> (try walk_at "u"))
  | ((with_reducible apply ev_chain) <;> (try walk_at "u"))
  | ((with_reducible apply et_testd) <;> (try walk_at "u"))
  | ((with_reducible apply et_B) <;> (try walk_at "u"))
  | ((with_reducible apply et_and) <;> (try walk_at "u"))
  | ((with_reducible apply et_or) <;> (try walk_at "u"))
  | ((with_reducible apply et_not) <;> (try walk_at "u"))
  | ((with_reducible intro h_) <;> (try walk_at "u"))
  | exact len_ok rfl
  | decide)
local macro_rules | `(tactic| walk_at "s") => `(tactic| first
  | with_reducible assumption
  | exact SeqD.l
  | exact SeqD.t
  | exact seqB_l
  | exact seqB_t
  | with_reducible exact ok_encO _
  | with_reducible exact sh_encO _
  | with_reducible rfl
  | ((with_reducible refine Eq.trans ?_ rfl); rfl)
  | assumption
  | decide)
variable {P : Program} {w : World} {K : PySem.W.Frag} {mg : Str → Option Value} {base : Heap}
abbrev RT := List D → Stt → Mu → (D → Prop) → Prop
def R_is_integer (K : PySem.W.Frag) : RT := fun ds st mu P => ∃ i : Int, ds = [.int i] ∧ st = none ∧ mu = [] ∧ P = Is (.bl true)
theorem d_is_integer (T : Tx K mg) (A : At K mg "is_integer" s_is_integer)  : Def P w K mg base 1 "is_integer" ["thing"] (R_is_integer K) := by
  obtain ⟨f, fd, F, hm⟩ := A.fn
  refine mk_def F hm (def_ok F sc_is_integer (fun ds st mu PP h => ?_) (by decide) fun cdv A outer s H E hr ds st mu PP h => ?_) fun _ _ _ _ _ _ us hl => match us, hl with | [_], _ => rfl
  · obtain ⟨i, rfl, _⟩ := h
    rfl
  · obtain ⟨i, rfl, rfl, rfl, rfl⟩ := h
    refine ⟨_, (pss_one (ps_ret (pe_and (pe_callB (k_isi (K := K) (by rfl)) (by rfl) T.isinstance (by decide +kernel) (pa_cons (pv 0) (pa_cons (pe_bltn (v := .ty "int") (by rfl) T.int (by decide +kernel) rfl) pa_nil))) (pe_one (pe_not (pe_callB (k_isi (K := K) (by rfl)) (by rfl) T.isinstance (by decide +kernel) (pa_cons (pv 0) (pa_cons (pe_bltn (v := .ty "bool") (by rfl) T.bool (by decide +kernel) rfl) pa_nil)))))))), ?_⟩
    (try dsimp only [cxOf, Cx.nox, Cx.wish])
    refine sj_ret (EV.is (d := .bl (true && !false)) ?_ rfl)
    walk_at "u"
theorem r_is_integer {i : Int} : R_is_integer K [.int i] none [] (Is (.bl true)) := ⟨i, rfl, rfl, rfl, rfl⟩
def R_is_number (K : PySem.W.Frag) : RT := fun ds st mu P => ∃ i : Int, ds = [.int i] ∧ st = none ∧ mu = [] ∧ P = Is (.bl (decide (0 ≤ i)))
theorem d_is_number (T : Tx K mg) (A : At K mg "is_number" s_is_number) (D_is_integer : Def P w K mg base 1 "is_integer" ["thing"] (R_is_integer K)) : Def P w K mg base 2 "is_number" ["thing"] (R_is_number K) := by
  obtain ⟨f, fd, F, hm⟩ := A.fn
  refine mk_def F hm (def_ok F sc_is_number (fun ds st mu PP h => ?_) (by decide) fun cdv A outer s H E hr ds st mu PP h => ?_) fun _ _ _ _ _ _ us hl => match us, hl with | [_], _ => rfl
  · obtain ⟨i, rfl, _⟩ := h
    rfl
  · obtain ⟨i, rfl, rfl, rfl, rfl⟩ := h
    refine ⟨_, (pss_one (ps_ret (pe_and (pe_callD D_is_integer ⟨rfl, rfl, rfl, rfl, rfl⟩ (hr.mono (by decide)) (by rfl) (pa_cons (pv 0) pa_nil)) (pe_one (pe_cmpR op_ge (pv 0) pe_int (nomark _)))))), ?_⟩
    (try dsimp only [cxOf, Cx.nox, Cx.wish])
    refine sj_ret (EV.is (d := .bl (true && decide (0 ≤ i))) ?_ (by simp))
    walk_at "u"
    exact r_is_integer
theorem r_is_number {i : Int} : R_is_number K [.int i] none [] (Is (.bl (decide (0 ≤ i)))) := ⟨i, rfl, rfl, rfl, rfl⟩
def R_is_within (K : PySem.W.Frag) : RT := fun ds st mu P => ∃ i a b : Int, ds = [.int i, .int a, .int b] ∧ st = none ∧ mu = [] ∧ P = Is (.bl (decide (a ≤ i ∧ i ≤ b)))
theorem d_is_within (T : Tx K mg) (A : At K mg "is_within" s_is_within) (D_is_integer : Def P w K mg base 1 "is_integer" ["thing"] (R_is_integer K)) : Def P w K mg base 2 "is_within" ["thing", "least", "most"] (R_is_within K) := by
  obtain ⟨f, fd, F, hm⟩ := A.fn
  refine mk_def F hm (def_ok F sc_is_within (fun ds st mu PP h => ?_) (by decide) fun cdv A outer s H E hr ds st mu PP h => ?_) fun _ _ _ _ _ _ us hl => match us, hl with | [_, _, _], _ => rfl
  · obtain ⟨i, a, b, rfl, _⟩ := h
    rfl
  · obtain ⟨i, a, b, rfl, rfl, rfl, rfl⟩ := h
    refine ⟨_, (pss_one (ps_ret (pe_and (pe_callD D_is_integer ⟨rfl, rfl, rfl, rfl, rfl⟩ (hr.mono (by decide)) (by rfl) (pa_cons (pv 0) pa_nil)) (pe_one (pe_chain op_le op_le (pv 1) (pv 0) (pv 2)))))), ?_⟩
    (try dsimp only [cxOf, Cx.nox, Cx.wish])
    refine sj_ret (EV.is (d := .bl (true && (decide (a ≤ i) && decide (i ≤ b)))) ?_ (by simp))
    walk_at "u"
    exact r_is_integer
theorem r_is_within {i a b : Int} : R_is_within K [.int i, .int a, .int b] none [] (Is (.bl (decide (a ≤ i ∧ i ≤ b)))) := ⟨i, a, b, rfl, rfl, rfl, rfl⟩
def R_divisor (K : PySem.W.Frag) : RT := fun ds st mu P => ∃ a b : Int, ds = [.int a, .int b] ∧ st = none ∧ mu = [] ∧ P = Is (.int (Int.gcd a b : Nat))
theorem d_divisor (T : Tx K mg) (A : At K mg "divisor" s_divisor)  : Def P w K mg base 1 "divisor" ["one", "other"] (R_divisor K) := by
  obtain ⟨f, fd, F, hm⟩ := A.fn
  refine mk_def F hm (def_ok F sc_divisor (fun ds st mu PP h => ?_) (by decide) fun cdv A outer s H E hr ds st mu PP h => ?_) fun _ _ _ _ _ _ us hl => match us, hl with | [_, _], _ => rfl
  · obtain ⟨a, b, rfl, _⟩ := h
    rfl
  · obtain ⟨a, b, rfl, rfl, rfl, rfl⟩ := h
    refine ⟨_, (pss_cons (ps_par (i := 0) (j := 1) (by rfl) sc_divisor.nd rfl rfl (by decide) rfl rfl (pa_cons (pe_callB cl_abs (by rfl) T.abs (by decide +kernel) (pa_cons (pv 0) pa_nil)) (pa_cons (pe_callB cl_abs (by rfl) T.abs (by decide +kernel) (pa_cons (pv 1) pa_nil)) pa_nil)) (by rfl))
        (pss_cons (ps_while PassesOwn.never (pt_cmpR op_gt (pv 1) pe_int (nomark _)) (pss_one (ps_par (i := 0) (j := 1) (by rfl) sc_divisor.nd rfl rfl (by decide) rfl rfl (pa_cons (pv 1) (pa_cons (pe_op op_mod (pv 0) (pv 1)) pa_nil)) (by rfl))))
        (pss_one (ps_ret (pv 0))))), ?_⟩
    (try dsimp only [cxOf, Cx.nox, Cx.wish])
    refine sj_seq (sj_pard (by walk_at "u") ?_)
    refine sj_seq (sj_while (fun m Γ own => ∃ x y : Nat, m = y ∧ Γ = [some (.int x), some (.int y)] ∧ own = [] ∧ Nat.gcd x y = Int.gcd a b) b.natAbs ⟨a.natAbs, b.natAbs, rfl, rfl, rfl, rfl⟩ ?_)
    rintro m Γ' own' ⟨x, y, rfl, rfl, rfl, hg⟩
    refine ⟨decide ((0 : Int) < (m : Nat)), by walk_at "u", fun hb => ?_, fun hb => ?_⟩
    · have hm : 0 < m := by simpa using hb
      refine sj_pard (x := .int (m : Nat)) (y := .int ((x : Int) % (m : Nat))) (by walk_at "u"; exact (by simpa using hm)) ⟨x % m, Nat.mod_lt _ hm, m, x % m, rfl, by simp, rfl, ?_⟩
      rw [← hg, Nat.gcd_comm x m, Nat.gcd_rec m x, Nat.gcd_comm]
    · have hm : m = 0 := by
        have := of_decide_eq_false hb
        omega
      subst hm
      refine sj_ret (EV.is (d := .int x) (by walk_at "u") ?_)
      rw [← hg, Nat.gcd_zero_right]
theorem r_divisor {a b : Int} : R_divisor K [.int a, .int b] none [] (Is (.int (Int.gcd a b : Nat))) := ⟨a, b, rfl, rfl, rfl, rfl⟩
end U
set_option maxHeartbeats 4000000
/-! F2: fractions and outcomes: lowest, plus, times, over, sum_of, product_of, rounds_of; the law's own. -/
namespace U
open PySem PyProof.Rows L2 Evl RZ
local macro_rules | `(tactic| walk_at "u") => `(tactic| first
  | ((with_reducible apply ev_cT) <;> assumption)
  | with_reducible apply ev_c
  | ((with_reducible apply ev_var); rfl)
  | with_reducible apply ea_nil
  | ((with_reducible apply ea_cons) <;> (try walk_at "u"))
  | ((with_reducible apply ev_opd) <;> (try walk_at "u"))
  | with_reducible apply ro_I0
  | ((with_reducible apply ro_I) <;> (try walk_at "s"))
  | ((with_reducible apply ro_ix) <;> (try walk_at "s"))
  | ((with_reducible apply ro_eq); rfl)
  | ((with_reducible apply ro_ne); rfl)
  | ((with_reducible apply ev_un) <;> (try walk_at "u"))
  | ((with_reducible apply ev_tup) <;> (try walk_at "u"))
  | ((with_reducible apply ev_lst) <;> (try walk_at "u"))
  | ((with_reducible apply ev_cbd) <;> (try walk_at "u"))
  | ((with_reducible apply rc_len) <;> (try walk_at "s"))
  | with_reducible apply rc_abs
  | with_reducible apply rc_int
  | with_reducible apply rc_intb
  | ((with_reducible apply rc_list) <;> (try walk_at "s"))
  | ((with_reducible apply rc_tup) <;> (try walk_at "s"))
  | ((with_reducible apply rc_isi) <;> (try walk_at "s"))
  | ((with_reducible apply ev_call) <;> (try walk_at "u"))
  | ((with_reducible apply ev_and2) <;> (try walk_at "u"))
  | ((with_reducible apply ev_or2) <;> (try walk_at "u"))
  | ((with_reducible apply ev_notV) <;> (try walk_at "u"))
  | ((with_reducible apply ev_chain) <;> (try walk_at "u"))
  | ((with_reducible apply et_testd) <;> (try walk_at "u"))
  | ((with_reducible apply et_B) <;> (try walk_at "u"))
  | ((with_reducible apply et_and) <;> (try walk_at "u"))
  | ((with_reducible apply et_or) <;> (try walk_at "u"))
  | ((with_reducible apply et_not) <;> (try walk_at "u"))
  | ((with_reducible intro h_) <;> (try walk_at "u"))
  | exact len_ok rfl
  | decide)
local macro_rules | `(tactic| walk_at "s") => `(tactic| first
  | with_reducible assumption
  | exact SeqD.l
  | exact SeqD.t
  | exact seqB_l
  | exact seqB_t
  | with_reducible exact ok_encO _
  | with_reducible exact sh_encO _
  | with_reducible rfl
  | ((with_reducible refine Eq.trans ?_ rfl); rfl)
  | assumption
  | decide)
variable {P : Program} {w : World} {K : PySem.W.Frag} {mg : Str → Option Value} {base : Heap}
def R_lowest (K : PySem.W.Frag) : RT := fun ds st mu P => ∃ (t : Int) (b : Nat), 0 < b ∧ b < B9 ∧ ds = [.int t, .int (b : Nat)] ∧ st = none ∧ mu = [] ∧ P = Is (encQ (mkRat t b))
theorem cdiv_gcd {t : Int} {b : Nat} (h0 : 0 < b) (h1 : b < B9) {x : Int} : CDivW x (Int.gcd t b : Nat) := by
  have h2 := gcd_pos (t := t) h0
  have h3 := gcd_le (t := t) h0
  refine wide_div (b := 8999) (by omega) ?_ (by decide) (by decide)
  rw [Int.natAbs_natCast]
  exact B9_lt (Nat.lt_of_le_of_lt h3 h1)
theorem d_lowest (T : Tx K mg) (A : At K mg "lowest" s_lowest) (D_divisor : Def P w K mg base 1 "divisor" ["one", "other"] (R_divisor K)) : Def P w K mg base 2 "lowest" ["top", "bottom"] (R_lowest K) := by
  obtain ⟨f, fd, F, hm⟩ := A.fn
  refine mk_def F hm (def_ok F sc_lowest (fun ds st mu PP h => ?_) (by decide) fun cdv A outer s H E hr ds st mu PP h => ?_) fun _ _ _ _ _ _ us hl => match us, hl with | [_, _], _ => rfl
  · obtain ⟨t, b, _, _, rfl, _⟩ := h
    rfl
  · obtain ⟨t, b, h0, h1, rfl, rfl, rfl, rfl⟩ := h
    refine ⟨_, (pss_cons (ps_set (i := 2) sc_lowest.nd rfl (Or.inl rfl) (pe_callD D_divisor ⟨rfl, rfl, rfl, rfl, rfl⟩ (hr.mono (by decide)) (by rfl) (pa_cons (pv 0) (pa_cons (pv 1) pa_nil))))
        (pss_cons (ps_if (pt_cmpR op_lt (pv 1) pe_int (nomark _)) (pss_one (ps_set (i := 2) sc_lowest.nd rfl (Or.inl rfl) (pe_un un_neg (pv 2)))) pss_nil)
        (pss_one (ps_ret (pe_tup (pa_cons (pe_op op_fdivW (pv 0) (pv 2)) (pa_cons (pe_op op_fdivW (pv 1) (pv 2)) pa_nil))))))), ?_⟩
    (try dsimp only [cxOf, Cx.nox, Cx.wish])
    refine sj_seq (sj_setd (by walk_at "u"; exact r_divisor) ?_)
    refine sj_seq (sj_ifd (b := false) (ET.is (by walk_at "u") (by simp)) (fun e => by cases e) fun _ => sj_next ?_)
    refine sj_ret (EV.is (by walk_at "u" <;> exact cdiv_gcd h0 h1) ?_)
    rw [encQ_mk t b h0]
theorem r_lowest {t : Int} {b : Nat} (h0 : 0 < b) (h1 : b < B9) : R_lowest K [.int t, .int (b : Nat)] none [] (Is (encQ (mkRat t b))) := ⟨t, b, h0, h1, rfl, rfl, rfl, rfl⟩
def R_plus (K : PySem.W.Frag) : RT := fun ds st mu P => ∃ a b : Rat, Sm a ∧ Sm b ∧ ds = [encQ a, encQ b] ∧ st = none ∧ mu = [] ∧ P = Is (encQ (a + b))
theorem d_plus (T : Tx K mg) (A : At K mg "plus" s_plus) (D_lowest : Def P w K mg base 2 "lowest" ["top", "bottom"] (R_lowest K)) : Def P w K mg base 3 "plus" ["one", "other"] (R_plus K) := by
  obtain ⟨f, fd, F, hm⟩ := A.fn
  refine mk_def F hm (def_ok F sc_plus (fun ds st mu PP h => ?_) (by decide) fun cdv A outer s H E hr ds st mu PP h => ?_) fun _ _ _ _ _ _ us hl => match us, hl with | [_, _], _ => rfl
  · obtain ⟨a, b, _, _, rfl, _⟩ := h
    rfl
  · obtain ⟨a, b, ha, hb, rfl, rfl, rfl, rfl⟩ := h
    refine ⟨_, (pss_one (ps_ret (pe_callD D_lowest ⟨rfl, rfl, rfl, rfl, rfl⟩ (hr.mono (by decide)) (by rfl) (pa_cons (pe_op op_add (pe_op op_mulA (pe_ix (k_ix (K := K) (by rfl)) (pv 0) pe_int (fun _ _ => rfl)) (pe_ix (k_ix (K := K) (by rfl)) (pv 1) pe_int (fun _ _ => rfl))) (pe_op op_mulA (pe_ix (k_ix (K := K) (by rfl)) (pv 1) pe_int (fun _ _ => rfl)) (pe_ix (k_ix (K := K) (by rfl)) (pv 0) pe_int (fun _ _ => rfl)))) (pa_cons (pe_op op_mulA (pe_ix (k_ix (K := K) (by rfl)) (pv 0) pe_int (fun _ _ => rfl)) (pe_ix (k_ix (K := K) (by rfl)) (pv 1) pe_int (fun _ _ => rfl))) pa_nil))))), ?_⟩
    (try dsimp only [cxOf, Cx.nox, Cx.wish])
    have k1 : IntMulOk a.num (b.den : Nat) := mul_okN ha.1 hb.2
    have k2 : IntMulOk b.num (a.den : Nat) := mul_okN hb.1 ha.2
    have k3 : IntMulOk (a.den : Nat) (b.den : Nat) := mul_okNN ha.2 hb.2
    refine sj_ret ?_
    walk_at "u"
    refine ⟨a.num * (b.den : Int) + b.num * (a.den : Int), a.den * b.den, Nat.mul_pos a.den_pos b.den_pos, B44_B9 ha.2 hb.2, by rw [Int.natCast_mul], rfl, rfl, by rw [add_eq]⟩
theorem r_plus {a b : Rat} (ha : Sm a) (hb : Sm b) : R_plus K [encQ a, encQ b] none [] (Is (encQ (a + b))) := ⟨a, b, ha, hb, rfl, rfl, rfl, rfl⟩
def R_times (K : PySem.W.Frag) : RT := fun ds st mu P => ∃ a b : Rat, Sm a ∧ Sm b ∧ ds = [encQ a, encQ b] ∧ st = none ∧ mu = [] ∧ P = Is (encQ (a * b))
theorem d_times (T : Tx K mg) (A : At K mg "times" s_times) (D_lowest : Def P w K mg base 2 "lowest" ["top", "bottom"] (R_lowest K)) : Def P w K mg base 3 "times" ["one", "other"] (R_times K) := by
  obtain ⟨f, fd, F, hm⟩ := A.fn
  refine mk_def F hm (def_ok F sc_times (fun ds st mu PP h => ?_) (by decide) fun cdv A outer s H E hr ds st mu PP h => ?_) fun _ _ _ _ _ _ us hl => match us, hl with | [_, _], _ => rfl
  · obtain ⟨a, b, _, _, rfl, _⟩ := h
    rfl
  · obtain ⟨a, b, ha, hb, rfl, rfl, rfl, rfl⟩ := h
    refine ⟨_, (pss_one (ps_ret (pe_callD D_lowest ⟨rfl, rfl, rfl, rfl, rfl⟩ (hr.mono (by decide)) (by rfl) (pa_cons (pe_op op_mulA (pe_ix (k_ix (K := K) (by rfl)) (pv 0) pe_int (fun _ _ => rfl)) (pe_ix (k_ix (K := K) (by rfl)) (pv 1) pe_int (fun _ _ => rfl))) (pa_cons (pe_op op_mulA (pe_ix (k_ix (K := K) (by rfl)) (pv 0) pe_int (fun _ _ => rfl)) (pe_ix (k_ix (K := K) (by rfl)) (pv 1) pe_int (fun _ _ => rfl))) pa_nil))))), ?_⟩
    (try dsimp only [cxOf, Cx.nox, Cx.wish])
    have k1 : IntMulOk a.num b.num := mul_ok ha.1 hb.1
    have k3 : IntMulOk (a.den : Nat) (b.den : Nat) := mul_okNN ha.2 hb.2
    refine sj_ret ?_
    walk_at "u"
    refine ⟨a.num * b.num, a.den * b.den, Nat.mul_pos a.den_pos b.den_pos, B44_B9 ha.2 hb.2, by rw [Int.natCast_mul], rfl, rfl, by rw [mul_eq]⟩
theorem r_times {a b : Rat} (ha : Sm a) (hb : Sm b) : R_times K [encQ a, encQ b] none [] (Is (encQ (a * b))) := ⟨a, b, ha, hb, rfl, rfl, rfl, rfl⟩
theorem one_big : (1 : Int).natAbs < B4 := one_B4
theorem num_pos {q : Rat} (h : 0 < q) : 0 < q.num := by
  have h1 : 0 ≤ q.num := Rat.num_nonneg.mpr (Rat.le_of_lt h)
  have h2 : q.num ≠ 0 := fun z => by
    rw [Rat.num_eq_zero] at z
    rw [z] at h
    exact Rat.lt_irrefl h
  omega
theorem inv_eq {q : Rat} (h : 0 < q) : 1 / q = mkRat (q.den : Int) q.num.toNat := by
  have h1 := num_pos h
  rw [Rat.div_def, Rat.one_mul, Rat.inv_def, ← Rat.divInt_ofNat]
  congr 1
  omega
/-- 1 over a fraction above 0 -/
def R_over (K : PySem.W.Frag) : RT := fun ds st mu P => ∃ b : Rat, Sm b ∧ 0 < b ∧ ds = [.tup [.int 1, .int 1], encQ b] ∧ st = none ∧ mu = [] ∧ P = Is (encQ (1 / b))
theorem d_over (T : Tx K mg) (A : At K mg "over" s_over) (D_lowest : Def P w K mg base 2 "lowest" ["top", "bottom"] (R_lowest K)) : Def P w K mg base 3 "over" ["one", "other"] (R_over K) := by
  obtain ⟨f, fd, F, hm⟩ := A.fn
  refine mk_def F hm (def_ok F sc_over (fun ds st mu PP h => ?_) (by decide) fun cdv A outer s H E hr ds st mu PP h => ?_) fun _ _ _ _ _ _ us hl => match us, hl with | [_, _], _ => rfl
  · obtain ⟨b, _, _, rfl, _⟩ := h
    rfl
  · obtain ⟨b, hb, h0, rfl, rfl, rfl, rfl⟩ := h
    refine ⟨_, (pss_one (ps_ret (pe_callD D_lowest ⟨rfl, rfl, rfl, rfl, rfl⟩ (hr.mono (by decide)) (by rfl) (pa_cons (pe_op op_mulA (pe_ix (k_ix (K := K) (by rfl)) (pv 0) pe_int (fun _ _ => rfl)) (pe_ix (k_ix (K := K) (by rfl)) (pv 1) pe_int (fun _ _ => rfl))) (pa_cons (pe_op op_mulA (pe_ix (k_ix (K := K) (by rfl)) (pv 0) pe_int (fun _ _ => rfl)) (pe_ix (k_ix (K := K) (by rfl)) (pv 1) pe_int (fun _ _ => rfl))) pa_nil))))), ?_⟩
    (try dsimp only [cxOf, Cx.nox, Cx.wish])
    have hn : 0 < b.num := num_pos h0
    have k1 : IntMulOk (1 : Int) (b.den : Nat) := mul_okN one_big hb.2
    have k3 : IntMulOk (1 : Int) b.num := mul_ok one_big hb.1
    have hd : b.num.toNat < B9 := by
      have h1 := hb.1
      rw [show b.num.natAbs = b.num.toNat by omega] at h1
      exact B4_B9 h1
    refine sj_ret ?_
    walk_at "u"
    refine ⟨(b.den : Int), b.num.toNat, by omega, hd, ?_, rfl, rfl, by rw [inv_eq h0]⟩
    show [D.int ((1 : Int) * _), D.int ((1 : Int) * b.num)] = _
    rw [Int.one_mul, Int.one_mul, show ((b.num.toNat : Nat) : Int) = b.num by omega]
theorem r_over {b : Rat} (hb : Sm b) (h0 : 0 < b) : R_over K [.tup [.int 1, .int 1], encQ b] none [] (Is (encQ (1 / b))) := ⟨b, hb, h0, rfl, rfl, rfl, rfl⟩
end U
set_option maxHeartbeats 4000000
/-! F3: outcomes: sum_of, product_of, rounds_of; is_fraction. -/
namespace U
open PySem PyProof.Rows L2 Evl RZ
local macro_rules | `(tactic| walk_at "u") => `(tactic| first
  | ((with_reducible apply ev_cT) <;> assumption)
  | with_reducible apply ev_c
  | ((with_reducible apply ev_var); rfl)
  | with_reducible apply ea_nil
  | ((with_reducible apply ea_cons) <;> (try walk_at "u"))
  | ((with_reducible apply ev_opd) <;> (try walk_at "u"))
  | with_reducible apply ro_I0
  | ((with_reducible apply ro_I) <;> (try walk_at "s"))
  | ((with_reducible apply ro_ix) <;> (try walk_at "s"))
  | ((with_reducible apply ro_eq); rfl)
  | ((with_reducible apply ro_ne); rfl)
  | ((with_reducible apply ev_un) <;> (try walk_at "u"))
  | ((with_reducible apply ev_tup) <;> (try walk_at "u"))
  | ((with_reducible apply ev_lst) <;> (try walk_at "u"))
  | ((with_reducible apply ev_cbd) <;> (try walk_at "u"))
  | ((with_reducible apply rc_len) <;> (try walk_at "s"))
  | with_reducible apply rc_abs
  | with_reducible apply rc_int
  | with_reducible apply rc_intb
  | ((with_reducible apply rc_list) <;> (try walk_at "s"))
  | ((with_reducible apply rc_tup) <;> (try walk_at "s"))
  | ((with_reducible apply rc_isi) <;> (try walk_at "s"))
  | ((with_reducible apply ev_call) <;> (try walk_at "u"))
  | ((with_reducible apply ev_and2) <;> (try walk_at "u"))
  | ((with_reducible apply ev_or2) <;> (try walk_at "u"))
  | ((with_reducible apply ev_notV) <;> (try walk_at "u"))
  | ((with_reducible apply ev_chain) <;> (try walk_at "u"))
  | ((with_reducible apply et_testd) <;> (try walk_at "u"))
  | ((with_reducible apply et_B) <;> (try walk_at "u"))
  | ((with_reducible apply et_and) <;> (try walk_at "u"))
  | ((with_reducible apply et_or) <;> (try walk_at "u"))
  | ((with_reducible apply et_not) <;> (try walk_at "u"))
  | ((with_reducible intro h_) <;> (try walk_at "u"))
  | exact len_ok rfl
  | decide)
local macro_rules | `(tactic| walk_at "s") => `(tactic| first
  | with_reducible assumption
  | exact SeqD.l
  | exact SeqD.t
  | exact seqB_l
  | exact seqB_t
  | with_reducible exact ok_encO _
  | with_reducible exact sh_encO _
  | with_reducible rfl
  | ((with_reducible refine Eq.trans ?_ rfl); rfl)
  | assumption
  | decide)
variable {P : Program} {w : World} {K : PySem.W.Frag} {mg : Str → Option Value} {base : Heap}
theorem sh_two (a b : Oc) : SeqAt.shaped (py (.tup [encO a, encO b])) = true := by
  refine shaped_of (n := 2) ?_ ?_
  · show ((py (encO a)).canLay0 && ((py (encO b)).canLay0 && true)) = true
    rw [lay_encO, lay_encO]
    rfl
  · have h1 := depth_encO a
    have h2 := depth_encO b
    simp only [py, pys, PyData.depth, PyData.depthAll]
    omega
theorem any_two (a b c : Oc) : ((pys [encO a, encO b]).any fun z => PyData.eqv z (py (encO c))) = (decide (a = c) || decide (b = c)) := by
  show (PyData.eqv (py (encO a)) (py (encO c)) || (PyData.eqv (py (encO b)) (py (encO c)) || false)) = _
  rw [eqv_encO, eqv_encO, Bool.or_false]
theorem ok_two (a b : Oc) : okDs [encO a, encO b] = true := by
  show (okD (encO a) && (okD (encO b) && true)) = true
  rw [ok_encO, ok_encO]
  rfl
theorem in_two {st : Stt} {mu : Mu} (x : D) (c a b : Oc) (e : x = encO c) : RO K st mu (rInT K) x (.tup [encO a, encO b]) (Is (.bl (decide (a = c) || decide (b = c)))) := by
  subst e
  exact ro_inT (ok_encO c) (ok_two a b) (sh_encO c) (sh_two a b) (any_two a b c)
def R_sum_of (K : PySem.W.Frag) : RT := fun ds st mu P => ∃ a b : Oc, SmO a ∧ SmO b ∧ ds = [encO a, encO b] ∧ st = none ∧ mu = [] ∧ P = Is (encO (oadd a b))
theorem d_sum_of (T : Tx K mg) (A : At K mg "sum_of" s_sum_of) (D_plus : Def P w K mg base 3 "plus" ["one", "other"] (R_plus K)) : Def P w K mg base 4 "sum_of" ["one", "other"] (R_sum_of K) := by
  obtain ⟨f, fd, F, hm⟩ := A.fn
  refine mk_def F hm (def_ok F sc_sum_of (fun ds st mu PP h => ?_) (by decide) fun cdv A outer s H E hr ds st mu PP h => ?_) fun _ _ _ _ _ _ us hl => match us, hl with | [_, _], _ => rfl
  · obtain ⟨a, b, _, _, rfl, _⟩ := h
    rfl
  · obtain ⟨a, b, ha, hb, rfl, rfl, rfl, rfl⟩ := h
    refine ⟨_, (pss_one (ps_ret (pe_ifExp (pt_cmpR (k_inT (K := K) (by rfl) (hu_70 hr)) (pe_gstr T.ENDLESS (by rfl)) (pe_tup (pa_cons (pv 0) (pa_cons (pv 1) pa_nil))) (by rfl)) (pe_gstr T.ENDLESS (by rfl)) (pe_callD D_plus ⟨rfl, rfl, rfl, rfl, rfl⟩ (hr.mono (by decide)) (by rfl) (pa_cons (pv 0) (pa_cons (pv 1) pa_nil)))))), ?_⟩
    (try dsimp only [cxOf, Cx.nox, Cx.wish])
    refine sj_ret (ev_if (b := decide (a = none) || decide (b = none)) ?_ (fun e => ?_) fun e => ?_)
    · walk_at "u"
      exact in_two _ none a b rfl
    · refine EV.is (by walk_at "u") ?_
      rcases a with _ | a
      · rfl
      · rcases b with _ | b
        · rfl
        · cases e
    · rcases a with _ | a
      · cases e
      · rcases b with _ | b
        · cases e
        · walk_at "u"
          exact r_plus ha hb
theorem r_sum_of {a b : Oc} (ha : SmO a) (hb : SmO b) : R_sum_of K [encO a, encO b] none [] (Is (encO (oadd a b))) := ⟨a, b, ha, hb, rfl, rfl, rfl, rfl⟩
def R_product_of (K : PySem.W.Frag) : RT := fun ds st mu P => ∃ a b : Oc, SmO a ∧ SmO b ∧ ds = [encO a, encO b] ∧ st = none ∧ mu = [] ∧ P = Is (encO (omul a b))
theorem omul_zero {a b : Oc} (h : (decide (a = some 0) || decide (b = some 0)) = true) : omul a b = some 0 := by
  unfold omul
  rw [if_pos (by simpa using h)]
theorem omul_not {a b : Oc} (h : (decide (a = some 0) || decide (b = some 0)) = false) : omul a b = match a, b with | some a, some b => some (a * b) | _, _ => none := by
  unfold omul
  rw [if_neg (by simpa using h)]
  cases a <;> cases b <;> rfl
theorem d_product_of (T : Tx K mg) (A : At K mg "product_of" s_product_of) (D_times : Def P w K mg base 3 "times" ["one", "other"] (R_times K)) : Def P w K mg base 4 "product_of" ["one", "other"] (R_product_of K) := by
  obtain ⟨f, fd, F, hm⟩ := A.fn
  refine mk_def F hm (def_ok F sc_product_of (fun ds st mu PP h => ?_) (by decide) fun cdv A outer s H E hr ds st mu PP h => ?_) fun _ _ _ _ _ _ us hl => match us, hl with | [_, _], _ => rfl
  · obtain ⟨a, b, _, _, rfl, _⟩ := h
    rfl
  · obtain ⟨a, b, ha, hb, rfl, rfl, rfl, rfl⟩ := h
    have hN := T.nought
    refine ⟨_, (pss_cons (ps_if (pt_cmpR (k_inT (K := K) (by rfl) (hu_70 hr)) (pe_gref T.NOUGHT (by rfl)) (pe_tup (pa_cons (pv 0) (pa_cons (pv 1) pa_nil))) (by rfl)) (pss_one (ps_ret (pe_gref T.NOUGHT (by rfl)))) pss_nil)
        (pss_one (ps_ret (pe_ifExp (pt_cmpR (k_inT (K := K) (by rfl) (hu_70 hr)) (pe_gstr T.ENDLESS (by rfl)) (pe_tup (pa_cons (pv 0) (pa_cons (pv 1) pa_nil))) (by rfl)) (pe_gstr T.ENDLESS (by rfl)) (pe_callD D_times ⟨rfl, rfl, rfl, rfl, rfl⟩ (hr.mono (by decide)) (by rfl) (pa_cons (pv 0) (pa_cons (pv 1) pa_nil))))))), ?_⟩
    (try dsimp only [cxOf, Cx.nox, Cx.wish])
    refine sj_seq (sj_ifd (b := decide (a = some 0) || decide (b = some 0)) ?_ (fun e => ?_) fun e => sj_next ?_)
    · walk_at "u"
      exact in_two _ (some 0) a b rfl
    · refine sj_ret (EV.is (by walk_at "u") ?_)
      rw [omul_zero e]
      rfl
    · rw [omul_not e]
      refine sj_ret (ev_if (b := decide (a = none) || decide (b = none)) ?_ (fun e => ?_) fun e => ?_)
      · walk_at "u"
        exact in_two _ none a b rfl
      · refine EV.is (by walk_at "u") ?_
        rcases a with _ | a
        · rfl
        · rcases b with _ | b
          · rfl
          · cases e
      · rcases a with _ | a
        · cases e
        · rcases b with _ | b
          · cases e
          · walk_at "u"
            exact r_times ha hb
theorem r_product_of {a b : Oc} (ha : SmO a) (hb : SmO b) : R_product_of K [encO a, encO b] none [] (Is (encO (omul a b))) := ⟨a, b, ha, hb, rfl, rfl, rfl, rfl⟩
def R_rounds_of (K : PySem.W.Frag) : RT := fun ds st mu P => ∃ a : Oc, SmO a ∧ (∀ q, a = some q → q < 1 → Sm (1 - q)) ∧ ds = [encO a] ∧ st = none ∧ mu = [] ∧ P = Is (encO (orounds a))
theorem le_one {q : Rat} : (1 : Rat) ≤ q ↔ (q.den : Int) ≤ q.num := by
  rw [Rat.le_iff]
  simp
theorem one_sub {q : Rat} : 1 - q = mkRat ((q.den : Int) - q.num) q.den := by
  rw [Rat.sub_def']
  simp
theorem d_rounds_of (T : Tx K mg) (A : At K mg "rounds_of" s_rounds_of) (D_over : Def P w K mg base 3 "over" ["one", "other"] (R_over K)) (D_lowest : Def P w K mg base 2 "lowest" ["top", "bottom"] (R_lowest K)) : Def P w K mg base 4 "rounds_of" ["number"] (R_rounds_of K) := by
  obtain ⟨f, fd, F, hm⟩ := A.fn
  refine mk_def F hm (def_ok F sc_rounds_of (fun ds st mu PP h => ?_) (by decide) fun cdv A outer s H E hr ds st mu PP h => ?_) fun _ _ _ _ _ _ us hl => match us, hl with | [_], _ => rfl
  · obtain ⟨a, _, _, rfl, _⟩ := h
    rfl
  · obtain ⟨a, ha, ha1, rfl, rfl, rfl, rfl⟩ := h
    refine ⟨_, (pss_cons (ps_if (PW.pt (pw_or (pt_cmpR (k_eqD (K := K) (by rfl) hr.units) (pv 0) (pe_gstr T.ENDLESS (by rfl)) (nomark _)) (pw_or1 (pt_cmpR op_ge (pe_ix (k_ix (K := K) (by rfl)) (pv 0) pe_int (fun _ _ => rfl)) (pe_ix (k_ix (K := K) (by rfl)) (pv 0) pe_int (fun _ _ => rfl)) (nomark _))))) (pss_one (ps_ret (pe_gstr T.ENDLESS (by rfl)))) pss_nil)
        (pss_one (ps_ret (pe_callD D_over ⟨rfl, rfl, rfl, rfl, rfl⟩ (hr.mono (by decide)) (by rfl) (pa_cons (pe_tup (pa_cons pe_int (pa_cons pe_int pa_nil))) (pa_cons (pe_callD D_lowest ⟨rfl, rfl, rfl, rfl, rfl⟩ (hr.mono (by decide)) (by rfl) (pa_cons (pe_op op_sub (pe_ix (k_ix (K := K) (by rfl)) (pv 0) pe_int (fun _ _ => rfl)) (pe_ix (k_ix (K := K) (by rfl)) (pv 0) pe_int (fun _ _ => rfl))) (pa_cons (pe_ix (k_ix (K := K) (by rfl)) (pv 0) pe_int (fun _ _ => rfl)) pa_nil))) pa_nil)))))), ?_⟩
    (try dsimp only [cxOf, Cx.nox, Cx.wish])
    rcases a with _ | q
    · refine sj_seq (sj_ifd (b := true || true) (et_or (et_testd (ev_opd (by walk_at "u") (by walk_at "u") (ro_eqD (x := encO none) (y := .str "endless") (ok_encO none) (ok_encO none) (sh_encO none) (sh_encO none) (eqv_encO none none)))) fun e => by cases e) (fun _ => ?_) fun e => by cases e)
      refine sj_ret (EV.is (by walk_at "u") ?_)
      rfl
    · refine sj_seq (sj_ifd (b := false || decide ((q.den : Int) ≤ q.num)) (et_or (ET.is (et_testd (ev_opd (by walk_at "u") (by walk_at "u") (ro_eqD (x := encO (some q)) (y := .str "endless") (ok_encO (some q)) (ok_encO none) (sh_encO (some q)) (sh_encO none) (eqv_encO (some q) none)))) (by simp)) fun _ => by walk_at "u") (fun e => ?_) fun e => sj_next ?_)
      · have h1 : (1 : Rat) ≤ q := le_one.mpr (by simpa using e)
        refine sj_ret (EV.is (by walk_at "u") ?_)
        show _ = encO (if 1 ≤ q then none else some (1 / (1 - q)))
        rw [if_pos h1]
        rfl
      · have h1 : ¬ (1 : Rat) ≤ q := fun z => by
          have := le_one.mp z
          simp at e
          omega
        have h2 : q < 1 := Rat.not_le.mp h1
        have h3 : Sm (1 - q) := ha1 q rfl h2
        have h4 : 0 < 1 - q := by grind
        have eP : encO (orounds (some q)) = encQ (1 / (1 - q)) := by
          show encO (if 1 ≤ q then none else some (1 / (1 - q))) = _
          rw [if_neg h1]
          rfl
        rw [eP]
        refine sj_ret ?_
        walk_at "u"
        · exact r_lowest q.den_pos (B4_B9 ha.2)
        · rw [← one_sub]
          exact r_over h3 h4
theorem r_rounds_of {a : Oc} (ha : SmO a) (h1 : ∀ q, a = some q → q < 1 → Sm (1 - q)) : R_rounds_of K [encO a] none [] (Is (encO (orounds a))) := ⟨a, ha, h1, rfl, rfl, rfl, rfl⟩
end U
set_option maxHeartbeats 4000000
/-! F4: star_of and its mirror. -/
namespace U
open PySem PyProof.Rows L2 Evl RZ
local macro_rules | `(tactic| walk_at "u") => `(tactic| first
  | ((with_reducible apply ev_cT) <;> assumption)
  | with_reducible apply ev_c
  | ((with_reducible apply ev_var); rfl)
  | with_reducible apply ea_nil
  | ((with_reducible apply ea_cons) <;> (try walk_at "u"))
  | ((with_reducible apply ev_opd) <;> (try walk_at "u"))
  | with_reducible apply ro_I0
  | ((with_reducible apply ro_I) <;> (try walk_at "s"))
  | ((with_reducible apply ro_ix) <;> (try walk_at "s"))
  | ((with_reducible apply ro_eq); rfl)
  | ((with_reducible apply ro_ne); rfl)
  | ((with_reducible apply ev_un) <;> (try walk_at "u"))
  | ((with_reducible apply ev_tup) <;> (try walk_at "u"))
  | ((with_reducible apply ev_lst) <;> (try walk_at "u"))
  | ((with_reducible apply ev_cbd) <;> (try walk_at "u"))
  | ((with_reducible apply rc_len) <;> (try walk_at "s"))
  | with_reducible apply rc_abs
  | with_reducible apply rc_int
  | with_reducible apply rc_intb
  | ((with_reducible apply rc_list) <;> (try walk_at "s"))
  | ((with_reducible apply rc_tup) <;> (try walk_at "s"))
  | ((with_reducible apply rc_isi) <;> (try walk_at "s"))
  | ((with_reducible apply ev_call) <;> (try walk_at "u"))
  | ((with_reducible apply ev_and2) <;> (try walk_at "u"))
  | ((with_reducible apply ev_or2) <;> (try walk_at "u"))
  | ((with_reducible apply ev_notV) <;> (try walk_at "u"))
  | ((with_reducible apply ev_chain) <;> (try walk_at "u"))
  | ((with_reducible apply et_testd) <;> (try walk_at "u"))
  | ((with_reducible apply et_B) <;> (try walk_at "u"))
  | ((with_reducible apply et_and) <;> (try walk_at "u"))
  | ((with_reducible apply et_or) <;> (try walk_at "u"))
  | ((with_reducible apply et_not) <;> (try walk_at "u"))
  | ((with_reducible intro h_) <;> (try walk_at "u"))
  | exact len_ok rfl
  | decide)
local macro_rules | `(tactic| walk_at "s") => `(tactic| first
  | with_reducible assumption
  | exact SeqD.l
  | exact SeqD.t
  | exact seqB_l
  | exact seqB_t
  | with_reducible exact ok_encO _
  | with_reducible exact sh_encO _
  | with_reducible rfl
  | ((with_reducible refine Eq.trans ?_ rfl); rfl)
  | assumption
  | decide)
variable {P : Program} {w : World} {K : PySem.W.Frag} {mg : Str → Option Value} {base : Heap}
abbrev Mat := List (List Oc)
def encR (b : Bool) (r : List Oc) : D := mk b (r.map encO)
def encM (b : Bool) (W : Mat) : D := mk b (W.map (encR b))
def at2 (W : Mat) (i j : Nat) : Oc := (W.getD i []).getD j (some 0)
/-- one turn of star_of: the parts, and all of it -/
def kround (W : Mat) (m : Nat) : Oc := orounds (at2 W m m)
def kfirst (W : Mat) (m : Nat) : List Oc := W.map fun r => r.getD m (some 0)
def ksecond (W : Mat) (m : Nat) : List Oc := (W.getD m []).map (omul (kround W m))
def krow (share : Oc) (line second : List Oc) : List Oc := List.zipWith (fun number more => oadd number (omul share more)) line second
def kstep (W : Mat) (m : Nat) : Mat := List.zipWith (fun share line => krow share line (ksecond W m)) (kfirst W m) W
def kiter (W : Mat) : Nat → Mat
  | 0 => W
  | m + 1 => kstep (kiter W m) m
def kstar (W : Mat) : Mat := kiter W W.length
/-- square, n by n -/
def Sq (n : Nat) (W : Mat) : Prop := W.length = n ∧ ∀ r ∈ W, r.length = n
/-- what the walk asks of the sizes of numbers in one turn -/
structure StepOk (W : Mat) (m : Nat) : Prop where
  c : SmO (at2 W m m)
  c1 : ∀ q, at2 W m m = some q → q < 1 → Sm (1 - q)
  r : SmO (kround W m)
  a : ∀ row ∈ W, ∀ x ∈ row, SmO x
  s : ∀ x ∈ ksecond W m, SmO x
  p : ∀ f ∈ kfirst W m, ∀ x ∈ ksecond W m, SmO (omul f x)
def StarOk (W : Mat) : Prop := ∀ m, m < W.length → StepOk (kiter W m) m
theorem Sq.step {n m : Nat} {W : Mat} (h : Sq n W) (hm : m < n) : Sq n (kstep W m) := by
  obtain ⟨h1, h2⟩ := h
  have hs : (ksecond W m).length = n := by
    unfold ksecond
    rw [List.length_map]
    have e : W.getD m [] = W[m]'(by omega) := by simp [List.getD, show m < W.length by omega]
    rw [e]
    exact h2 _ (List.getElem_mem _)
  refine ⟨by simp [kstep, kfirst, h1], fun r hr => ?_⟩
  unfold kstep at hr
  obtain ⟨i, hi, e⟩ := List.mem_iff_getElem.mp hr
  rw [List.getElem_zipWith] at e
  rw [← e]
  unfold krow
  rw [List.length_zipWith, hs]
  have : (W[i]'(by simp at hi; omega)).length = n := h2 _ (List.getElem_mem _)
  omega
theorem Sq.iter {n : Nat} {W : Mat} (h : Sq n W) : ∀ m, m ≤ n → Sq n (kiter W m)
  | 0, _ => h
  | m + 1, hm => (Sq.iter h m (by omega)).step (by omega)
theorem at_row {W : Mat} {b : Bool} {m : Nat} (h : m < W.length) : atI (W.map (encR b)) (m : Int) = some (encR b (W.getD m [])) := by
  rw [atI_natE, List.getElem?_map]
  simp [List.getD, h]
theorem at_cell {r : List Oc} {m : Nat} (h : m < r.length) : atI (r.map encO) (m : Int) = some (encO (r.getD m (some 0))) := by
  rw [atI_natE, List.getElem?_map]
  simp [List.getD, h]
def R_star_of (K : PySem.W.Frag) : RT := fun ds st mu P => ∃ (b : Bool) (n : Nat) (W : Mat), n ≤ 100 ∧ Sq n W ∧ StarOk W ∧ ds = [encM b W] ∧ st = none ∧ mu = [] ∧ P = Is (encM false (kstar W))
theorem EA.isL {st : Stt} {mu : Mu} {ta : TA} {Γ : G} {ds es : List D} (h : EA K st mu ta Γ (Is ds)) (k : ds = es) : EA K st mu ta Γ (Is es) := k ▸ h
theorem StepOk.a' {W : Mat} {m i : Nat} {x : Oc} (h : StepOk W m) (hx : (kfirst W m)[i]? = some x) : SmO x := by
  unfold kfirst at hx
  rw [List.getElem?_map] at hx
  cases q : W[i]? with
  | none => rw [q] at hx; cases hx
  | some r =>
    rw [q] at hx
    have e : r.getD m (some 0) = x := Option.some.inj hx
    by_cases hm : m < r.length
    · refine h.a r (List.mem_of_getElem? q) x ?_
      rw [← e, show r.getD m (some 0) = r[m] by simp [List.getD, hm]]
      exact List.getElem_mem _
    · rw [← e, show r.getD m (some 0) = some 0 by simp [List.getD, List.getElem?_eq_none (show r.length ≤ m by omega)]]
      exact ⟨Nat.lt_trans Nat.zero_lt_one one_B4, one_B4⟩
local macro_rules | `(tactic| walk_at "s") => `(tactic| first | exact seqD_mk _ _ | (apply at_row; assumption) | (apply at_cell; assumption))
theorem d_star_of (T : Tx K mg) (A : At K mg "star_of" s_star_of) (D_rounds_of : Def P w K mg base 4 "rounds_of" ["number"] (R_rounds_of K)) (D_product_of : Def P w K mg base 4 "product_of" ["one", "other"] (R_product_of K)) (D_sum_of : Def P w K mg base 4 "sum_of" ["one", "other"] (R_sum_of K)) : Def P w K mg base 5 "star_of" ["rows"] (R_star_of K) := by
  obtain ⟨f, fd, F, hm⟩ := A.fn
  refine mk_def F hm (def_ok F sc_star_of (fun ds st mu PP h => ?_) (by decide) fun cdv A outer s H E hr ds st mu PP h => ?_) fun _ _ _ _ _ _ us hl => match us, hl with | [_], _ => rfl
  · obtain ⟨b, n, W, _, _, _, rfl, _⟩ := h
    rfl
  · obtain ⟨b, n, W, hn, hq, hok, rfl, rfl, rfl, rfl⟩ := h
    have hWn : W.length = n := hq.1
    refine ⟨_, (pss_cons (ps_setLc (i := 1) (own := [("row", 9)]) (by rfl) sc_star_of.nd rfl rfl (sw_true rfl rfl rfl (by decide +kernel)) (k_seq (K := K) (by rfl) (pv 0)) (blkOk_by (by kernel_rfl)) (fun _ _ _ _ _ => (pg_name (i := 9) sc_star_of.nd rfl (by first | exact Or.inl rfl | exact Or.inr rfl))) (fun _ _ _ _ _ => pts_nil) (fun _ _ _ _ _ => (pe_callTy (k_list (K := K) (by rfl)) (by rfl) T.list (by decide +kernel) (pa_cons (pv 9) pa_nil))))
        (pss_cons (ps_for PassesOwn.never (by rfl) (pi_range1 (by rfl) T.range (pa_cons (pe_callB (k_len (K := K) (by rfl)) (by rfl) T.len (by decide +kernel) (pa_cons (pv 0) pa_nil)) pa_nil)) (pg_name (i := 2) sc_star_of.nd rfl (by first | exact Or.inl rfl | exact Or.inr rfl)) (pss_cons (ps_set (i := 3) sc_star_of.nd rfl (Or.inr rfl) (pe_callD D_rounds_of ⟨rfl, rfl, rfl, rfl, rfl⟩ (hr.mono (by decide)) (by rfl) (pa_cons (pe_ix (k_ix (K := K) (by rfl)) (pe_ix (k_ix (K := K) (by rfl)) (pv 1) (pv 2) (fun _ _ => rfl)) (pv 2) (fun _ _ => rfl)) pa_nil)))
        (pss_cons (ps_setLc (i := 4) (own := [("row", 9)]) (by rfl) sc_star_of.nd rfl rfl (sw_true rfl rfl rfl (by decide +kernel)) (k_seq (K := K) (by rfl) (pv 1)) (blkOk_by (by kernel_rfl)) (fun _ _ _ _ _ => (pg_name (i := 9) sc_star_of.nd rfl (by first | exact Or.inl rfl | exact Or.inr rfl))) (fun _ _ _ _ _ => pts_nil) (fun _ _ _ _ _ => (pe_ix (k_ix (K := K) (by rfl)) (pv 9) (pv 2) (fun _ _ => rfl))))
        (pss_cons (ps_setLc (i := 5) (own := [("number", 10)]) (by rfl) sc_star_of.nd rfl rfl (sw_true rfl rfl rfl (by decide +kernel)) (k_seq (K := K) (by rfl) (pe_ix (k_ix (K := K) (by rfl)) (pv 1) (pv 2) (fun _ _ => rfl))) (blkOk_by (by kernel_rfl)) (fun _ _ _ _ _ => (pg_name (i := 10) sc_star_of.nd rfl (by first | exact Or.inl rfl | exact Or.inr rfl))) (fun _ _ _ _ _ => pts_nil) (fun _ _ _ _ _ => (pe_callD D_product_of ⟨rfl, rfl, rfl, rfl, rfl⟩ (hr.mono (by decide)) (by rfl) (pa_cons (pv 3) (pa_cons (pv 10) pa_nil)))))
        (pss_cons (ps_set (i := 6) sc_star_of.nd rfl (Or.inl rfl) (pe_lst pa_nil))
        (pss_cons (ps_for PassesOwn.never (by rfl) (k_zip (K := K) (by rfl) (by rfl) T.zip (pa_cons (pv 4) (pa_cons (pv 1) pa_nil))) (k_gtup (K := K) (n := 2) (by rfl) (by rfl) (pgs_cons (pg_name (i := 7) sc_star_of.nd rfl (by first | exact Or.inl rfl | exact Or.inr rfl)) (pgs_cons (pg_name (i := 8) sc_star_of.nd rfl (by first | exact Or.inl rfl | exact Or.inr rfl)) pgs_nil))) (pss_one (ps_expr (pe_bm PySem.F.plainAttrs_list PySem.F.slot_list_append PySem.F.type_list_append mt_append (pv 6) (pa_cons (pe_lc (own := [("number", 10), ("more", 11)]) (by rfl) sc_star_of.nd (k_zip (K := K) (by rfl) (by rfl) T.zip (pa_cons (pv 8) (pa_cons (pv 5) pa_nil))) (blkOk_by (by kernel_rfl)) (fun _ _ _ _ _ => (k_gtup (K := K) (n := 2) (by rfl) (by rfl) (pgs_cons (pg_name (i := 10) sc_star_of.nd rfl (by first | exact Or.inl rfl | exact Or.inr rfl)) (pgs_cons (pg_name (i := 11) sc_star_of.nd rfl (by first | exact Or.inl rfl | exact Or.inr rfl)) pgs_nil)))) (fun _ _ _ _ _ => pts_nil) (fun _ _ _ _ _ => (pe_callD D_sum_of ⟨rfl, rfl, rfl, rfl, rfl⟩ (hr.mono (by decide)) (by rfl) (pa_cons (pv 10) (pa_cons (pe_callD D_product_of ⟨rfl, rfl, rfl, rfl, rfl⟩ (hr.mono (by decide)) (by rfl) (pa_cons (pv 7) (pa_cons (pv 11) pa_nil))) pa_nil))))) pa_nil)))))
        (pss_one (ps_set (i := 1) sc_star_of.nd rfl (Or.inl rfl) (pv 6)))))))))
        (pss_one (ps_ret (pv 1))))), ?_⟩
    (try dsimp only [cxOf, Cx.nox, Cx.wish])
    refine sj_seq (sj_setd (ev_lct W (encR b) (encR false) b (by walk_at "u") (seqB_mk b _) (by simp) (by omega) fun i r hr => ?_) ?_)
    · walk_at "u"
      exact rc_list (seqD_mk b _)
    have eL : ∀ G0 : G, G0[0]? = some (some (encM b W)) → EA K none [] (tCons (tCB (cLen K) (tCons (tVar 0) tNil)) tNil) G0 (Is [.int (n : Int)]) := fun G0 h0 =>
      EA.isL (ea_cons (ev_cbd (ea_cons (ev_var h0) ea_nil) (rc_len (seqD_mk b _))) ea_nil) (by simp [hWn])
    refine sj_seq (sj_forr (n := n) (eL _ rfl) (by omega) (fun i Γ own => own = [] ∧ ∃ x2 x3 x4 x5 x6 x7 x8 : Option D, Γ = [some (encM b W), some (encM false (kiter W i)), x2, x3, x4, x5, x6, x7, x8, none, none, none]) ⟨rfl, none, none, none, none, none, none, none, rfl⟩ ?_ ?_)
    · rintro m Γ' own' hm ⟨rfl, x2, x3, x4, x5, x6, x7, x8, rfl⟩
      have hV : Sq n (kiter W m) := hq.iter m (by omega)
      have hs := hok m (by omega)
      generalize hVe : kiter W m = V at hV hs
      have hVl : V.length = n := hV.1
      have hmV : m < V.length := by omega
      have hrow : (V.getD m []).length = n := by
        rw [show V.getD m [] = V[m] by simp [List.getD, hmV]]
        exact hV.2 _ (List.getElem_mem _)
      have hmr : m < (V.getD m []).length := by omega
      refine sj_seq (sj_setd (d := encO (kround V m)) ?_ ?_)
      · walk_at "u"
        exact r_rounds_of hs.c hs.c1
      refine sj_seq (sj_setd (d := .lst ((kfirst V m).map encO)) (EV.is (ev_lct V (encR false) (fun r => encO (r.getD m (some 0))) false (by walk_at "u") (seqB_mk false _) (by simp) (by omega) fun i r hr => ?_) (by simp [kfirst])) ?_)
      · have hr' : m < r.length := by
          rw [hV.2 r (List.mem_of_getElem? hr)]
          exact hm
        walk_at "u"
      refine sj_seq (sj_setd (d := .lst ((ksecond V m).map encO)) (EV.is (ev_lct (V.getD m []) encO (fun x => encO (omul (kround V m) x)) false (by walk_at "u") (seqB_mk false _) (by simp) (by omega) fun i x hx => ?_) (by simp [ksecond])) ?_)
      · walk_at "u"
        refine r_product_of hs.r (hs.a _ ?_ _ (List.mem_of_getElem? hx))
        rw [show V.getD m [] = V[m] by simp [List.getD, hmV]]
        exact List.getElem_mem _
      refine sj_seq (sj_newl fun l => ?_)
      refine sj_seq (sj_forz (kfirst V m) V encO (encR false) false (by walk_at "u") seqB_l seqB_l (by simp [kfirst]) (fun i Γ own => ∃ x7 x8 : Option D, Γ = [some (encM b W), some (encM false V), some (.int (m : Nat)), some (encO (kround V m)), some (.lst ((kfirst V m).map encO)), some (.lst ((ksecond V m).map encO)), some (.raw (.ref l)), x7, x8, none, none, none] ∧
          own = [(l, ((kstep V m).take i).map (encR false))]) ⟨x7, x8, rfl, rfl⟩ ?_ ?_)
      · rintro i share line Γ' own' h1 h2 ⟨y7, y8, rfl, rfl⟩
        have hline : line.length = n := hV.2 line (List.mem_of_getElem? h2)
        refine sj_app (i := 6) (k := 0) (PV := Is (encR false (krow share line (ksecond V m)))) rfl rfl (EV.is (ev_lcz line (ksecond V m) encO encO (fun number more => encO (oadd number (omul share more))) false (by walk_at "u") (seqB_mk false _) seqB_l (by simp) (by simp) (by omega) fun k x y hx hy => ?_) ?_) ?_ ?_
        · walk_at "u"
          · exact r_product_of (hs.a' h1) (hs.s y (List.mem_of_getElem? hy))
          · exact r_sum_of (hs.a line (List.mem_of_getElem? h2) x (List.mem_of_getElem? hx)) (hs.p share (List.mem_of_getElem? h1) y (List.mem_of_getElem? hy))
        · show _ = D.lst ((krow share line (ksecond V m)).map encO)
          unfold krow
          rw [List.map_zipWith]
        · have := List.length_take_le i (kstep V m)
          have hk : (kstep V m).length = n := (hV.step hm).1
          simp
          omega
        · rintro d rfl
          refine ⟨some (encO share), some (encR false line), rfl, ?_⟩
          have hk : (kstep V m)[i]? = some (krow share line (ksecond V m)) := by
            unfold kstep
            rw [List.getElem?_zipWith, h1, h2]
          rw [List.take_succ, hk]
          simp
      · rintro Γ' own' ⟨y7, y8, rfl, rfl⟩
        have hk : ((kstep V m).take (kfirst V m).length) = kstep V m := by
          rw [List.take_of_length_le]
          simp [kstep, kfirst]
        refine sj_frz (k := 0) (i := 6) rfl rfl (sj_setd (by walk_at "u") ⟨rfl, some (.int (m : Nat)), some (encO (kround V m)), some (.lst ((kfirst V m).map encO)), some (.lst ((ksecond V m).map encO)), some (encM false (kstep V m)), y7, y8, ?_⟩)
        rw [hk]
        show _ = [some (encM b W), some (encM false (kstep (kiter W m) m)), _, _, _, _, _, _, _, none, none, none]
        rw [hVe]
        rfl
    · rintro Γ' own' ⟨rfl, x2, x3, x4, x5, x6, x7, x8, rfl⟩
      refine sj_ret (EV.is (by walk_at "u") ?_)
      unfold kstar
      rw [hWn]
theorem r_star_of {b : Bool} {n : Nat} {W : Mat} (hn : n ≤ 100) (hq : Sq n W) (hok : StarOk W) : R_star_of K [encM b W] none [] (Is (encM false (kstar W))) := ⟨b, n, W, hn, hq, hok, rfl, rfl, rfl, rfl⟩
end U
set_option maxHeartbeats 4000000
/-! F5: cell_of_product, source_of, rows_made, raw_outcomes. -/
namespace U
open PySem PyProof.Rows L2 Evl RZ
local macro_rules | `(tactic| walk_at "u") => `(tactic| first
  | ((with_reducible apply ev_cT) <;> assumption)
  | with_reducible apply ev_c
  | ((with_reducible apply ev_var); rfl)
  | with_reducible apply ea_nil
  | ((with_reducible apply ea_cons) <;> (try walk_at "u"))
  | ((with_reducible apply ev_opd) <;> (try walk_at "u"))
  | with_reducible apply ro_I0
  | ((with_reducible apply ro_I) <;> (try walk_at "s"))
  | ((with_reducible apply ro_ix) <;> (try walk_at "s"))
  | ((with_reducible apply ro_eq); rfl)
  | ((with_reducible apply ro_ne); rfl)
  | ((with_reducible apply ev_un) <;> (try walk_at "u"))
  | ((with_reducible apply ev_tup) <;> (try walk_at "u"))
  | ((with_reducible apply ev_lst) <;> (try walk_at "u"))
  | ((with_reducible apply ev_cbd) <;> (try walk_at "u"))
  | ((with_reducible apply rc_len) <;> (try walk_at "s"))
  | with_reducible apply rc_abs
  | with_reducible apply rc_int
  | with_reducible apply rc_intb
  | ((with_reducible apply rc_list) <;> (try walk_at "s"))
  | ((with_reducible apply rc_tup) <;> (try walk_at "s"))
  | ((with_reducible apply rc_isi) <;> (try walk_at "s"))
  | ((with_reducible apply ev_call) <;> (try walk_at "u"))
  | ((with_reducible apply ev_and2) <;> (try walk_at "u"))
  | ((with_reducible apply ev_or2) <;> (try walk_at "u"))
  | ((with_reducible apply ev_notV) <;> (try walk_at "u"))
  | ((with_reducible apply ev_chain) <;> (try walk_at "u"))
  | ((with_reducible apply et_testd) <;> (try walk_at "u"))
  | ((with_reducible apply et_B) <;> (try walk_at "u"))
  | ((with_reducible apply et_and) <;> (try walk_at "u"))
  | ((with_reducible apply et_or) <;> (try walk_at "u"))
  | ((with_reducible apply et_not) <;> (try walk_at "u"))
  | ((with_reducible intro h_) <;> (try walk_at "u"))
  | exact len_ok rfl
  | decide)
local macro_rules | `(tactic| walk_at "s") => `(tactic| first
  | with_reducible assumption
  | exact SeqD.l
  | exact SeqD.t
  | exact seqB_l
  | exact seqB_t
  | with_reducible exact ok_encO _
  | with_reducible exact sh_encO _
  | with_reducible rfl
  | ((with_reducible refine Eq.trans ?_ rfl); rfl)
  | assumption
  | decide)
local macro_rules | `(tactic| walk_at "s") => `(tactic| first | exact seqD_mk _ _ | (apply at_row; assumption) | (apply at_cell; assumption))
variable {P : Program} {w : World} {K : PySem.W.Frag} {mg : Str → Option Value} {base : Heap}
/-- row i of one times column j of the other, so many terms of it -/
def cpart (A B : Mat) (i j : Nat) : Nat → Oc
  | 0 => some 0
  | k + 1 => oadd (cpart A B i j k) (omul (at2 A i k) (at2 B k j))
def cprod (A B : Mat) (i j : Nat) : Oc := cpart A B i j B.length
structure CellOk (A B : Mat) (i j : Nat) : Prop where
  fi : i < A.length
  a : ∀ k, k < B.length → k < (A.getD i []).length
  b : ∀ r ∈ B, j < r.length
  x : ∀ k, k < B.length → SmO (at2 A i k)
  y : ∀ k, k < B.length → SmO (at2 B k j)
  p : ∀ k, k < B.length → SmO (omul (at2 A i k) (at2 B k j))
  s : ∀ k, k < B.length → SmO (cpart A B i j k)
def R_cell_of_product (K : PySem.W.Frag) : RT := fun ds st mu P => ∃ (b1 b2 : Bool) (A B : Mat) (i j : Nat), B.length ≤ 100 ∧ CellOk A B i j ∧ ds = [encM b1 A, encM b2 B, .int (i : Nat), .int (j : Nat)] ∧ st = none ∧ mu = [] ∧ P = Is (encO (cprod A B i j))
theorem d_cell_of_product (T : Tx K mg) (A : At K mg "cell_of_product" s_cell_of_product) (D_sum_of : Def P w K mg base 4 "sum_of" ["one", "other"] (R_sum_of K)) (D_product_of : Def P w K mg base 4 "product_of" ["one", "other"] (R_product_of K)) : Def P w K mg base 5 "cell_of_product" ["one", "other", "i", "j"] (R_cell_of_product K) := by
  obtain ⟨f, fd, F, hm⟩ := A.fn
  refine mk_def F hm (def_ok F sc_cell_of_product (fun ds st mu PP h => ?_) (by decide) fun cdv A outer s H E hr ds st mu PP h => ?_) fun _ _ _ _ _ _ us hl => match us, hl with | [_, _, _, _], _ => rfl
  · obtain ⟨b1, b2, A, B, i, j, _, _, rfl, _⟩ := h
    rfl
  · obtain ⟨b1, b2, A, B, i, j, hB, hok, rfl, rfl, rfl, rfl⟩ := h
    have hN := T.nought
    refine ⟨_, (pss_cons (ps_set (i := 4) sc_cell_of_product.nd rfl (Or.inl rfl) (pe_gref T.NOUGHT (by rfl)))
        (pss_cons (ps_for PassesOwn.never (by rfl) (k_enum (K := K) (by rfl) (by rfl) T.enumerate (pa_cons (pv 1) pa_nil)) (k_gtup (K := K) (n := 2) (by rfl) (by rfl) (pgs_cons (pg_name (i := 5) sc_cell_of_product.nd rfl (by first | exact Or.inl rfl | exact Or.inr rfl)) (pgs_cons (pg_name (i := 6) sc_cell_of_product.nd rfl (by first | exact Or.inl rfl | exact Or.inr rfl)) pgs_nil))) (pss_one (ps_set (i := 4) sc_cell_of_product.nd rfl (Or.inl rfl) (pe_callD D_sum_of ⟨rfl, rfl, rfl, rfl, rfl⟩ (hr.mono (by decide)) (by rfl) (pa_cons (pv 4) (pa_cons (pe_callD D_product_of ⟨rfl, rfl, rfl, rfl, rfl⟩ (hr.mono (by decide)) (by rfl) (pa_cons (pe_ix (k_ix (K := K) (by rfl)) (pe_ix (k_ix (K := K) (by rfl)) (pv 0) (pv 2) (fun _ _ => rfl)) (pv 5) (fun _ _ => rfl)) (pa_cons (pe_ix (k_ix (K := K) (by rfl)) (pv 6) (pv 3) (fun _ _ => rfl)) pa_nil))) pa_nil))))))
        (pss_one (ps_ret (pv 4))))), ?_⟩
    (try dsimp only [cxOf, Cx.nox, Cx.wish])
    refine sj_seq (sj_setd (by walk_at "u") ?_)
    refine sj_seq (sj_fore B (encR b2) b2 (by walk_at "u") (seqB_mk b2 _) (fun k Γ own => own = [] ∧ ∃ x5 x6 : Option D, Γ = [some (encM b1 A), some (encM b2 B), some (.int (i : Nat)), some (.int (j : Nat)), some (encO (cpart A B i j k)), x5, x6]) ⟨rfl, none, none, rfl⟩ ?_ ?_)
    · rintro k row Γ' own' hk ⟨rfl, x5, x6, rfl⟩
      have hk' : k < B.length := (List.getElem?_eq_some_iff.mp hk).1
      have hi := hok.fi
      have ha := hok.a k hk'
      have hb := hok.b row (List.mem_of_getElem? hk)
      have er : row.getD j (some 0) = at2 B k j := by
        unfold at2
        rw [show B.getD k [] = row by simp [List.getD, hk]]
      refine sj_setd (d := encO (cpart A B i j (k + 1))) ?_ ⟨rfl, some (.int (k : Nat)), some (encR b2 row), rfl⟩
      walk_at "u"
      · rw [er]
        exact r_product_of (hok.x k hk') (hok.y k hk')
      · rw [show cpart A B i j (k + 1) = oadd (cpart A B i j k) (omul (at2 A i k) (at2 B k j)) from rfl]
        exact r_sum_of (hok.s k hk') (hok.p k hk')
    · rintro Γ' own' ⟨rfl, x5, x6, rfl⟩
      refine sj_ret ?_
      walk_at "u"
theorem r_cell_of_product {b1 b2 : Bool} {A B : Mat} {i j : Nat} (h1 : B.length ≤ 100) (h2 : CellOk A B i j) : R_cell_of_product K [encM b1 A, encM b2 B, .int (i : Nat), .int (j : Nat)] none [] (Is (encO (cprod A B i j))) := ⟨b1, b2, A, B, i, j, h1, h2, rfl, rfl, rfl, rfl⟩
/-! ### steps -/
inductive Stp where
  | plus (a b : Nat)
  | times (a b : Nat)
  | turned (a : Nat)
  | beside (a b : Nat)
  | above (a b : Nat)
  | piece (a i j r c : Nat)
  | star (a : Nat)
  deriving DecidableEq
abbrev nD (n : Nat) : D := .int (n : Nat)
def encS : Stp → D
  | .plus a b => .tup [.str "plus", nD a, nD b]
  | .times a b => .tup [.str "times", nD a, nD b]
  | .turned a => .tup [.str "turned", nD a]
  | .beside a b => .tup [.str "beside", nD a, nD b]
  | .above a b => .tup [.str "above", nD a, nD b]
  | .piece a i j r c => .tup [.str "piece", nD a, nD i, nD j, nD r, nD c]
  | .star a => .tup [.str "star", nD a]
def wordS : Stp → Str
  | .plus _ _ => "plus"
  | .times _ _ => "times"
  | .turned _ => "turned"
  | .beside _ _ => "beside"
  | .above _ _ => "above"
  | .piece _ _ _ _ _ => "piece"
  | .star _ => "star"
abbrev Shp := Nat × Nat
def encSh (p : Shp) : D := .tup [nD p.1, nD p.2]
def shp (sh : List Shp) (a : Nat) : Shp := sh.getD a (0, 0)
/-- where a cell of a grid turned, cut or put together stands -/
def src (s : Stp) (sh : List Shp) (i j : Nat) : Nat × Nat × Nat := match s with
  | .turned a => (a, j, i)
  | .piece a i0 j0 _ _ => (a, i0 + i, j0 + j)
  | .beside a b => if j < (shp sh a).2 then (a, i, j) else (b, i, j - (shp sh a).2)
  | .above a b => if i < (shp sh a).1 then (a, i, j) else (b, i - (shp sh a).1, j)
  | _ => (0, 0, 0)
def isSrc : Stp → Bool
  | .turned _ => true
  | .piece _ _ _ _ _ => true
  | .beside _ _ => true
  | .above _ _ => true
  | _ => false
def parts : Stp → List Nat
  | .plus a b => [a, b]
  | .times a b => [a, b]
  | .turned a => [a]
  | .beside a b => [a, b]
  | .above a b => [a, b]
  | .piece a _ _ _ _ => [a]
  | .star a => [a]
def enc3 (t : Nat × Nat × Nat) : D := .tup [nD t.1, nD t.2.1, nD t.2.2]
theorem at_shp {sh : List Shp} {a : Nat} (h : a < sh.length) : atI (sh.map encSh) (a : Int) = some (encSh (shp sh a)) := by
  rw [atI_natE, List.getElem?_map]
  simp [shp, List.getD, h]
def R_source_of (K : PySem.W.Frag) : RT := fun ds st mu P => ∃ (s : Stp) (sh : List Shp) (i j : Nat), isSrc s = true ∧ (∀ a ∈ parts s, a < sh.length) ∧ ds = [encS s, .lst (sh.map encSh), nD i, nD j] ∧ st = none ∧ mu = [] ∧ P = Is (enc3 (src s sh i j))
theorem d_source_of (T : Tx K mg) (A : At K mg "source_of" s_source_of)  : Def P w K mg base 1 "source_of" ["step", "shapes", "i", "j"] (R_source_of K) := by
  obtain ⟨f, fd, F, hm⟩ := A.fn
  refine mk_def F hm (def_ok F sc_source_of (fun ds st mu PP h => ?_) (by decide) fun cdv A outer s H E hr ds st mu PP h => ?_) fun _ _ _ _ _ _ us hl => match us, hl with | [_, _, _, _], _ => rfl
  · obtain ⟨s, sh, i, j, _, _, rfl, _⟩ := h
    rfl
  · obtain ⟨st, sh, i, j, hs, hp, rfl, rfl, rfl, rfl⟩ := h
    refine ⟨_, (pss_cons (ps_set (i := 4) sc_source_of.nd rfl (Or.inl rfl) (pe_ix (k_ix (K := K) (by rfl)) (pv 0) pe_int (fun _ _ => rfl)))
        (pss_cons (ps_if (pt_cmpR op_eq (pv 4) pe_str (nomark _)) (pss_one (ps_ret (pe_tup (pa_cons (pe_ix (k_ix (K := K) (by rfl)) (pv 0) pe_int (fun _ _ => rfl)) (pa_cons (pv 3) (pa_cons (pv 2) pa_nil)))))) pss_nil)
        (pss_cons (ps_if (pt_cmpR op_eq (pv 4) pe_str (nomark _)) (pss_one (ps_ret (pe_tup (pa_cons (pe_ix (k_ix (K := K) (by rfl)) (pv 0) pe_int (fun _ _ => rfl)) (pa_cons (pe_op op_add (pe_ix (k_ix (K := K) (by rfl)) (pv 0) pe_int (fun _ _ => rfl)) (pv 2)) (pa_cons (pe_op op_add (pe_ix (k_ix (K := K) (by rfl)) (pv 0) pe_int (fun _ _ => rfl)) (pv 3)) pa_nil)))))) pss_nil)
        (pss_cons (ps_asg (pe_ix (k_ix (K := K) (by rfl)) (pv 1) (pe_ix (k_ix (K := K) (by rfl)) (pv 0) pe_int (fun _ _ => rfl)) (fun _ _ => rfl)) (k_gtup (K := K) (n := 2) (by rfl) (by rfl) (pgs_cons (pg_name (i := 5) sc_source_of.nd rfl (by first | exact Or.inl rfl | exact Or.inr rfl)) (pgs_cons (pg_name (i := 6) sc_source_of.nd rfl (by first | exact Or.inl rfl | exact Or.inr rfl)) pgs_nil))))
        (pss_cons (ps_if (pt_cmpR op_eq (pv 4) pe_str (nomark _)) (pss_one (ps_ret (pe_ifExp (pt_cmpR op_lt (pv 3) (pv 6) (nomark _)) (pe_tup (pa_cons (pe_ix (k_ix (K := K) (by rfl)) (pv 0) pe_int (fun _ _ => rfl)) (pa_cons (pv 2) (pa_cons (pv 3) pa_nil)))) (pe_tup (pa_cons (pe_ix (k_ix (K := K) (by rfl)) (pv 0) pe_int (fun _ _ => rfl)) (pa_cons (pv 2) (pa_cons (pe_op op_sub (pv 3) (pv 6)) pa_nil))))))) pss_nil)
        (pss_one (ps_ret (pe_ifExp (pt_cmpR op_lt (pv 2) (pv 5) (nomark _)) (pe_tup (pa_cons (pe_ix (k_ix (K := K) (by rfl)) (pv 0) pe_int (fun _ _ => rfl)) (pa_cons (pv 2) (pa_cons (pv 3) pa_nil)))) (pe_tup (pa_cons (pe_ix (k_ix (K := K) (by rfl)) (pv 0) pe_int (fun _ _ => rfl)) (pa_cons (pe_op op_sub (pv 2) (pv 5)) (pa_cons (pv 3) pa_nil)))))))))))), ?_⟩
    (try dsimp only [cxOf, Cx.nox, Cx.wish])
    cases st with
    | turned a =>
      refine sj_seq (sj_setd (by walk_at "u") ?_)
      refine sj_seq (sj_ifd (b := true) (ET.is (by walk_at "u") (by decide +kernel)) (fun _ => ?_) fun e => by cases e)
      refine sj_ret (EV.is (by walk_at "u") ?_)
      rfl
    | piece a i0 j0 r c =>
      refine sj_seq (sj_setd (by walk_at "u") ?_)
      refine sj_seq (sj_ifd (b := false) (ET.is (by walk_at "u") (by decide +kernel)) (fun e => by cases e) fun _ => sj_next ?_)
      refine sj_seq (sj_ifd (b := true) (ET.is (by walk_at "u") (by decide +kernel)) (fun _ => ?_) fun e => by cases e)
      refine sj_ret (EV.is (by walk_at "u") ?_)
      show D.tup [nD a, D.int ((i0 : Int) + i), D.int ((j0 : Int) + j)] = enc3 (a, i0 + i, j0 + j)
      simp [enc3]
    | beside a b =>
      have ha : a < sh.length := hp a (by simp [parts])
      refine sj_seq (sj_setd (by walk_at "u") ?_)
      refine sj_seq (sj_ifd (b := false) (ET.is (by walk_at "u") (by decide +kernel)) (fun e => by cases e) fun _ => sj_next ?_)
      refine sj_seq (sj_ifd (b := false) (ET.is (by walk_at "u") (by decide +kernel)) (fun e => by cases e) fun _ => sj_next ?_)
      refine sj_seq (sj_un2 (EV.imp (P := Is (encSh (shp sh a))) (by walk_at "u"; exact at_shp ha) fun d e => ⟨_, _, e, ?_⟩))
      refine sj_seq (sj_ifd (b := true) (ET.is (by walk_at "u") (by decide +kernel)) (fun _ => ?_) fun e => by cases e)
      refine sj_ret (ev_if (b := decide (j < (shp sh a).2)) (ET.is (by walk_at "u") (by simp)) (fun e => ?_) fun e => ?_)
      · refine EV.is (by walk_at "u") ?_
        have h1 : j < (shp sh a).2 := of_decide_eq_true e
        simp [src, h1, enc3]
      · refine EV.is (by walk_at "u") ?_
        have h1 : ¬ j < (shp sh a).2 := of_decide_eq_false e
        simp [src, h1, enc3]
        omega
    | above a b =>
      have ha : a < sh.length := hp a (by simp [parts])
      refine sj_seq (sj_setd (by walk_at "u") ?_)
      refine sj_seq (sj_ifd (b := false) (ET.is (by walk_at "u") (by decide +kernel)) (fun e => by cases e) fun _ => sj_next ?_)
      refine sj_seq (sj_ifd (b := false) (ET.is (by walk_at "u") (by decide +kernel)) (fun e => by cases e) fun _ => sj_next ?_)
      refine sj_seq (sj_un2 (EV.imp (P := Is (encSh (shp sh a))) (by walk_at "u"; exact at_shp ha) fun d e => ⟨_, _, e, ?_⟩))
      refine sj_seq (sj_ifd (b := false) (ET.is (by walk_at "u") (by decide +kernel)) (fun e => by cases e) fun _ => sj_next ?_)
      refine sj_ret (ev_if (b := decide (i < (shp sh a).1)) (ET.is (by walk_at "u") (by simp)) (fun e => ?_) fun e => ?_)
      · refine EV.is (by walk_at "u") ?_
        have h1 : i < (shp sh a).1 := of_decide_eq_true e
        simp [src, h1, enc3]
      · refine EV.is (by walk_at "u") ?_
        have h1 : ¬ i < (shp sh a).1 := of_decide_eq_false e
        simp [src, h1, enc3]
        omega
    | _ => cases hs
theorem r_source_of {s : Stp} {sh : List Shp} {i j : Nat} (h : isSrc s = true) (hp : ∀ a ∈ parts s, a < sh.length) : R_source_of K [encS s, .lst (sh.map encSh), nD i, nD j] none [] (Is (enc3 (src s sh i j))) := ⟨s, sh, i, j, h, hp, rfl, rfl, rfl, rfl⟩
end U
set_option maxHeartbeats 4000000
/-! F6: rows_made, raw_outcomes. -/
namespace U
open PySem PyProof.Rows L2 Evl RZ
local macro_rules | `(tactic| walk_at "u") => `(tactic| first
  | ((with_reducible apply ev_cT) <;> assumption)
  | with_reducible apply ev_c
  | ((with_reducible apply ev_var); rfl)
  | with_reducible apply ea_nil
  | ((with_reducible apply ea_cons) <;> (try walk_at "u"))
  | ((with_reducible apply ev_opd) <;> (try walk_at "u"))
  | with_reducible apply ro_I0
  | ((with_reducible apply ro_I) <;> (try walk_at "s"))
  | ((with_reducible apply ro_ix) <;> (try walk_at "s"))
  | ((with_reducible apply ro_eq); rfl)
  | ((with_reducible apply ro_ne); rfl)
  | ((with_reducible apply ev_un) <;> (try walk_at "u"))
  | ((with_reducible apply ev_tup) <;> (try walk_at "u"))
  | ((with_reducible apply ev_lst) <;> (try walk_at "u"))
  | ((with_reducible apply ev_cbd) <;> (try walk_at "u"))
  | ((with_reducible apply rc_len) <;> (try walk_at "s"))
  | with_reducible apply rc_abs
  | with_reducible apply rc_int
  | with_reducible apply rc_intb
  | ((with_reducible apply rc_list) <;> (try walk_at "s"))
  | ((with_reducible apply rc_tup) <;> (try walk_at "s"))
  | ((with_reducible apply rc_isi) <;> (try walk_at "s"))
  | ((with_reducible apply ev_call) <;> (try walk_at "u"))
  | ((with_reducible apply ev_and2) <;> (try walk_at "u"))
  | ((with_reducible apply ev_or2) <;> (try walk_at "u"))
  | ((with_reducible apply ev_notV) <;> (try walk_at "u"))
  | ((with_reducible apply ev_chain) <;> (try walk_at "u"))
  | ((with_reducible apply et_testd) <;> (try walk_at "u"))
  | ((with_reducible apply et_B) <;> (try walk_at "u"))
  | ((with_reducible apply et_and) <;> (try walk_at "u"))
  | ((with_reducible apply et_or) <;> (try walk_at "u"))
  | ((with_reducible apply et_not) <;> (try walk_at "u"))
  | ((with_reducible intro h_) <;> (try walk_at "u"))
  | exact len_ok rfl
  | decide)
local macro_rules | `(tactic| walk_at "s") => `(tactic| first
  | with_reducible assumption
  | exact SeqD.l
  | exact SeqD.t
  | exact seqB_l
  | exact seqB_t
  | with_reducible exact ok_encO _
  | with_reducible exact sh_encO _
  | with_reducible rfl
  | ((with_reducible refine Eq.trans ?_ rfl); rfl)
  | assumption
  | decide)
variable {P : Program} {w : World} {K : PySem.W.Frag} {mg : Str → Option Value} {base : Heap}
abbrev BMat := Bool × Mat
def encMM (p : BMat) : D := encM p.1 p.2
def mt (mats : List BMat) (a : Nat) : Mat := (mats.getD a (false, [])).2
def argsS : Stp → List Nat
  | .plus a b => [a, b]
  | .times a b => [a, b]
  | .turned a => [a]
  | .beside a b => [a, b]
  | .above a b => [a, b]
  | .piece a i j r c => [a, i, j, r, c]
  | .star a => [a]
theorem stp_items (s : Stp) : encS s = .tup (.str (wordS s) :: (argsS s).map nD) := by cases s <;> rfl
def cellIn (W : Mat) (i j : Nat) : Prop := i < W.length ∧ j < (W.getD i []).length
def cellMade (s : Stp) (sh : List Shp) (mats : List BMat) (i j : Nat) : Oc := match s with
  | .plus a b => oadd (at2 (mt mats a) i j) (at2 (mt mats b) i j)
  | .times a b => cprod (mt mats a) (mt mats b) i j
  | s => at2 (mt mats (src s sh i j).1) (src s sh i j).2.1 (src s sh i j).2.2
def rowsMade (s : Stp) (sh : List Shp) (made : Shp) (mats : List BMat) : Mat := match s with
  | .star a => kstar (mt mats a)
  | s => (List.range made.1).map fun i => (List.range made.2).map fun j => cellMade s sh mats i j
def CellsOk (s : Stp) (sh : List Shp) (mats : List BMat) (i j : Nat) : Prop := match s with
  | .plus a b => a < mats.length ∧ b < mats.length ∧ cellIn (mt mats a) i j ∧ cellIn (mt mats b) i j ∧ SmO (at2 (mt mats a) i j) ∧ SmO (at2 (mt mats b) i j)
  | .times a b => a < mats.length ∧ b < mats.length ∧ (mt mats b).length ≤ 100 ∧ CellOk (mt mats a) (mt mats b) i j
  | .star _ => False
  | s => (∀ a ∈ parts s, a < sh.length) ∧ (src s sh i j).1 < mats.length ∧ cellIn (mt mats (src s sh i j).1) (src s sh i j).2.1 (src s sh i j).2.2
def RowsOk (s : Stp) (sh : List Shp) (made : Shp) (mats : List BMat) : Prop := match s with
  | .star a => a < mats.length ∧ ∃ n, n ≤ 100 ∧ Sq n (mt mats a) ∧ StarOk (mt mats a)
  | s => made.1 ≤ 100 ∧ made.2 ≤ 100 ∧ ∀ i j, i < made.1 → j < made.2 → CellsOk s sh mats i j
theorem at_mat {mats : List BMat} {a : Nat} (h : a < mats.length) : atI (mats.map encMM) (a : Int) = some (encM (mats.getD a (false, [])).1 (mt mats a)) := by
  rw [atI_natE, List.getElem?_map]
  simp [mt, List.getD, h, encMM]
theorem at_rowC {W : Mat} {b : Bool} {i j : Nat} (h : cellIn W i j) : atI (W.map (encR b)) (i : Int) = some (encR b (W.getD i [])) := at_row h.1
theorem at_cellC {W : Mat} {i j : Nat} (h : cellIn W i j) : atI ((W.getD i []).map encO) (j : Int) = some (encO (at2 W i j)) := at_cell h.2
def isW (z : Str) : Stp → Bool
  | .plus _ _ => decide (("plus" : Str) = z)
  | .times _ _ => decide (("times" : Str) = z)
  | .turned _ => decide (("turned" : Str) = z)
  | .beside _ _ => decide (("beside" : Str) = z)
  | .above _ _ => decide (("above" : Str) = z)
  | .piece _ _ _ _ _ => decide (("piece" : Str) = z)
  | .star _ => decide (("star" : Str) = z)
theorem dec_word (s : Stp) (z : Str) : decide (V.str (wordS s) = V.str z) = isW z s := by
  have h : ∀ x : Str, decide (V.str x = V.str z) = decide (x = z) := fun x => by
    by_cases e : x = z
    · rw [decide_eq_true e, decide_eq_true (congrArg V.str e)]
    · rw [decide_eq_false e, decide_eq_false (fun q => e (V.str.inj q))]
  rw [h]
  cases s <;> rfl
theorem isW_ps (a b : Nat) : isW "plus" (.plus a b) = true := by show decide (("plus" : Str) = "plus") = true; decide +kernel
theorem isW_tp (a b : Nat) : isW "plus" (.times a b) = false := by show decide (("times" : Str) = "plus") = false; decide +kernel
theorem isW_tt (a b : Nat) : isW "times" (.times a b) = true := by show decide (("times" : Str) = "times") = true; decide +kernel
theorem isW_ss (a : Nat) : isW "star" (.star a) = true := by show decide (("star" : Str) = "star") = true; decide +kernel
theorem isW_srcP : ∀ s : Stp, isSrc s = true → isW "plus" s = false
  | .turned _, _ => by show decide (("turned" : Str) = "plus") = false; decide +kernel
  | .beside _ _, _ => by show decide (("beside" : Str) = "plus") = false; decide +kernel
  | .above _ _, _ => by show decide (("above" : Str) = "plus") = false; decide +kernel
  | .piece _ _ _ _ _, _ => by show decide (("piece" : Str) = "plus") = false; decide +kernel
theorem isW_srcT : ∀ s : Stp, isSrc s = true → isW "times" s = false
  | .turned _, _ => by show decide (("turned" : Str) = "times") = false; decide +kernel
  | .beside _ _, _ => by show decide (("beside" : Str) = "times") = false; decide +kernel
  | .above _ _, _ => by show decide (("above" : Str) = "times") = false; decide +kernel
  | .piece _ _ _ _ _, _ => by show decide (("piece" : Str) = "times") = false; decide +kernel
theorem isW_star : ∀ s : Stp, (¬ ∃ a, s = .star a) → isW "star" s = false
  | .plus _ _, _ => by show decide (("plus" : Str) = "star") = false; decide +kernel
  | .times _ _, _ => by show decide (("times" : Str) = "star") = false; decide +kernel
  | .turned _, _ => by show decide (("turned" : Str) = "star") = false; decide +kernel
  | .beside _ _, _ => by show decide (("beside" : Str) = "star") = false; decide +kernel
  | .above _ _, _ => by show decide (("above" : Str) = "star") = false; decide +kernel
  | .piece _ _ _ _ _, _ => by show decide (("piece" : Str) = "star") = false; decide +kernel
  | .star a, h => absurd ⟨a, rfl⟩ h
theorem at_head {α : Type} {x : α} {xs : List α} : atI (x :: xs) 0 = some x := by
  show atI (x :: xs) ((0 : Nat) : Int) = some x
  rw [atI_natE]
  rfl
theorem mem_last {a : Addr × List D} {own : Mu} : a ∈ [a] ++ own := by simp
local macro_rules | `(tactic| walk_at "s") => `(tactic| first | exact seqD_mk _ _ | exact at_head | (apply at_mat; assumption) | (apply at_rowC; assumption) | (apply at_cellC; assumption) | exact SeqD.m (List.mem_cons_self ..) | (apply at_row; assumption) | (apply at_cell; assumption))
/-- the instance of Script, as outcome reads it -/
structure Scr where
  sh : List Shp
  flags : D
  grids : List D
  steps : List Stp
def encScr (K : PySem.W.Frag) (s : Scr) : D := .ins (He.ga K "Script") [("kept_shapes", .lst (s.sh.map encSh)), ("kept_flags", s.flags), ("grids", .tup s.grids), ("steps", .tup (s.steps.map encS))]
def R_rows_made (K : PySem.W.Frag) : RT := fun ds st mu P => ∃ (sc : Scr) (s : Stp) (made : Shp) (l : Addr) (mats : List BMat), RowsOk s sc.sh made mats ∧ ds = [encScr K sc, encS s, encSh made, .raw (.ref l)] ∧ st = none ∧ mu = [(l, mats.map encMM)] ∧ P = Is (encM false (rowsMade s sc.sh made mats))
theorem d_rows_made (T : Tx K mg) (A : At K mg "rows_made" s_rows_made) (D_star_of : Def P w K mg base 5 "star_of" ["rows"] (R_star_of K)) (D_sum_of : Def P w K mg base 4 "sum_of" ["one", "other"] (R_sum_of K)) (D_source_of : Def P w K mg base 1 "source_of" ["step", "shapes", "i", "j"] (R_source_of K)) (D_cell_of_product : Def P w K mg base 5 "cell_of_product" ["one", "other", "i", "j"] (R_cell_of_product K)) : Def P w K mg base 6 "rows_made" ["script", "step", "made", "rows"] (R_rows_made K) := by
  obtain ⟨f, fd, F, hm⟩ := A.fn
  refine mk_def F hm (def_ok F sc_rows_made (fun ds st mu PP h => ?_) (by decide) fun cdv A outer s H E hr ds st mu PP h => ?_) fun _ _ _ _ _ _ us hl => match us, hl with | [_, _, _, _], _ => rfl
  · obtain ⟨sc, s, made, l, mats, _, rfl, _⟩ := h
    rfl
  · obtain ⟨sc, s, made, l, mats, hok, rfl, rfl, rfl, rfl⟩ := h
    refine ⟨_, (pss_cons (ps_if (pt_cmpR op_eq (pe_ix (k_ix (K := K) (by rfl)) (pv 1) pe_int (fun _ _ => rfl)) pe_str (nomark _)) (pss_one (ps_ret (pe_callD D_star_of ⟨rfl, rfl, rfl, rfl, rfl⟩ (hr.mono (by decide)) (by rfl) (pa_cons (pe_ix (k_ix (K := K) (by rfl)) (pv 3) (pe_ix (k_ix (K := K) (by rfl)) (pv 1) pe_int (fun _ _ => rfl)) (fun _ _ => rfl)) pa_nil)))) pss_nil)
        (pss_cons (ps_set (i := 4) sc_rows_made.nd rfl (Or.inl rfl) (pe_lst pa_nil))
        (pss_cons (ps_for PassesOwn.never (by rfl) (pi_range1 (by rfl) T.range (pa_cons (pe_ix (k_ix (K := K) (by rfl)) (pv 2) pe_int (fun _ _ => rfl)) pa_nil)) (pg_name (i := 5) sc_rows_made.nd rfl (by first | exact Or.inl rfl | exact Or.inr rfl)) (pss_cons (ps_set (i := 6) sc_rows_made.nd rfl (Or.inl rfl) (pe_lst pa_nil))
        (pss_cons (ps_for PassesOwn.never (by rfl) (pi_range1 (by rfl) T.range (pa_cons (pe_ix (k_ix (K := K) (by rfl)) (pv 2) pe_int (fun _ _ => rfl)) pa_nil)) (pg_name (i := 7) sc_rows_made.nd rfl (by first | exact Or.inl rfl | exact Or.inr rfl)) (pss_one (ps_if (pt_cmpR op_eq (pe_ix (k_ix (K := K) (by rfl)) (pv 1) pe_int (fun _ _ => rfl)) pe_str (nomark _)) (pss_one (ps_expr (pe_bm PySem.F.plainAttrs_list PySem.F.slot_list_append PySem.F.type_list_append mt_append (pv 6) (pa_cons (pe_callD D_sum_of ⟨rfl, rfl, rfl, rfl, rfl⟩ (hr.mono (by decide)) (by rfl) (pa_cons (pe_ix (k_ix (K := K) (by rfl)) (pe_ix (k_ix (K := K) (by rfl)) (pe_ix (k_ix (K := K) (by rfl)) (pv 3) (pe_ix (k_ix (K := K) (by rfl)) (pv 1) pe_int (fun _ _ => rfl)) (fun _ _ => rfl)) (pv 5) (fun _ _ => rfl)) (pv 7) (fun _ _ => rfl)) (pa_cons (pe_ix (k_ix (K := K) (by rfl)) (pe_ix (k_ix (K := K) (by rfl)) (pe_ix (k_ix (K := K) (by rfl)) (pv 3) (pe_ix (k_ix (K := K) (by rfl)) (pv 1) pe_int (fun _ _ => rfl)) (fun _ _ => rfl)) (pv 5) (fun _ _ => rfl)) (pv 7) (fun _ _ => rfl)) pa_nil))) pa_nil)))) (pss_one (ps_if (pt_cmpR op_eq (pe_ix (k_ix (K := K) (by rfl)) (pv 1) pe_int (fun _ _ => rfl)) pe_str (nomark _)) (pss_one (ps_expr (pe_bm PySem.F.plainAttrs_list PySem.F.slot_list_append PySem.F.type_list_append mt_append (pv 6) (pa_cons (pe_callD D_cell_of_product ⟨rfl, rfl, rfl, rfl, rfl⟩ (hr.mono (by decide)) (by rfl) (pa_cons (pe_ix (k_ix (K := K) (by rfl)) (pv 3) (pe_ix (k_ix (K := K) (by rfl)) (pv 1) pe_int (fun _ _ => rfl)) (fun _ _ => rfl)) (pa_cons (pe_ix (k_ix (K := K) (by rfl)) (pv 3) (pe_ix (k_ix (K := K) (by rfl)) (pv 1) pe_int (fun _ _ => rfl)) (fun _ _ => rfl)) (pa_cons (pv 5) (pa_cons (pv 7) pa_nil))))) pa_nil)))) (pss_cons (ps_asg (pe_callD D_source_of ⟨rfl, rfl, rfl, rfl, rfl⟩ (hr.mono (by decide)) (by rfl) (pa_cons (pv 1) (pa_cons (k_fld (K := K) (by rfl) (pv 0) rfl) (pa_cons (pv 5) (pa_cons (pv 7) pa_nil))))) (k_gtup (K := K) (n := 3) (by rfl) (by rfl) (pgs_cons (pg_name (i := 8) sc_rows_made.nd rfl (by first | exact Or.inl rfl | exact Or.inr rfl)) (pgs_cons (pg_name (i := 9) sc_rows_made.nd rfl (by first | exact Or.inl rfl | exact Or.inr rfl)) (pgs_cons (pg_name (i := 10) sc_rows_made.nd rfl (by first | exact Or.inl rfl | exact Or.inr rfl)) pgs_nil)))))
        (pss_one (ps_expr (pe_bm PySem.F.plainAttrs_list PySem.F.slot_list_append PySem.F.type_list_append mt_append (pv 6) (pa_cons (pe_ix (k_ix (K := K) (by rfl)) (pe_ix (k_ix (K := K) (by rfl)) (pe_ix (k_ix (K := K) (by rfl)) (pv 3) (pv 8) (fun _ _ => rfl)) (pv 9) (fun _ _ => rfl)) (pv 10) (fun _ _ => rfl)) pa_nil))))))))))
        (pss_one (ps_expr (pe_bm PySem.F.plainAttrs_list PySem.F.slot_list_append PySem.F.type_list_append mt_append (pv 4) (pa_cons (pv 6) pa_nil)))))))
        (pss_one (ps_ret (pv 4)))))), ?_⟩
    (try dsimp only [cxOf, Cx.nox, Cx.wish])
    rw [stp_items s]
    by_cases hs : ∃ a, s = .star a
    · obtain ⟨a, rfl⟩ := hs
      obtain ⟨ha, n, hn, hq, hso⟩ : a < mats.length ∧ ∃ n, n ≤ 100 ∧ Sq n (mt mats a) ∧ StarOk (mt mats a) := hok
      refine sj_seq (sj_ifd (b := true) (ET.is (by walk_at "u") ((dec_word _ _).trans (isW_ss a))) (fun _ => ?_) fun e => by cases e)
      refine sj_ret ?_
      walk_at "u"
      exact r_star_of hn hq hso
    · have hok' : made.1 ≤ 100 ∧ made.2 ≤ 100 ∧ ∀ i j, i < made.1 → j < made.2 → CellsOk s sc.sh mats i j := by
        cases s <;> first | exact hok | exact absurd ⟨_, rfl⟩ hs
      have hrow : rowsMade s sc.sh made mats = (List.range made.1).map fun i => (List.range made.2).map fun j => cellMade s sc.sh mats i j := by
        cases s <;> first | (exact absurd ⟨_, rfl⟩ hs) | rfl
      rw [hrow]
      obtain ⟨h1, h2, hc⟩ := hok'
      refine sj_seq (sj_ifd (b := false) (ET.is (by walk_at "u") ((dec_word s _).trans (isW_star s hs))) (fun e => by cases e) fun _ => sj_next ?_)
      refine sj_seq (sj_newl fun lf => ?_)
      refine sj_seq (sj_forr (n := made.1) (by walk_at "u") (by omega) (fun i Γ own => ∃ x5 x6 x7 x8 x9 x10 : Option D, Γ = [some (encScr K sc), some (.tup (.str (wordS s) :: (argsS s).map nD)), some (encSh made), some (.raw (.ref l)), some (.raw (.ref lf)), x5, x6, x7, x8, x9, x10] ∧
        own = [(lf, (List.range i).map fun i => .lst ((List.range made.2).map fun j => encO (cellMade s sc.sh mats i j)))]) ⟨none, none, none, none, none, none, rfl, rfl⟩ ?_ ?_)
      · rintro i Γ' own' hi ⟨x5, x6, x7, x8, x9, x10, rfl, rfl⟩
        refine sj_seq (sj_newl fun ll => ?_)
        refine sj_seq (sj_forr (n := made.2) (by walk_at "u") (by omega) (fun j Γ own => ∃ x7 x8 x9 x10 : Option D, Γ = [some (encScr K sc), some (.tup (.str (wordS s) :: (argsS s).map nD)), some (encSh made), some (.raw (.ref l)), some (.raw (.ref lf)), some (nD i), some (.raw (.ref ll)), x7, x8, x9, x10] ∧
          own = [(lf, (List.range i).map fun i => .lst ((List.range made.2).map fun j => encO (cellMade s sc.sh mats i j))), (ll, (List.range j).map fun j => encO (cellMade s sc.sh mats i j))]) ⟨x7, x8, x9, x10, rfl, rfl⟩ ?_ ?_)
        · rintro j Γ' own' hj ⟨x7, x8, x9, x10, rfl, rfl⟩
          have hcc := hc i j hi hj
          have app : ∀ (y8 y9 y10 : Option D), ∃ x7 x8 x9 x10 : Option D, ([some (encScr K sc), some (.tup (.str (wordS s) :: (argsS s).map nD)), some (encSh made), some (.raw (.ref l)), some (.raw (.ref lf)), some (nD i), some (.raw (.ref ll)), some (nD j), y8, y9, y10] : G) = [some (encScr K sc), some (.tup (.str (wordS s) :: (argsS s).map nD)), some (encSh made), some (.raw (.ref l)), some (.raw (.ref lf)), some (nD i), some (.raw (.ref ll)), x7, x8, x9, x10] ∧
              ([(lf, (List.range i).map fun i => .lst ((List.range made.2).map fun j => encO (cellMade s sc.sh mats i j))), (ll, (List.range j).map (fun j => encO (cellMade s sc.sh mats i j)) ++ [encO (cellMade s sc.sh mats i j)])] : Mu) = [(lf, (List.range i).map fun i => .lst ((List.range made.2).map fun j => encO (cellMade s sc.sh mats i j))), (ll, (List.range (j + 1)).map fun j => encO (cellMade s sc.sh mats i j))] := fun y8 y9 y10 =>
            ⟨some (nD j), y8, y9, y10, rfl, by rw [List.range_succ, List.map_append]; rfl⟩
          cases s with
          | plus a b =>
            obtain ⟨ha, hb, hca, hcb, hsa, hsb⟩ := hcc
            refine sj_ifd (b := true) (ET.is (by walk_at "u") ((dec_word _ _).trans (isW_ps a b))) (fun _ => ?_) fun e => by cases e
            refine sj_app (i := 6) (k := 1) (PV := Is (encO (cellMade (.plus a b) sc.sh mats i j))) rfl rfl ?_ (by simp; omega) (by rintro d rfl; exact app _ _ _)
            walk_at "u"
            exact r_sum_of hsa hsb
          | times a b =>
            obtain ⟨ha, hb, hl, hca⟩ := hcc
            refine sj_ifd (b := false) (ET.is (by walk_at "u") ((dec_word _ _).trans (isW_tp a b))) (fun e => by cases e) fun _ => ?_
            refine sj_ifd (b := true) (ET.is (by walk_at "u") ((dec_word _ _).trans (isW_tt a b))) (fun _ => ?_) fun e => by cases e
            refine sj_app (i := 6) (k := 1) (PV := Is (encO (cellMade (.times a b) sc.sh mats i j))) rfl rfl ?_ (by simp; omega) (by rintro d rfl; exact app _ _ _)
            walk_at "u"
            exact r_cell_of_product hl hca
          | star a => exact hcc.elim
          | _ =>
            obtain ⟨hp, hcl, hci⟩ := hcc
            refine sj_ifd (b := false) (ET.is (by walk_at "u") ((dec_word _ _).trans (isW_srcP _ rfl))) (fun e => by cases e) fun _ => ?_
            refine sj_ifd (b := false) (ET.is (by walk_at "u") ((dec_word _ _).trans (isW_srcT _ rfl))) (fun e => by cases e) fun _ => ?_
            refine sj_seq (sj_un3 (EV.imp (P := Is (enc3 (src _ sc.sh i j))) (ev_call (ea_cons (ev_var rfl) (ea_cons (ev_fld (ev_var rfl) T.scrC T.sK rfl) (ea_cons (ev_var rfl) (ea_cons (ev_var rfl) ea_nil)))) (r_source_of rfl hp)) fun d e => ⟨_, _, _, e, ?_⟩))
            refine sj_app (i := 6) (k := 1) (PV := Is (encO (cellMade _ sc.sh mats i j))) rfl rfl ?_ (by simp; omega) (by rintro d rfl; exact app _ _ _)
            walk_at "u"
        · rintro Γ' own' ⟨x7, x8, x9, x10, rfl, rfl⟩
          refine sj_frz (k := 1) (i := 6) rfl rfl (sj_app (i := 4) (k := 0) (PV := Is (.lst ((List.range made.2).map fun j => encO (cellMade s sc.sh mats i j)))) rfl rfl (ev_var rfl) (by simp; omega) ?_)
          rintro d rfl
          exact ⟨some (nD i), some _, x7, x8, x9, x10, rfl, by rw [List.range_succ, List.map_append]; rfl⟩
      · rintro Γ' own' ⟨x5, x6, x7, x8, x9, x10, rfl, rfl⟩
        refine sj_frz (k := 0) (i := 4) rfl rfl (sj_ret (EV.is (by walk_at "u") ?_))
        simp [encM, mk, encR, List.map_map, Function.comp_def]
theorem r_rows_made {sc : Scr} {s : Stp} {made : Shp} {l : Addr} {mats : List BMat} (h : RowsOk s sc.sh made mats) : R_rows_made K [encScr K sc, encS s, encSh made, .raw (.ref l)] none [(l, mats.map encMM)] (Is (encM false (rowsMade s sc.sh made mats))) := ⟨sc, s, made, l, mats, h, rfl, rfl, rfl, rfl⟩
end U
set_option maxHeartbeats 4000000
/-! F7: raw_outcomes, what is asked of values, outcome. -/
namespace U
open PySem PyProof.Rows L2 Evl RZ
local macro_rules | `(tactic| walk_at "u") => `(tactic| first
  | ((with_reducible apply ev_cT) <;> assumption)
  | with_reducible apply ev_c
  | ((with_reducible apply ev_var); rfl)
  | with_reducible apply ea_nil
  | ((with_reducible apply ea_cons) <;> (try walk_at "u"))
  | ((with_reducible apply ev_opd) <;> (try walk_at "u"))
  | with_reducible apply ro_I0
  | ((with_reducible apply ro_I) <;> (try walk_at "s"))
  | ((with_reducible apply ro_ix) <;> (try walk_at "s"))
  | ((with_reducible apply ro_eq); rfl)
  | ((with_reducible apply ro_ne); rfl)
  | ((with_reducible apply ev_un) <;> (try walk_at "u"))
  | ((with_reducible apply ev_tup) <;> (try walk_at "u"))
  | ((with_reducible apply ev_lst) <;> (try walk_at "u"))
  | ((with_reducible apply ev_cbd) <;> (try walk_at "u"))
  | ((with_reducible apply rc_len) <;> (try walk_at "s"))
  | with_reducible apply rc_abs
  | with_reducible apply rc_int
  | with_reducible apply rc_intb
  | ((with_reducible apply rc_list) <;> (try walk_at "s"))
  | ((with_reducible apply rc_tup) <;> (try walk_at "s"))
  | ((with_reducible apply rc_isi) <;> (try walk_at "s"))
  | ((with_reducible apply ev_call) <;> (try walk_at "u"))
  | ((with_reducible apply ev_and2) <;> (try walk_at "u"))
  | ((with_reducible apply ev_or2) <;> (try walk_at "u"))
  | ((with_reducible apply ev_notV) <;> (try walk_at "u"))
  | ((with_reducible apply ev_chain) <;> (try walk_at "u"))
  | ((with_reducible apply et_testd) <;> (try walk_at "u"))
  | ((with_reducible apply et_B) <;> (try walk_at "u"))
  | ((with_reducible apply et_and) <;> (try walk_at "u"))
  | ((with_reducible apply et_or) <;> (try walk_at "u"))
  | ((with_reducible apply et_not) <;> (try walk_at "u"))
  | ((with_reducible intro h_) <;> (try walk_at "u"))
  | exact len_ok rfl
  | decide)
local macro_rules | `(tactic| walk_at "s") => `(tactic| first
  | with_reducible assumption
  | exact SeqD.l
  | exact SeqD.t
  | exact seqB_l
  | exact seqB_t
  | with_reducible exact ok_encO _
  | with_reducible exact sh_encO _
  | with_reducible rfl
  | ((with_reducible refine Eq.trans ?_ rfl); rfl)
  | assumption
  | decide)
local macro_rules | `(tactic| walk_at "s") => `(tactic| first | exact seqD_mk _ _ | exact at_head)
variable {P : Program} {w : World} {K : PySem.W.Frag} {mg : Str → Option Value} {base : Heap}
/-- the grids behind k steps -/
def evs (ng : Nat) (sh : List Shp) (steps : List Stp) (vals : List BMat) : Nat → List BMat
  | 0 => vals
  | k + 1 => match steps[k]? with
    | some s => evs ng sh steps vals k ++ [(false, rowsMade s sh (shp sh (ng + k)) (evs ng sh steps vals k))]
    | none => evs ng sh steps vals k
theorem evs_succ {ng : Nat} {sh : List Shp} {steps : List Stp} {vals : List BMat} {k : Nat} {s : Stp} (h : steps[k]? = some s) :
    evs ng sh steps vals (k + 1) = evs ng sh steps vals k ++ [(false, rowsMade s sh (shp sh (ng + k)) (evs ng sh steps vals k))] := by
  show (match steps[k]? with | some s => _ | none => _) = _
  rw [h]
theorem evs_len {ng : Nat} {sh : List Shp} {steps : List Stp} {vals : List BMat} (h : vals.length = ng) : ∀ k, k ≤ steps.length → (evs ng sh steps vals k).length = ng + k
  | 0, _ => h
  | k + 1, hk => by
    have e : steps[k]? = some (steps[k]'(by omega)) := List.getElem?_eq_getElem (by omega)
    rw [evs_succ e, List.length_append, evs_len h k (by omega)]
    rfl
def RunOk (sh : List Shp) (steps : List Stp) (vals : List BMat) (last : Nat) : Prop :=
  ∀ k s, steps[k]? = some s → vals.length + k ≤ last → RowsOk s sh (shp sh (vals.length + k)) (evs vals.length sh steps vals k)
def R_raw_outcomes (K : PySem.W.Frag) : RT := fun ds st mu P => ∃ (sc : Scr) (vals : List BMat) (last : Nat), vals.length ≤ 100 ∧ sc.steps.length ≤ 100 ∧ sc.grids.length = vals.length ∧ sc.sh.length = vals.length + sc.steps.length ∧ RunOk sc.sh sc.steps vals last ∧
  ds = [encScr K sc, .tup (vals.map encMM), nD last] ∧ st = none ∧ mu = [] ∧ P = Is (.lst ((evs vals.length sc.sh sc.steps vals (min sc.steps.length (last + 1 - vals.length))).map encMM))
theorem d_raw_outcomes (T : Tx K mg) (A : At K mg "raw_outcomes" s_raw_outcomes) (D_rows_made : Def P w K mg base 6 "rows_made" ["script", "step", "made", "rows"] (R_rows_made K)) : Def P w K mg base 7 "raw_outcomes" ["script", "values", "last"] (R_raw_outcomes K) := by
  obtain ⟨f, fd, F, hm⟩ := A.fn
  refine mk_def F hm (def_ok F sc_raw_outcomes (fun ds st mu PP h => ?_) (by decide) fun cdv A outer s H E hr ds st mu PP h => ?_) fun _ _ _ _ _ _ us hl => match us, hl with | [_, _, _], _ => rfl
  · obtain ⟨sc, vals, last, _, _, _, _, _, rfl, _⟩ := h
    rfl
  · obtain ⟨sc, vals, last, hv, hs, hg, hsh, hok, rfl, rfl, rfl, rfl⟩ := h
    refine ⟨_, (pss_cons (ps_set (i := 3) sc_raw_outcomes.nd rfl (Or.inl rfl) (pe_callTy (k_list (K := K) (by rfl)) (by rfl) T.list (by decide +kernel) (pa_cons (pv 1) pa_nil)))
        (pss_cons (ps_for PassesOwn.never (by rfl) (k_enum (K := K) (by rfl) (by rfl) T.enumerate (pa_cons (k_fld (K := K) (by rfl) (pv 0) rfl) pa_nil)) (k_gtup (K := K) (n := 2) (by rfl) (by rfl) (pgs_cons (pg_name (i := 4) sc_raw_outcomes.nd rfl (by first | exact Or.inl rfl | exact Or.inr rfl)) (pgs_cons (pg_name (i := 5) sc_raw_outcomes.nd rfl (by first | exact Or.inl rfl | exact Or.inr rfl)) pgs_nil))) (pss_cons (ps_set (i := 6) sc_raw_outcomes.nd rfl (Or.inl rfl) (pe_op op_add (pe_callB (k_len (K := K) (by rfl)) (by rfl) T.len (by decide +kernel) (pa_cons (k_fld (K := K) (by rfl) (pv 0) rfl) pa_nil)) (pv 4)))
        (pss_one (ps_if (pt_cmpR op_le (pv 6) (pv 2) (nomark _)) (pss_one (ps_expr (pe_bm PySem.F.plainAttrs_list PySem.F.slot_list_append PySem.F.type_list_append mt_append (pv 3) (pa_cons (pe_callD D_rows_made ⟨rfl, rfl, rfl, rfl, rfl⟩ (hr.mono (by decide)) (by rfl) (pa_cons (pv 0) (pa_cons (pv 5) (pa_cons (pe_ix (k_ix (K := K) (by rfl)) (k_fld (K := K) (by rfl) (pv 0) rfl) (pv 6) (fun _ _ => rfl)) (pa_cons (pv 3) pa_nil))))) pa_nil)))) pss_nil))))
        (pss_one (ps_ret (pv 3))))), ?_⟩
    (try dsimp only [cxOf, Cx.nox, Cx.wish])
    refine sj_seq (sj_lstl (by walk_at "u") SeqD.t fun lf => ?_)
    refine sj_seq (sj_fore sc.steps encS true (ea_cons (ev_fld (ev_var rfl) T.scrC T.sS rfl) ea_nil) seqB_t (fun i Γ own => ∃ x4 x5 x6 : Option D, Γ = [some (encScr K sc), some (.tup (vals.map encMM)), some (nD last), some (.raw (.ref lf)), x4, x5, x6] ∧
      own = [(lf, (evs vals.length sc.sh sc.steps vals (min i (last + 1 - vals.length))).map encMM)]) ⟨none, none, none, rfl, by rw [Nat.zero_min]; rfl⟩ ?_ ?_)
    · rintro i s Γ' own' hi ⟨x4, x5, x6, rfl, rfl⟩
      have hil : i < sc.steps.length := (List.getElem?_eq_some_iff.mp hi).1
      refine sj_seq (sj_setd (d := nD (vals.length + i)) (EV.is (ev_opd (ev_cbd (ea_cons (ev_fld (ev_var rfl) T.scrC T.sG rfl) ea_nil) (rc_len SeqD.t)) (ev_var rfl) ro_I0) (by rw [hg]; simp)) ?_)
      refine sj_ifd (b := decide (vals.length + i ≤ last)) (ET.is (by walk_at "u") (by simp; omega)) (fun e => ?_) fun e => sj_next ?_
      · have hle : vals.length + i ≤ last := of_decide_eq_true e
        have e1 : min i (last + 1 - vals.length) = i := by omega
        have e2 : min (i + 1) (last + 1 - vals.length) = i + 1 := by omega
        have hat : vals.length + i < sc.sh.length := by omega
        rw [e1]
        have hll : (evs vals.length sc.sh sc.steps vals i).length = vals.length + i := evs_len rfl i (by omega)
        refine sj_app (i := 3) (k := 0) (PV := Is (encMM (false, rowsMade s sc.sh (shp sc.sh (vals.length + i)) (evs vals.length sc.sh sc.steps vals i)))) rfl rfl
          (ev_callM [(lf, (evs vals.length sc.sh sc.steps vals i).map encMM)] (ea_cons (ev_var rfl) (ea_cons (ev_var rfl) (ea_cons (ev_opd (ev_fld (ev_var rfl) T.scrC T.sK rfl) (ev_var rfl) (ro_ix SeqD.l (at_shp hat))) (ea_cons (ev_var rfl) ea_nil)))) (fun p hp => hp) (r_rows_made (hok i s hi hle))) (by rw [List.length_map, hll]; omega) ?_
        rintro d rfl
        refine ⟨some (nD i), some (encS s), some (nD (vals.length + i)), rfl, ?_⟩
        rw [e2, evs_succ hi, List.map_append]
        rfl
      · have hle : ¬ vals.length + i ≤ last := of_decide_eq_false e
        have e1 : min i (last + 1 - vals.length) = min (i + 1) (last + 1 - vals.length) := by omega
        exact ⟨some (nD i), some (encS s), some (nD (vals.length + i)), rfl, by rw [e1]⟩
    · rintro Γ' own' ⟨x4, x5, x6, rfl, rfl⟩
      exact sj_frz (k := 0) (i := 3) rfl rfl (sj_ret (by walk_at "u"))
/-! ### what is asked of values -/
def R_is_fraction (K : PySem.W.Frag) : RT := fun ds st mu P => ∃ q : Rat, ds = [encQ q] ∧ st = none ∧ mu = [] ∧ P = Is (.bl true)
theorem d_is_fraction (T : Tx K mg) (A : At K mg "is_fraction" s_is_fraction) (D_is_integer : Def P w K mg base 1 "is_integer" ["thing"] (R_is_integer K)) (D_divisor : Def P w K mg base 1 "divisor" ["one", "other"] (R_divisor K)) : Def P w K mg base 2 "is_fraction" ["thing"] (R_is_fraction K) := by
  obtain ⟨f, fd, F, hm⟩ := A.fn
  refine mk_def F hm (def_ok F sc_is_fraction (fun ds st mu PP h => ?_) (by decide) fun cdv A outer s H E hr ds st mu PP h => ?_) fun _ _ _ _ _ _ us hl => match us, hl with | [_], _ => rfl
  · obtain ⟨q, rfl, _⟩ := h
    rfl
  · obtain ⟨q, rfl, rfl, rfl, rfl⟩ := h
    refine ⟨_, (pss_cons (ps_if (PW.pt (pw_or (pt_not (pt_val (pe_callB (k_isi (K := K) (by rfl)) (by rfl) T.isinstance (by decide +kernel) (pa_cons (pv 0) (pa_cons (pe_bltn (v := .ty "tuple") (by rfl) T.tuple (by decide +kernel) rfl) pa_nil))))) (pw_or (pt_cmpR op_ne (pe_callB (k_len (K := K) (by rfl)) (by rfl) T.len (by decide +kernel) (pa_cons (pv 0) pa_nil)) pe_int (nomark _)) (pw_or (pt_not (pt_val (pe_callD D_is_integer ⟨rfl, rfl, rfl, rfl, rfl⟩ (hr.mono (by decide)) (by rfl) (pa_cons (pe_ix (k_ix (K := K) (by rfl)) (pv 0) pe_int (fun _ _ => rfl)) pa_nil)))) (pw_or1 (pt_not (pt_val (pe_callD D_is_integer ⟨rfl, rfl, rfl, rfl, rfl⟩ (hr.mono (by decide)) (by rfl) (pa_cons (pe_ix (k_ix (K := K) (by rfl)) (pv 0) pe_int (fun _ _ => rfl)) pa_nil))))))))) (pss_one (ps_ret pe_bl)) pss_nil)
        (pss_one (ps_ret (pe_and (pe_cmpR op_ge (pe_ix (k_ix (K := K) (by rfl)) (pv 0) pe_int (fun _ _ => rfl)) pe_int (nomark _)) (pe_one (pe_cmpR op_eq (pe_callD D_divisor ⟨rfl, rfl, rfl, rfl, rfl⟩ (hr.mono (by decide)) (by rfl) (pa_cons (pe_ix (k_ix (K := K) (by rfl)) (pv 0) pe_int (fun _ _ => rfl)) (pa_cons (pe_ix (k_ix (K := K) (by rfl)) (pv 0) pe_int (fun _ _ => rfl)) pa_nil))) pe_int (nomark _))))))), ?_⟩
    (try dsimp only [cxOf, Cx.nox, Cx.wish])
    have hg : Int.gcd q.num (q.den : Nat) = 1 := q.reduced
    have hd : (1 : Int) ≤ (q.den : Nat) := by have := q.den_pos; omega
    refine sj_seq (sj_ifd (b := false) (ET.is (by walk_at "u" <;> exact r_is_integer) (by simp)) (fun e => ?_) fun e => sj_next ?_)
    · simp at e
    · refine sj_ret (EV.is (d := .bl (decide ((1 : Int) ≤ (q.den : Nat)) && decide (V.int (Int.gcd q.num (q.den : Nat) : Nat) = V.int 1))) (by walk_at "u"; exact r_divisor) ?_)
      rw [decide_eq_true hd, hg]
      rfl
theorem r_is_fraction {q : Rat} : R_is_fraction K [encQ q] none [] (Is (.bl true)) := ⟨q, rfl, rfl, rfl, rfl⟩
def R_are_rows (K : PySem.W.Frag) : RT := fun ds st mu P => ∃ (rs : List (List D)) (n : Nat), rs.length ≤ 100 ∧ (∀ r ∈ rs, r.length = n) ∧ ds = [.tup (rs.map .tup), nD rs.length, nD n] ∧ st = none ∧ mu = [] ∧ P = Is (.bl true)
theorem d_are_rows (T : Tx K mg) (A : At K mg "are_rows" s_are_rows)  : Def P w K mg base 1 "are_rows" ["thing", "rows", "columns"] (R_are_rows K) := by
  obtain ⟨f, fd, F, hm⟩ := A.fn
  refine mk_def F hm (def_ok F sc_are_rows (fun ds st mu PP h => ?_) (by decide) fun cdv A outer s H E hr ds st mu PP h => ?_) fun _ _ _ _ _ _ us hl => match us, hl with | [_, _, _], _ => rfl
  · obtain ⟨rs, n, _, _, rfl, _⟩ := h
    rfl
  · obtain ⟨rs, n, hl, hr, rfl, rfl, rfl, rfl⟩ := h
    refine ⟨_, (pss_cons (ps_if (PW.pt (pw_or (pt_not (pt_val (pe_callB (k_isi (K := K) (by rfl)) (by rfl) T.isinstance (by decide +kernel) (pa_cons (pv 0) (pa_cons (pe_bltn (v := .ty "tuple") (by rfl) T.tuple (by decide +kernel) rfl) pa_nil))))) (pw_or1 (pt_cmpR op_ne (pe_callB (k_len (K := K) (by rfl)) (by rfl) T.len (by decide +kernel) (pa_cons (pv 0) pa_nil)) (pv 1) (nomark _))))) (pss_one (ps_ret pe_bl)) pss_nil)
        (pss_one (ps_ret (pe_callB (k_all (K := K) (by rfl) rfl) (by rfl) T.all (by decide +kernel) (pa_cons (pe_lc (own := [("row", 3)]) (by rfl) sc_are_rows.nd (k_seq (K := K) (by rfl) (pv 0)) (blkOk_by (by kernel_rfl)) (fun _ _ _ _ _ => (pg_name (i := 3) sc_are_rows.nd rfl (by first | exact Or.inl rfl | exact Or.inr rfl))) (fun _ _ _ _ _ => pts_nil) (fun _ _ _ _ _ => (pe_and (pe_callB (k_isi (K := K) (by rfl)) (by rfl) T.isinstance (by decide +kernel) (pa_cons (pv 3) (pa_cons (pe_bltn (v := .ty "tuple") (by rfl) T.tuple (by decide +kernel) rfl) pa_nil))) (pe_one (pe_cmpR op_eq (pe_callB (k_len (K := K) (by rfl)) (by rfl) T.len (by decide +kernel) (pa_cons (pv 3) pa_nil)) (pv 2) (nomark _)))))) pa_nil))))), ?_⟩
    (try dsimp only [cxOf, Cx.nox, Cx.wish])
    refine sj_seq (sj_ifd (b := false) (ET.is (by walk_at "u") (by simp)) (fun e => ?_) fun e => sj_next ?_)
    · simp at e
    · refine sj_ret (EV.is (d := .bl ((rs.map fun _ => true).all id)) (ev_cbd (ea_cons (EV.is (ev_lct rs .tup (fun _ => .bl true) true (by walk_at "u") seqB_t (by simp) (by omega) fun i r hi => ?_) (by simp)) ea_nil) rc_all) (by simp))
      refine EV.is (d := .bl (true && decide (V.int (r.length : Nat) = V.int (n : Nat)))) (by walk_at "u") ?_
      rw [hr r (List.mem_of_getElem? hi)]
      simp
theorem r_are_rows {rs : List (List D)} {n : Nat} (h1 : rs.length ≤ 100) (h2 : ∀ r ∈ rs, r.length = n) : R_are_rows K [.tup (rs.map .tup), nD rs.length, nD n] none [] (Is (.bl true)) := ⟨rs, n, h1, h2, rfl, rfl, rfl, rfl⟩
end U
set_option maxHeartbeats 4000000
/-! F8: fits, are_numbers, are_values, check_values, check_at, outcome. -/
namespace U
open PySem PyProof.Rows L2 Evl RZ
def rawNon : D → Bool
  | .raw v => decide (v = .non)
  | _ => false
theorem ev_notN {K : PySem.W.Frag} {st : Stt} {mu : Mu} {Γ : G} {te : TE} {d : D} {b : Bool} (h : EV K st mu te Γ (Is d)) (hb : (!rawNon d) = b) : EV K st mu (tNotN te) Γ (Is (.bl b)) := fun σ H0 H i s m n Q q =>
  h σ H0 H i s m n _ fun v x H1 H2 g s1 e r => by
    subst e
    have e : (!decide (v = .non)) = b := by
      rw [← hb]
      cases r <;> rfl
    rw [e]
    exact q _ _ H1 H2 g s1 rfl (.raw _)
theorem ev_isN {K : PySem.W.Frag} {st : Stt} {mu : Mu} {Γ : G} {te : TE} {d : D} {b : Bool} (h : EV K st mu te Γ (Is d)) (hb : rawNon d = b) : EV K st mu (tIsN te) Γ (Is (.bl b)) := fun σ H0 H i s m n Q q =>
  h σ H0 H i s m n _ fun v x H1 H2 g s1 e r => by
    subst e
    have e : (decide (v = .non)) = b := by
      rw [← hb]
      cases r <;> rfl
    rw [e]
    exact q _ _ H1 H2 g s1 rfl (.raw _)
local macro_rules | `(tactic| walk_at "u") => `(tactic| first
  | ((with_reducible apply ev_cT) <;> assumption)
  | with_reducible apply ev_c
  | ((with_reducible apply ev_var); rfl)
  | with_reducible apply ea_nil
  | ((with_reducible apply ea_cons) <;> (try walk_at "u"))
  | ((with_reducible apply ev_opd) <;> (try walk_at "u"))
  | with_reducible apply ro_I0
  | ((with_reducible apply ro_I) <;> (try walk_at "s"))
  | ((with_reducible apply ro_ix) <;> (try walk_at "s"))
  | ((with_reducible apply ro_eq); rfl)
  | ((with_reducible apply ro_ne); rfl)
  | ((with_reducible apply ev_un) <;> (try walk_at "u"))
  | ((with_reducible apply ev_tup) <;> (try walk_at "u"))
  | ((with_reducible apply ev_lst) <;> (try walk_at "u"))
  | ((with_reducible apply ev_cbd) <;> (try walk_at "u"))
  | ((with_reducible apply rc_len) <;> (try walk_at "s"))
  | with_reducible apply rc_abs
  | with_reducible apply rc_int
  | with_reducible apply rc_intb
  | ((with_reducible apply rc_list) <;> (try walk_at "s"))
  | ((with_reducible apply rc_tup) <;> (try walk_at "s"))
  | ((with_reducible apply rc_isi) <;> (try walk_at "s"))
  | ((with_reducible apply ev_call) <;> (try walk_at "u"))
  | ((with_reducible apply ev_and2) <;> (try walk_at "u"))
  | ((with_reducible apply ev_or2) <;> (try walk_at "u"))
  | ((with_reducible apply ev_notV) <;> (try walk_at "u"))
  | ((with_reducible apply ev_chain) <;> (try walk_at "u"))
  | ((with_reducible apply et_testd) <;> (try walk_at "u"))
  | ((with_reducible apply et_B) <;> (try walk_at "u"))
  | ((with_reducible apply et_and) <;> (try walk_at "u"))
  | ((with_reducible apply et_or) <;> (try walk_at "u"))
  | ((with_reducible apply et_not) <;> (try walk_at "u"))
  | ((with_reducible intro h_) <;> (try walk_at "u"))
  | exact len_ok rfl
  | decide)
local macro_rules | `(tactic| walk_at "s") => `(tactic| first
  | with_reducible assumption
  | exact SeqD.l
  | exact SeqD.t
  | exact seqB_l
  | exact seqB_t
  | with_reducible exact ok_encO _
  | with_reducible exact sh_encO _
  | with_reducible rfl
  | ((with_reducible refine Eq.trans ?_ rfl); rfl)
  | assumption
  | decide)
local macro_rules | `(tactic| walk_at "s") => `(tactic| first | exact seqD_mk _ _ | exact at_head)
variable {P : Program} {w : World} {K : PySem.W.Frag} {mg : Str → Option Value} {base : Heap}
abbrev Cell := Option (List Rat)
def encC : Cell → D
  | none => .non
  | some u => .tup (u.map encQ)
structure Grd where
  bases : Nat
  rows : List (List Cell)
def encG (K : PySem.W.Frag) (g : Grd) : D := .ins (He.ga K "Grid") [("bases", nD g.bases), ("rows", .tup (g.rows.map fun r => .tup (r.map encC)))]
/-- numbers for a grid that are above 0 where it isn't nought -/
def ValOk (c : Cell) (q : Rat) : Prop := 0 ≤ q ∧ (c = none → q = 0) ∧ (c ≠ none → 0 < q)
def encV (v : List (List Rat)) : Mat := v.map fun r => r.map some
structure ValsOk (g : Grd) (v : List (List Rat)) : Prop where
  few : v.length ≤ 100
  some_ : v ≠ []
  len : g.rows.length = v.length
  wide : ∃ n, n ≤ 100 ∧ (∀ r ∈ g.rows, r.length = n) ∧ ∀ r ∈ v, r.length = n
  ok : ∀ (i j : Nat) (r : List Cell) (s : List Rat) (c : Cell) (q : Rat), g.rows[i]? = some r → v[i]? = some s → r[j]? = some c → s[j]? = some q → ValOk c q
def R_fits (K : PySem.W.Frag) : RT := fun ds st mu P => ∃ (c : Cell) (q : Rat), ValOk c q ∧ ds = [encC c, encQ q] ∧ st = none ∧ mu = [] ∧ P = Is (.bl true)
theorem encC_not (c : Cell) : (!rawNon (encC c)) = c.isSome := by cases c <;> rfl
theorem encC_is (c : Cell) : rawNon (encC c) = c.isNone := by cases c <;> rfl
theorem d_fits (T : Tx K mg) (A : At K mg "fits" s_fits) (D_is_fraction : Def P w K mg base 2 "is_fraction" ["thing"] (R_is_fraction K)) : Def P w K mg base 3 "fits" ["item", "number"] (R_fits K) := by
  obtain ⟨f, fd, F, hm⟩ := A.fn
  refine mk_def F hm (def_ok F sc_fits (fun ds st mu PP h => ?_) (by decide) fun cdv A outer s H E hr ds st mu PP h => ?_) fun _ _ _ _ _ _ us hl => match us, hl with | [_, _], _ => rfl
  · obtain ⟨c, q, _, rfl, _⟩ := h
    rfl
  · obtain ⟨c, q, hq, rfl, rfl, rfl, rfl⟩ := h
    refine ⟨_, (pss_one (ps_ret (pe_and (pe_callD D_is_fraction ⟨rfl, rfl, rfl, rfl, rfl⟩ (hr.mono (by decide)) (by rfl) (pa_cons (pv 1) pa_nil)) (pe_one (pe_or (pe_cmp (pc_notN (pv 0)) rfl) (pe_one (pe_cmpR (k_eqD (K := K) (by rfl) hr.units) (pv 1) (pe_tup (pa_cons pe_int (pa_cons pe_int pa_nil))) (nomark _)))))))), ?_⟩
    (try dsimp only [cxOf, Cx.nox, Cx.wish])
    refine sj_ret (EV.is (d := .bl (true && (c.isSome || decide (some q = some 0)))) (ev_and2 (by walk_at "u"; exact r_is_fraction) fun _ => ev_or2 (ev_notN (ev_var rfl) (encC_not c)) fun _ => ?_) ?_)
    · exact ev_opd (ev_var rfl) (EV.is (d := .tup [.int 0, .int 1]) (by walk_at "u") rfl) (ro_eqD (x := encO (some q)) (y := encO (some 0)) (ok_encO _) (ok_encO _) (sh_encO _) (sh_encO _) (eqv_encO (some q) (some 0)))
    · cases c with
      | none => rw [hq.2.1 rfl]; rfl
      | some u => rfl
theorem r_fits {c : Cell} {q : Rat} (h : ValOk c q) : R_fits K [encC c, encQ q] none [] (Is (.bl true)) := ⟨c, q, h, rfl, rfl, rfl, rfl⟩
def encVt (v : List (List Rat)) : D := .tup (v.map fun r => .tup (r.map encQ))
theorem encVt_eq (v : List (List Rat)) : encVt v = encM true (encV v) := by
  simp [encVt, encM, mk, encV, encR, List.map_map, Function.comp_def]
  intro r _ q _
  rfl
def R_are_numbers (K : PySem.W.Frag) : RT := fun ds st mu P => ∃ (g : Grd) (v : List (List Rat)), ValsOk g v ∧ ds = [encG K g, encVt v] ∧ st = none ∧ mu = [] ∧ P = Is (.bl true)
theorem d_are_numbers (T : Tx K mg) (A : At K mg "are_numbers" s_are_numbers) (D_are_rows : Def P w K mg base 1 "are_rows" ["thing", "rows", "columns"] (R_are_rows K)) (D_fits : Def P w K mg base 3 "fits" ["item", "number"] (R_fits K)) : Def P w K mg base 4 "are_numbers" ["grid", "thing"] (R_are_numbers K) := by
  obtain ⟨f, fd, F, hm⟩ := A.fn
  refine mk_def F hm (def_ok F sc_are_numbers (fun ds st mu PP h => ?_) (by decide) fun cdv A outer s H E hr ds st mu PP h => ?_) fun _ _ _ _ _ _ us hl => match us, hl with | [_, _], _ => rfl
  · obtain ⟨g, v, _, rfl, _⟩ := h
    rfl
  · obtain ⟨g, v, hv, rfl, rfl, rfl, rfl⟩ := h
    obtain ⟨n, hn, hgn, hvn⟩ := hv.wide
    refine ⟨_, (pss_cons (ps_if (pt_not (pt_val (pe_callD D_are_rows ⟨rfl, rfl, rfl, rfl, rfl⟩ (hr.mono (by decide)) (by rfl) (pa_cons (pv 1) (pa_cons (pe_callB (k_len (K := K) (by rfl)) (by rfl) T.len (by decide +kernel) (pa_cons (k_fld (K := K) (by rfl) (pv 0) rfl) pa_nil)) (pa_cons (pe_callB (k_len (K := K) (by rfl)) (by rfl) T.len (by decide +kernel) (pa_cons (pe_ix (k_ix (K := K) (by rfl)) (k_fld (K := K) (by rfl) (pv 0) rfl) pe_int (fun _ _ => rfl)) pa_nil)) pa_nil)))))) (pss_one (ps_ret pe_bl)) pss_nil)
        (pss_cons (ps_for PassesOwn.never (by rfl) (k_zip (K := K) (by rfl) (by rfl) T.zip (pa_cons (k_fld (K := K) (by rfl) (pv 0) rfl) (pa_cons (pv 1) pa_nil))) (k_gtup (K := K) (n := 2) (by rfl) (by rfl) (pgs_cons (pg_name (i := 2) sc_are_numbers.nd rfl (by first | exact Or.inl rfl | exact Or.inr rfl)) (pgs_cons (pg_name (i := 3) sc_are_numbers.nd rfl (by first | exact Or.inl rfl | exact Or.inr rfl)) pgs_nil))) (pss_one (ps_if (pt_not (pt_val (pe_callB (k_all (K := K) (by rfl) rfl) (by rfl) T.all (by decide +kernel) (pa_cons (pe_lc (own := [("item", 4), ("number", 5)]) (by rfl) sc_are_numbers.nd (k_zip (K := K) (by rfl) (by rfl) T.zip (pa_cons (pv 2) (pa_cons (pv 3) pa_nil))) (blkOk_by (by kernel_rfl)) (fun _ _ _ _ _ => (k_gtup (K := K) (n := 2) (by rfl) (by rfl) (pgs_cons (pg_name (i := 4) sc_are_numbers.nd rfl (by first | exact Or.inl rfl | exact Or.inr rfl)) (pgs_cons (pg_name (i := 5) sc_are_numbers.nd rfl (by first | exact Or.inl rfl | exact Or.inr rfl)) pgs_nil)))) (fun _ _ _ _ _ => pts_nil) (fun _ _ _ _ _ => (pe_callD D_fits ⟨rfl, rfl, rfl, rfl, rfl⟩ (hr.mono (by decide)) (by rfl) (pa_cons (pv 4) (pa_cons (pv 5) pa_nil))))) pa_nil)))) (pss_one (ps_ret pe_bl)) pss_nil)))
        (pss_one (ps_ret pe_bl)))), ?_⟩
    (try dsimp only [cxOf, Cx.nox, Cx.wish])
    have rowsE : ∀ G0 : G, G0[0]? = some (some (encG K g)) → EV K none [] (tFld K (tVar 0) "rows") G0 (Is (.tup (g.rows.map fun r => .tup (r.map encC)))) := fun G0 h0 => ev_fld (ev_var h0) T.gridC T.gR rfl
    obtain ⟨r0, hr0⟩ : ∃ r0, g.rows[0]? = some r0 := by
      have : 0 < g.rows.length := by
        rw [hv.len]
        exact List.length_pos_iff.mpr hv.some_
      exact ⟨g.rows[0], List.getElem?_eq_getElem this⟩
    have hr0n : r0.length = n := hgn r0 (List.mem_of_getElem? hr0)
    refine sj_seq (sj_ifd (b := !true) (et_not (et_B (ev_call (ds := [.tup ((v.map fun r => r.map encQ).map .tup), nD (v.map fun r => r.map encQ).length, nD n]) (ea_cons (EV.is (ev_var rfl) (by simp [encVt, Function.comp_def])) (ea_cons (EV.is (ev_cbd (ea_cons (rowsE _ rfl) ea_nil) (rc_len SeqD.t)) (by simp [hv.len])) (ea_cons (EV.is (ev_cbd (ea_cons (ev_opd (rowsE _ rfl) ev_c (ro_ix (e := .tup (r0.map encC)) SeqD.t ?_)) ea_nil) (rc_len SeqD.t)) (by simp [hr0n])) ea_nil))) (r_are_rows (by simp [hv.few]) ?_)))) (fun e => by cases e) fun _ => sj_next ?_)
    · show atI _ ((0 : Nat) : Int) = _
      rw [atI_natE, List.getElem?_map, hr0]
      rfl
    · intro r hr
      obtain ⟨s, hs, rfl⟩ := List.mem_map.mp hr
      rw [List.length_map]
      exact hvn s hs
    refine sj_seq (sj_forz g.rows v (fun r => .tup (r.map encC)) (fun r => .tup (r.map encQ)) true (ea_cons (rowsE _ rfl) (ea_cons (ev_var rfl) ea_nil)) seqB_t seqB_t hv.len (fun i Γ own => own = [] ∧ ∃ x2 x3 : Option D, Γ = [some (encG K g), some (encVt v), x2, x3, none, none]) ⟨rfl, none, none, rfl⟩ ?_ ?_)
    · rintro i r s Γ' own' hr hs ⟨rfl, x2, x3, rfl⟩
      have hrn := hgn r (List.mem_of_getElem? hr)
      refine sj_ifd (b := !true) (et_not (et_B (EV.is (d := .bl ((r.map fun _ => true).all id)) (ev_cbd (ea_cons (EV.is (ev_lcz r s encC encQ (fun _ _ => .bl true) true (by walk_at "u") seqB_t seqB_t (by simp) (by simp) (by omega) fun k c q hc hq => ?_) ?_) ea_nil) rc_all) (by simp)))) (fun e => by cases e) fun _ => sj_next ⟨rfl, _, _, rfl⟩
      · walk_at "u"
        exact r_fits (hv.ok i k r s c q hr hs hc hq)
      · have hsn := hvn s (List.mem_of_getElem? hs)
        congr 1
        apply List.ext_getElem?
        intro k
        rw [List.getElem?_zipWith, List.getElem?_map, List.getElem?_map]
        by_cases hk : k < n
        · rw [List.getElem?_eq_getElem (show k < r.length by omega), List.getElem?_eq_getElem (show k < s.length by omega)]
          rfl
        · rw [List.getElem?_eq_none (show r.length ≤ k by omega)]
          rfl
    · rintro Γ' own' ⟨rfl, x2, x3, rfl⟩
      refine sj_ret ?_
      walk_at "u"
theorem r_are_numbers {g : Grd} {v : List (List Rat)} (h : ValsOk g v) : R_are_numbers K [encG K g, encVt v] none [] (Is (.bl true)) := ⟨g, v, h, rfl, rfl, rfl, rfl⟩
def R_are_values (K : PySem.W.Frag) : RT := fun ds st mu P => ∃ (g : Grd) (v : List (List Rat)), ValsOk g v ∧ ds = [encG K g, encVt v] ∧ st = none ∧ mu = [] ∧ P = Is (.bl true)
theorem d_are_values (T : Tx K mg) (A : At K mg "are_values" s_are_values) (D_are_numbers : Def P w K mg base 4 "are_numbers" ["grid", "thing"] (R_are_numbers K)) : Def P w K mg base 5 "are_values" ["grid", "thing"] (R_are_values K) := by
  obtain ⟨f, fd, F, hm⟩ := A.fn
  refine mk_def F hm (def_ok F sc_are_values (fun ds st mu PP h => ?_) (by decide) fun cdv A outer s H E hr ds st mu PP h => ?_) fun _ _ _ _ _ _ us hl => match us, hl with | [_, _], _ => rfl
  · obtain ⟨g, v, _, rfl, _⟩ := h
    rfl
  · obtain ⟨g, v, hv, rfl, rfl, rfl, rfl⟩ := h
    obtain ⟨n, hn, hgn, hvn⟩ := hv.wide
    refine ⟨_, (pss_cons (ps_if (pt_not (pt_val (pe_callD D_are_numbers ⟨rfl, rfl, rfl, rfl, rfl⟩ (hr.mono (by decide)) (by rfl) (pa_cons (pv 0) (pa_cons (pv 1) pa_nil))))) (pss_one (ps_ret pe_bl)) pss_nil)
        (pss_cons (ps_for PassesOwn.never (by rfl) (k_zip (K := K) (by rfl) (by rfl) T.zip (pa_cons (k_fld (K := K) (by rfl) (pv 0) rfl) (pa_cons (pv 1) pa_nil))) (k_gtup (K := K) (n := 2) (by rfl) (by rfl) (pgs_cons (pg_name (i := 2) sc_are_values.nd rfl (by first | exact Or.inl rfl | exact Or.inr rfl)) (pgs_cons (pg_name (i := 3) sc_are_values.nd rfl (by first | exact Or.inl rfl | exact Or.inr rfl)) pgs_nil))) (pss_one (ps_if (pt_not (pt_val (pe_callB (k_all (K := K) (by rfl) rfl) (by rfl) T.all (by decide +kernel) (pa_cons (pe_lc (own := [("item", 4), ("number", 5)]) (by rfl) sc_are_values.nd (k_zip (K := K) (by rfl) (by rfl) T.zip (pa_cons (pv 2) (pa_cons (pv 3) pa_nil))) (blkOk_by (by kernel_rfl)) (fun _ _ _ _ _ => (k_gtup (K := K) (n := 2) (by rfl) (by rfl) (pgs_cons (pg_name (i := 4) sc_are_values.nd rfl (by first | exact Or.inl rfl | exact Or.inr rfl)) (pgs_cons (pg_name (i := 5) sc_are_values.nd rfl (by first | exact Or.inl rfl | exact Or.inr rfl)) pgs_nil)))) (fun _ _ _ _ _ => pts_nil) (fun _ _ _ _ _ => (pe_or (pe_cmp (pc_isN (pv 4)) rfl) (pe_one (pe_cmpR op_gt (pe_ix (k_ix (K := K) (by rfl)) (pv 5) pe_int (fun _ _ => rfl)) pe_int (nomark _)))))) pa_nil)))) (pss_one (ps_ret pe_bl)) pss_nil)))
        (pss_one (ps_ret pe_bl)))), ?_⟩
    (try dsimp only [cxOf, Cx.nox, Cx.wish])
    have rowsE : ∀ G0 : G, G0[0]? = some (some (encG K g)) → EV K none [] (tFld K (tVar 0) "rows") G0 (Is (.tup (g.rows.map fun r => .tup (r.map encC)))) := fun G0 h0 => ev_fld (ev_var h0) T.gridC T.gR rfl
    refine sj_seq (sj_ifd (b := !true) (et_not (et_B (ev_call (ea_cons (ev_var rfl) (ea_cons (ev_var rfl) ea_nil)) (r_are_numbers hv)))) (fun e => by cases e) fun _ => sj_next ?_)
    refine sj_seq (sj_forz g.rows v (fun r => .tup (r.map encC)) (fun r => .tup (r.map encQ)) true (ea_cons (rowsE _ rfl) (ea_cons (ev_var rfl) ea_nil)) seqB_t seqB_t hv.len (fun i Γ own => own = [] ∧ ∃ x2 x3 : Option D, Γ = [some (encG K g), some (encVt v), x2, x3, none, none]) ⟨rfl, none, none, rfl⟩ ?_ ?_)
    · rintro i r s Γ' own' hr hs ⟨rfl, x2, x3, rfl⟩
      have hrn := hgn r (List.mem_of_getElem? hr)
      refine sj_ifd (b := !true) (et_not (et_B (EV.is (d := .bl ((r.map fun _ => true).all id)) (ev_cbd (ea_cons (EV.is (ev_lcz r s encC encQ (fun _ _ => .bl true) true (by walk_at "u") seqB_t seqB_t (by simp) (by simp) (by omega) fun k c q hc hq => ?_) ?_) ea_nil) rc_all) (by simp)))) (fun e => by cases e) fun _ => sj_next ⟨rfl, _, _, rfl⟩
      · have hok := hv.ok i k r s c q hr hs hc hq
        refine EV.is (d := .bl (c.isNone || decide (0 < q.num))) (ev_or2 (ev_isN (ev_var rfl) (encC_is c)) fun _ => ?_) ?_
        · walk_at "u"
        · cases c with
          | none => rfl
          | some u =>
            have h1 : 0 < q.num := num_pos (hok.2.2 (by simp))
            simp [h1]
      · have hsn := hvn s (List.mem_of_getElem? hs)
        congr 1
        apply List.ext_getElem?
        intro k
        rw [List.getElem?_zipWith, List.getElem?_map, List.getElem?_map]
        by_cases hk : k < n
        · rw [List.getElem?_eq_getElem (show k < r.length by omega), List.getElem?_eq_getElem (show k < s.length by omega)]
          rfl
        · rw [List.getElem?_eq_none (show r.length ≤ k by omega)]
          rfl
    · rintro Γ' own' ⟨rfl, x2, x3, rfl⟩
      refine sj_ret ?_
      walk_at "u"
theorem r_are_values {g : Grd} {v : List (List Rat)} (h : ValsOk g v) : R_are_values K [encG K g, encVt v] none [] (Is (.bl true)) := ⟨g, v, h, rfl, rfl, rfl, rfl⟩
end U
set_option maxHeartbeats 4000000
/-! F9: check_values, check_at, outcome. -/
namespace U
open PySem PyProof.Rows L2 Evl RZ
local macro_rules | `(tactic| walk_at "u") => `(tactic| first
  | ((with_reducible apply ev_cT) <;> assumption)
  | with_reducible apply ev_c
  | ((with_reducible apply ev_var); rfl)
  | with_reducible apply ea_nil
  | ((with_reducible apply ea_cons) <;> (try walk_at "u"))
  | ((with_reducible apply ev_opd) <;> (try walk_at "u"))
  | with_reducible apply ro_I0
  | ((with_reducible apply ro_I) <;> (try walk_at "s"))
  | ((with_reducible apply ro_ix) <;> (try walk_at "s"))
  | ((with_reducible apply ro_eq); rfl)
  | ((with_reducible apply ro_ne); rfl)
  | ((with_reducible apply ev_un) <;> (try walk_at "u"))
  | ((with_reducible apply ev_tup) <;> (try walk_at "u"))
  | ((with_reducible apply ev_lst) <;> (try walk_at "u"))
  | ((with_reducible apply ev_cbd) <;> (try walk_at "u"))
  | ((with_reducible apply rc_len) <;> (try walk_at "s"))
  | with_reducible apply rc_abs
  | with_reducible apply rc_int
  | with_reducible apply rc_intb
  | ((with_reducible apply rc_list) <;> (try walk_at "s"))
  | ((with_reducible apply rc_tup) <;> (try walk_at "s"))
  | ((with_reducible apply rc_isi) <;> (try walk_at "s"))
  | ((with_reducible apply ev_call) <;> (try walk_at "u"))
  | ((with_reducible apply ev_and2) <;> (try walk_at "u"))
  | ((with_reducible apply ev_or2) <;> (try walk_at "u"))
  | ((with_reducible apply ev_notV) <;> (try walk_at "u"))
  | ((with_reducible apply ev_chain) <;> (try walk_at "u"))
  | ((with_reducible apply et_testd) <;> (try walk_at "u"))
  | ((with_reducible apply et_B) <;> (try walk_at "u"))
  | ((with_reducible apply et_and) <;> (try walk_at "u"))
  | ((with_reducible apply et_or) <;> (try walk_at "u"))
  | ((with_reducible apply et_not) <;> (try walk_at "u"))
  | ((with_reducible intro h_) <;> (try walk_at "u"))
  | exact len_ok rfl
  | decide)
local macro_rules | `(tactic| walk_at "s") => `(tactic| first
  | with_reducible assumption
  | exact SeqD.l
  | exact SeqD.t
  | exact seqB_l
  | exact seqB_t
  | with_reducible exact ok_encO _
  | with_reducible exact sh_encO _
  | with_reducible rfl
  | ((with_reducible refine Eq.trans ?_ rfl); rfl)
  | assumption
  | decide)
local macro_rules | `(tactic| walk_at "s") => `(tactic| first | exact seqD_mk _ _ | exact at_head)
variable {P : Program} {w : World} {K : PySem.W.Frag} {mg : Str → Option Value} {base : Heap}
structure GvOk (gs : List Grd) (vs : List (List (List Rat))) : Prop where
  len : gs.length = vs.length
  few : vs.length ≤ 100
  ok : ∀ (i : Nat) (g : Grd) (v : List (List Rat)), gs[i]? = some g → vs[i]? = some v → ValsOk g v
def R_check_values (K : PySem.W.Frag) : RT := fun ds st mu P => ∃ (sc : Scr) (gs : List Grd) (vs : List (List (List Rat))), GvOk gs vs ∧ sc.grids = gs.map (encG K) ∧ ds = [encScr K sc, .tup (vs.map encVt)] ∧ st = none ∧ mu = [] ∧ P = Is .non
theorem d_check_values (T : Tx K mg) (A : At K mg "check_values" s_check_values) (D_are_values : Def P w K mg base 5 "are_values" ["grid", "thing"] (R_are_values K)) : Def P w K mg base 6 "check_values" ["script", "thing"] (R_check_values K) := by
  obtain ⟨f, fd, F, hm⟩ := A.fn
  refine mk_def F hm (def_ok F sc_check_values (fun ds st mu PP h => ?_) (by decide) fun cdv A outer s H E hr ds st mu PP h => ?_) fun _ _ _ _ _ _ us hl => match us, hl with | [_, _], _ => rfl
  · obtain ⟨sc, gs, vs, _, _, rfl, _⟩ := h
    rfl
  · obtain ⟨sc, gs, vs, hv, hg, rfl, rfl, rfl, rfl⟩ := h
    refine ⟨_, (pss_cons (ps_if (PW.pt (pw_or (pt_not (pt_val (pe_callB (k_isi (K := K) (by rfl)) (by rfl) T.isinstance (by decide +kernel) (pa_cons (pv 1) (pa_cons (pe_bltn (v := .ty "tuple") (by rfl) T.tuple (by decide +kernel) rfl) pa_nil))))) (pw_or1 (pt_cmpR op_ne (pe_callB (k_len (K := K) (by rfl)) (by rfl) T.len (by decide +kernel) (pa_cons (pv 1) pa_nil)) (pe_callB (k_len (K := K) (by rfl)) (by rfl) T.len (by decide +kernel) (pa_cons (k_fld (K := K) (by rfl) (pv 0) rfl) pa_nil)) (nomark _))))) (pss_one ps_never) pss_nil)
        (pss_one (ps_if (pt_not (pt_val (pe_callB (k_all (K := K) (by rfl) rfl) (by rfl) T.all (by decide +kernel) (pa_cons (pe_lc (own := [("grid", 2), ("item", 3)]) (by rfl) sc_check_values.nd (k_zip (K := K) (by rfl) (by rfl) T.zip (pa_cons (k_fld (K := K) (by rfl) (pv 0) rfl) (pa_cons (pv 1) pa_nil))) (blkOk_by (by kernel_rfl)) (fun _ _ _ _ _ => (k_gtup (K := K) (n := 2) (by rfl) (by rfl) (pgs_cons (pg_name (i := 2) sc_check_values.nd rfl (by first | exact Or.inl rfl | exact Or.inr rfl)) (pgs_cons (pg_name (i := 3) sc_check_values.nd rfl (by first | exact Or.inl rfl | exact Or.inr rfl)) pgs_nil)))) (fun _ _ _ _ _ => pts_nil) (fun _ _ _ _ _ => (pe_callD D_are_values ⟨rfl, rfl, rfl, rfl, rfl⟩ (hr.mono (by decide)) (by rfl) (pa_cons (pv 2) (pa_cons (pv 3) pa_nil))))) pa_nil)))) (pss_one ps_never) pss_nil))), ?_⟩
    (try dsimp only [cxOf, Cx.nox, Cx.wish])
    have gridsE : ∀ G0 : G, G0[0]? = some (some (encScr K sc)) → EV K none [] (tFld K (tVar 0) "grids") G0 (Is (.tup (gs.map (encG K)))) := fun G0 h0 => (ev_fld (ev_var h0) T.scrC T.sG rfl).is (by rw [hg])
    have hgl := hv.len
    have hvf := hv.few
    refine sj_seq (sj_ifd (b := false) (ET.is (et_or (et_not (et_B (by walk_at "u"))) fun _ => et_testd (ev_opd (by walk_at "u") (ev_cbd (ea_cons (gridsE _ rfl) ea_nil) (rc_len SeqD.t)) (ro_ne rfl))) (by simp [hgl])) (fun e => by cases e) fun _ => sj_next ?_)
    refine sj_ifd (b := !true) (et_not (et_B (EV.is (d := .bl ((gs.map fun _ => true).all id)) (ev_cbd (ea_cons (EV.is (ev_lcz gs vs (encG K) encVt (fun _ _ => .bl true) true (ea_cons (gridsE _ rfl) (ea_cons (ev_var rfl) ea_nil)) seqB_t seqB_t (by simp) (by simp) (by omega) fun k g v hg hv' => ?_) ?_) ea_nil) rc_all) (by simp)))) (fun e => by cases e) fun _ => sj_next rfl
    · walk_at "u"
      exact r_are_values (hv.ok k g v hg hv')
    · congr 1
      apply List.ext_getElem?
      intro k
      rw [List.getElem?_zipWith, List.getElem?_map, List.getElem?_map]
      by_cases hk : k < gs.length
      · rw [List.getElem?_eq_getElem hk, List.getElem?_eq_getElem (show k < vs.length by omega)]
        rfl
      · rw [List.getElem?_eq_none (show gs.length ≤ k by omega)]
        rfl
theorem r_check_values {sc : Scr} {gs : List Grd} {vs : List (List (List Rat))} (h : GvOk gs vs) (hg : sc.grids = gs.map (encG K)) : R_check_values K [encScr K sc, .tup (vs.map encVt)] none [] (Is .non) := ⟨sc, gs, vs, h, hg, rfl, rfl, rfl, rfl⟩
def R_check_at (K : PySem.W.Frag) : RT := fun ds st mu P => ∃ (sc : Scr) (n : Nat), n < sc.sh.length ∧ ds = [encScr K sc, nD n] ∧ st = none ∧ mu = [] ∧ P = Is .non
theorem d_check_at (T : Tx K mg) (A : At K mg "check_at" s_check_at) (D_is_within : Def P w K mg base 2 "is_within" ["thing", "least", "most"] (R_is_within K)) : Def P w K mg base 3 "check_at" ["script", "at"] (R_check_at K) := by
  obtain ⟨f, fd, F, hm⟩ := A.fn
  refine mk_def F hm (def_ok F sc_check_at (fun ds st mu PP h => ?_) (by decide) fun cdv A outer s H E hr ds st mu PP h => ?_) fun _ _ _ _ _ _ us hl => match us, hl with | [_, _], _ => rfl
  · obtain ⟨sc, n, _, rfl, _⟩ := h
    rfl
  · obtain ⟨sc, n, hn, rfl, rfl, rfl, rfl⟩ := h
    refine ⟨_, (pss_one (ps_if (pt_not (pt_val (pe_callD D_is_within ⟨rfl, rfl, rfl, rfl, rfl⟩ (hr.mono (by decide)) (by rfl) (pa_cons (pv 1) (pa_cons pe_int (pa_cons (pe_op op_sub (pe_callB (k_len (K := K) (by rfl)) (by rfl) T.len (by decide +kernel) (pa_cons (k_fld (K := K) (by rfl) (pv 0) rfl) pa_nil)) pe_int) pa_nil)))))) (pss_one ps_never) pss_nil)), ?_⟩
    (try dsimp only [cxOf, Cx.nox, Cx.wish])
    refine sj_ifd (b := !true) (et_not (et_B (EV.is (d := .bl (decide ((0 : Int) ≤ (n : Int) ∧ (n : Int) ≤ ((sc.sh.map encSh).length : Int) - 1))) (ev_call (ea_cons (ev_var rfl) (ea_cons ev_c (ea_cons (ev_opd (ev_cbd (ea_cons (ev_fld (ev_var rfl) T.scrC T.sK rfl) ea_nil) (rc_len SeqD.l)) ev_c ro_I0) ea_nil))) r_is_within) ?_))) (fun e => by cases e) fun _ => sj_next rfl
    have h1 : (0 : Int) ≤ (n : Int) ∧ (n : Int) ≤ ((sc.sh.map encSh).length : Int) - 1 := by
      rw [List.length_map]
      omega
    rw [decide_eq_true h1]
theorem r_check_at {sc : Scr} {n : Nat} (h : n < sc.sh.length) : R_check_at K [encScr K sc, nD n] none [] (Is .non) := ⟨sc, n, h, rfl, rfl, rfl, rfl⟩
abbrev valsB (vs : List (List (List Rat))) : List BMat := vs.map fun v => (true, encV v)
/-- the grid with a number, and all ahead -/
def allM (sc : Scr) (vs : List (List (List Rat))) (at_ : Nat) : List BMat := evs vs.length sc.sh sc.steps (valsB vs) (min sc.steps.length (at_ + 1 - vs.length))
def R_outcome (K : PySem.W.Frag) : RT := fun ds st mu P => ∃ (sc : Scr) (gs : List Grd) (vs : List (List (List Rat))) (n : Nat), GvOk gs vs ∧ sc.grids = gs.map (encG K) ∧ sc.steps.length ≤ 100 ∧ sc.sh.length = vs.length + sc.steps.length ∧ n < sc.sh.length ∧
  RunOk sc.sh sc.steps (valsB vs) n ∧ (mt (allM sc vs n) n).length ≤ 100 ∧ ds = [encScr K sc, .tup (vs.map encVt), nD n] ∧ st = none ∧ mu = [] ∧ P = Is (encM true (mt (allM sc vs n) n))
theorem valsB_enc (vs : List (List (List Rat))) : (valsB vs).map encMM = vs.map encVt := by
  simp [valsB, encMM, Function.comp_def, encVt_eq]
theorem d_outcome (T : Tx K mg) (A : At K mg "outcome" s_outcome) (D_check_values : Def P w K mg base 6 "check_values" ["script", "thing"] (R_check_values K)) (D_check_at : Def P w K mg base 3 "check_at" ["script", "at"] (R_check_at K)) (D_raw_outcomes : Def P w K mg base 7 "raw_outcomes" ["script", "values", "last"] (R_raw_outcomes K)) : Def P w K mg base 8 "outcome" ["script", "values", "at"] (R_outcome K) := by
  obtain ⟨f, fd, F, hm⟩ := A.fn
  refine mk_def F hm (def_ok F sc_outcome (fun ds st mu PP h => ?_) (by decide) fun cdv A outer s H E hr ds st mu PP h => ?_) fun _ _ _ _ _ _ us hl => match us, hl with | [_, _, _], _ => rfl
  · obtain ⟨sc, gs, vs, n, _, _, _, _, _, _, _, rfl, _⟩ := h
    rfl
  · obtain ⟨sc, gs, vs, n, hv, hg, hs, hsh, hn, hok, hl, rfl, rfl, rfl, rfl⟩ := h
    refine ⟨_, (pss_cons (ps_expr (pe_callD D_check_values ⟨rfl, rfl, rfl, rfl, rfl⟩ (hr.mono (by decide)) (by rfl) (pa_cons (pv 0) (pa_cons (pv 1) pa_nil))))
        (pss_cons (ps_expr (pe_callD D_check_at ⟨rfl, rfl, rfl, rfl, rfl⟩ (hr.mono (by decide)) (by rfl) (pa_cons (pv 0) (pa_cons (pv 2) pa_nil))))
        (pss_one (ps_ret (pe_callTy (k_tup (K := K) (by rfl)) (by rfl) T.tuple (by decide +kernel) (pa_cons (pe_lc (own := [("row", 3)]) (by rfl) sc_outcome.nd (k_seq (K := K) (by rfl) (pe_ix (k_ix (K := K) (by rfl)) (pe_callD D_raw_outcomes ⟨rfl, rfl, rfl, rfl, rfl⟩ (hr.mono (by decide)) (by rfl) (pa_cons (pv 0) (pa_cons (pv 1) (pa_cons (pv 2) pa_nil)))) (pv 2) (fun _ _ => rfl))) (blkOk_by (by kernel_rfl)) (fun _ _ _ _ _ => (pg_name (i := 3) sc_outcome.nd rfl (by first | exact Or.inl rfl | exact Or.inr rfl))) (fun _ _ _ _ _ => pts_nil) (fun _ _ _ _ _ => (pe_callTy (k_tup (K := K) (by rfl)) (by rfl) T.tuple (by decide +kernel) (pa_cons (pv 3) pa_nil)))) pa_nil)))))), ?_⟩
    (try dsimp only [cxOf, Cx.nox, Cx.wish])
    refine sj_seq (sj_drop (ev_call (ea_cons (ev_var rfl) (ea_cons (ev_var rfl) ea_nil)) (r_check_values hv hg)) ?_)
    refine sj_seq (sj_drop (ev_call (ea_cons (ev_var rfl) (ea_cons (ev_var rfl) ea_nil)) (r_check_at hn)) ?_)
    have hvl : (valsB vs).length = vs.length := by simp
    have hall : (allM sc vs n).length = vs.length + min sc.steps.length (n + 1 - vs.length) := evs_len (by simp) _ (by omega)
    have hnl : n < (allM sc vs n).length := by
      rw [hall]
      omega
    have hraw : R_raw_outcomes K [encScr K sc, .tup (vs.map encVt), nD n] none [] (Is (.lst ((allM sc vs n).map encMM))) := by
      refine ⟨sc, valsB vs, n, by rw [hvl]; exact hv.few, hs, by rw [hg, hvl, List.length_map, hv.len], by rw [hvl]; exact hsh, hok, by rw [valsB_enc], rfl, rfl, ?_⟩
      rw [hvl]
      rfl
    generalize hA : allM sc vs n = A at *
    refine sj_ret (EV.is (ev_cbd (ea_cons (ev_lct (mt A n) (encR (A.getD n (false, [])).1) (encR true) (A.getD n (false, [])).1 (ev_opd (ev_call (ea_cons (ev_var rfl) (ea_cons (ev_var rfl) (ea_cons (ev_var rfl) ea_nil))) hraw) (ev_var rfl) (ro_ix SeqD.l (at_mat hnl))) (seqB_mk _ _) (by simp) (by omega) fun i r hr => ?_) ea_nil) (rc_tup SeqD.l)) rfl)
    exact ev_cbd (ea_cons (ev_var rfl) ea_nil) (rc_tup (seqD_mk _ _))
theorem r_outcome {sc : Scr} {gs : List Grd} {vs : List (List (List Rat))} {n : Nat} (hv : GvOk gs vs) (hg : sc.grids = gs.map (encG K)) (hs : sc.steps.length ≤ 100) (hsh : sc.sh.length = vs.length + sc.steps.length) (hn : n < sc.sh.length) (hok : RunOk sc.sh sc.steps (valsB vs) n)
    (hl : (mt (allM sc vs n) n).length ≤ 100) : R_outcome K [encScr K sc, .tup (vs.map encVt), nD n] none [] (Is (encM true (mt (allM sc vs n) n))) := ⟨sc, gs, vs, n, hv, hg, hs, hsh, hn, hok, hl, rfl, rfl, rfl, rfl⟩
end U
set_option maxHeartbeats 4000000
/-! G1: the law's own numbers. -/
namespace U
open PySem PyProof.Rows L2 Evl RZ
local macro_rules | `(tactic| walk_at "u") => `(tactic| first
  | ((with_reducible apply ev_cT) <;> assumption)
  | with_reducible apply ev_c
  | ((with_reducible apply ev_var); rfl)
  | with_reducible apply ea_nil
  | ((with_reducible apply ea_cons) <;> (try walk_at "u"))
  | ((with_reducible apply ev_opd) <;> (try walk_at "u"))
  | with_reducible apply ro_I0
  | ((with_reducible apply ro_I) <;> (try walk_at "s"))
  | ((with_reducible apply ro_ix) <;> (try walk_at "s"))
  | ((with_reducible apply ro_eq); rfl)
  | ((with_reducible apply ro_ne); rfl)
  | ((with_reducible apply ev_un) <;> (try walk_at "u"))
  | ((with_reducible apply ev_tup) <;> (try walk_at "u"))
  | ((with_reducible apply ev_lst) <;> (try walk_at "u"))
  | ((with_reducible apply ev_cbd) <;> (try walk_at "u"))
  | ((with_reducible apply rc_len) <;> (try walk_at "s"))
  | with_reducible apply rc_abs
  | with_reducible apply rc_int
  | with_reducible apply rc_intb
  | ((with_reducible apply rc_list) <;> (try walk_at "s"))
  | ((with_reducible apply rc_tup) <;> (try walk_at "s"))
  | ((with_reducible apply rc_isi) <;> (try walk_at "s"))
  | ((with_reducible apply ev_call) <;> (try walk_at "u"))
  | ((with_reducible apply ev_and2) <;> (try walk_at "u"))
  | ((with_reducible apply ev_or2) <;> (try walk_at "u"))
  | ((with_reducible apply ev_notV) <;> (try walk_at "u"))
  | ((with_reducible apply ev_chain) <;> (try walk_at "u"))
  | ((with_reducible apply et_testd) <;> (try walk_at "u"))
  | ((with_reducible apply et_B) <;> (try walk_at "u"))
  | ((with_reducible apply et_and) <;> (try walk_at "u"))
  | ((with_reducible apply et_or) <;> (try walk_at "u"))
  | ((with_reducible apply et_not) <;> (try walk_at "u"))
  | ((with_reducible intro h_) <;> (try walk_at "u"))
  | exact len_ok rfl
  | decide)
local macro_rules | `(tactic| walk_at "s") => `(tactic| first
  | with_reducible assumption
  | exact SeqD.l
  | exact SeqD.t
  | exact seqB_l
  | exact seqB_t
  | with_reducible exact ok_encO _
  | with_reducible exact sh_encO _
  | with_reducible rfl
  | ((with_reducible refine Eq.trans ?_ rfl); rfl)
  | assumption
  | decide)
local macro_rules | `(tactic| walk_at "s") => `(tactic| first | exact seqD_mk _ _ | exact at_head)
variable {P : Program} {w : World} {K : PySem.W.Frag} {mg : Str → Option Value} {base : Heap}
def R_l_lowest (K : PySem.W.Frag) : RT := R_lowest K
theorem d_l_lowest (T : Tx K mg) (A : At K mg "_law_lowest" s_l_lowest)  : Def P w K mg base 1 "_law_lowest" ["_law_top", "_law_bottom"] (R_l_lowest K) := by
  obtain ⟨f, fd, F, hm⟩ := A.fn
  refine mk_def F hm (def_ok F sc_l_lowest (fun ds st mu PP h => ?_) (by decide) fun cdv A outer s H E hr ds st mu PP h => ?_) fun _ _ _ _ _ _ us hl => match us, hl with | [_, _], _ => rfl
  · obtain ⟨t, b, _, _, rfl, _⟩ := h
    rfl
  · obtain ⟨t, b, h0, h1, rfl, rfl, rfl, rfl⟩ := h
    refine ⟨_, (pss_cons (ps_par (i := 2) (j := 3) (by rfl) sc_l_lowest.nd rfl rfl (by decide) rfl rfl (pa_cons (pe_callB cl_abs (by rfl) T.abs (by decide +kernel) (pa_cons (pv 0) pa_nil)) (pa_cons (pv 1) pa_nil)) (by rfl))
        (pss_cons (ps_while PassesOwn.never (pt_cmpR op_gt (pv 3) pe_int (nomark _)) (pss_one (ps_par (i := 2) (j := 3) (by rfl) sc_l_lowest.nd rfl rfl (by decide) rfl rfl (pa_cons (pv 3) (pa_cons (pe_op op_mod (pe_callTy cl_int (by rfl) T.int (by decide +kernel) (pa_cons (pv 2) pa_nil)) (pv 3)) pa_nil)) (by rfl))))
        (pss_one (ps_ret (pe_tup (pa_cons (pe_op op_fdivW (pv 0) (pv 2)) (pa_cons (pe_op op_fdivW (pv 1) (pv 2)) pa_nil))))))), ?_⟩
    (try dsimp only [cxOf, Cx.nox, Cx.wish])
    refine sj_seq (sj_pard (by walk_at "u") ?_)
    refine sj_seq (sj_while (fun m Γ own => ∃ x y : Nat, m = y ∧ Γ = [some (.int t), some (nD b), some (nD x), some (nD y)] ∧ own = [] ∧ Nat.gcd x y = Int.gcd t b) b ⟨t.natAbs, b, rfl, rfl, rfl, rfl⟩ ?_)
    rintro m Γ' own' ⟨x, y, rfl, rfl, rfl, hg⟩
    refine ⟨decide ((0 : Int) < (m : Nat)), by walk_at "u", fun hb => ?_, fun hb => ?_⟩
    · have hm : 0 < m := by simpa using hb
      have hm' : (0 : Int) < (m : Nat) := by omega
      refine sj_pard (x := nD m) (y := .int ((x : Int) % (m : Nat))) (by walk_at "u") ⟨x % m, Nat.mod_lt _ hm, m, x % m, rfl, by simp, rfl, ?_⟩
      rw [← hg, Nat.gcd_comm x m, Nat.gcd_rec m x, Nat.gcd_comm]
    · have hm : m = 0 := by
        have := of_decide_eq_false hb
        omega
      subst hm
      have hx : x = Int.gcd t b := by rw [← hg, Nat.gcd_zero_right]
      subst hx
      refine sj_ret (EV.is (by walk_at "u" <;> exact cdiv_gcd h0 h1) ?_)
      rw [encQ_mk t b h0]
theorem r_l_lowest {t : Int} {b : Nat} (h0 : 0 < b) (h1 : b < B9) : R_l_lowest K [.int t, .int (b : Nat)] none [] (Is (encQ (mkRat t b))) := ⟨t, b, h0, h1, rfl, rfl, rfl, rfl⟩
def R_l_plus (K : PySem.W.Frag) : RT := R_plus K
theorem d_l_plus (T : Tx K mg) (A : At K mg "_law_plus" s_l_plus) (D_l_lowest : Def P w K mg base 1 "_law_lowest" ["_law_top", "_law_bottom"] (R_l_lowest K)) : Def P w K mg base 2 "_law_plus" ["_law_one", "_law_other"] (R_l_plus K) := by
  obtain ⟨f, fd, F, hm⟩ := A.fn
  refine mk_def F hm (def_ok F sc_l_plus (fun ds st mu PP h => ?_) (by decide) fun cdv A outer s H E hr ds st mu PP h => ?_) fun _ _ _ _ _ _ us hl => match us, hl with | [_, _], _ => rfl
  · obtain ⟨a, b, _, _, rfl, _⟩ := h
    rfl
  · obtain ⟨a, b, ha, hb, rfl, rfl, rfl, rfl⟩ := h
    refine ⟨_, (pss_one (ps_ret (pe_callD D_l_lowest ⟨rfl, rfl, rfl, rfl, rfl⟩ (hr.mono (by decide)) (by rfl) (pa_cons (pe_op op_add (pe_op op_mulA (pe_ix (k_ix (K := K) (by rfl)) (pv 0) pe_int (fun _ _ => rfl)) (pe_ix (k_ix (K := K) (by rfl)) (pv 1) pe_int (fun _ _ => rfl))) (pe_op op_mulA (pe_ix (k_ix (K := K) (by rfl)) (pv 1) pe_int (fun _ _ => rfl)) (pe_ix (k_ix (K := K) (by rfl)) (pv 0) pe_int (fun _ _ => rfl)))) (pa_cons (pe_op op_mulA (pe_ix (k_ix (K := K) (by rfl)) (pv 0) pe_int (fun _ _ => rfl)) (pe_ix (k_ix (K := K) (by rfl)) (pv 1) pe_int (fun _ _ => rfl))) pa_nil))))), ?_⟩
    (try dsimp only [cxOf, Cx.nox, Cx.wish])
    have k1 : IntMulOk a.num (b.den : Nat) := mul_okN ha.1 hb.2
    have k2 : IntMulOk b.num (a.den : Nat) := mul_okN hb.1 ha.2
    have k3 : IntMulOk (a.den : Nat) (b.den : Nat) := mul_okNN ha.2 hb.2
    refine sj_ret ?_
    walk_at "u"
    refine ⟨a.num * (b.den : Int) + b.num * (a.den : Int), a.den * b.den, Nat.mul_pos a.den_pos b.den_pos, B44_B9 ha.2 hb.2, by rw [Int.natCast_mul], rfl, rfl, by rw [add_eq]⟩
theorem r_l_plus {a b : Rat} (ha : Sm a) (hb : Sm b) : R_l_plus K [encQ a, encQ b] none [] (Is (encQ (a + b))) := ⟨a, b, ha, hb, rfl, rfl, rfl, rfl⟩
def R_l_times (K : PySem.W.Frag) : RT := R_times K
theorem d_l_times (T : Tx K mg) (A : At K mg "_law_times" s_l_times) (D_l_lowest : Def P w K mg base 1 "_law_lowest" ["_law_top", "_law_bottom"] (R_l_lowest K)) : Def P w K mg base 2 "_law_times" ["_law_one", "_law_other"] (R_l_times K) := by
  obtain ⟨f, fd, F, hm⟩ := A.fn
  refine mk_def F hm (def_ok F sc_l_times (fun ds st mu PP h => ?_) (by decide) fun cdv A outer s H E hr ds st mu PP h => ?_) fun _ _ _ _ _ _ us hl => match us, hl with | [_, _], _ => rfl
  · obtain ⟨a, b, _, _, rfl, _⟩ := h
    rfl
  · obtain ⟨a, b, ha, hb, rfl, rfl, rfl, rfl⟩ := h
    refine ⟨_, (pss_one (ps_ret (pe_callD D_l_lowest ⟨rfl, rfl, rfl, rfl, rfl⟩ (hr.mono (by decide)) (by rfl) (pa_cons (pe_op op_mulA (pe_ix (k_ix (K := K) (by rfl)) (pv 0) pe_int (fun _ _ => rfl)) (pe_ix (k_ix (K := K) (by rfl)) (pv 1) pe_int (fun _ _ => rfl))) (pa_cons (pe_op op_mulA (pe_ix (k_ix (K := K) (by rfl)) (pv 0) pe_int (fun _ _ => rfl)) (pe_ix (k_ix (K := K) (by rfl)) (pv 1) pe_int (fun _ _ => rfl))) pa_nil))))), ?_⟩
    (try dsimp only [cxOf, Cx.nox, Cx.wish])
    have k1 : IntMulOk a.num b.num := mul_ok ha.1 hb.1
    have k3 : IntMulOk (a.den : Nat) (b.den : Nat) := mul_okNN ha.2 hb.2
    refine sj_ret ?_
    walk_at "u"
    refine ⟨a.num * b.num, a.den * b.den, Nat.mul_pos a.den_pos b.den_pos, B44_B9 ha.2 hb.2, by rw [Int.natCast_mul], rfl, rfl, by rw [mul_eq]⟩
theorem r_l_times {a b : Rat} (ha : Sm a) (hb : Sm b) : R_l_times K [encQ a, encQ b] none [] (Is (encQ (a * b))) := ⟨a, b, ha, hb, rfl, rfl, rfl, rfl⟩
def R_l_sum (K : PySem.W.Frag) : RT := R_sum_of K
theorem d_l_sum (T : Tx K mg) (A : At K mg "_law_sum" s_l_sum) (D_l_plus : Def P w K mg base 2 "_law_plus" ["_law_one", "_law_other"] (R_l_plus K)) : Def P w K mg base 3 "_law_sum" ["_law_one", "_law_other"] (R_l_sum K) := by
  obtain ⟨f, fd, F, hm⟩ := A.fn
  refine mk_def F hm (def_ok F sc_l_sum (fun ds st mu PP h => ?_) (by decide) fun cdv A outer s H E hr ds st mu PP h => ?_) fun _ _ _ _ _ _ us hl => match us, hl with | [_, _], _ => rfl
  · obtain ⟨a, b, _, _, rfl, _⟩ := h
    rfl
  · obtain ⟨a, b, ha, hb, rfl, rfl, rfl, rfl⟩ := h
    refine ⟨_, (pss_one (ps_ret (pe_ifExp (pt_cmpR (k_inT (K := K) (by rfl) (hu_70 hr)) pe_str (pe_tup (pa_cons (pv 0) (pa_cons (pv 1) pa_nil))) (by rfl)) pe_str (pe_callD D_l_plus ⟨rfl, rfl, rfl, rfl, rfl⟩ (hr.mono (by decide)) (by rfl) (pa_cons (pv 0) (pa_cons (pv 1) pa_nil)))))), ?_⟩
    (try dsimp only [cxOf, Cx.nox, Cx.wish])
    refine sj_ret (ev_if (b := decide (a = none) || decide (b = none)) ?_ (fun e => ?_) fun e => ?_)
    · walk_at "u"
      exact in_two _ none a b rfl
    · refine EV.is (by walk_at "u") ?_
      rcases a with _ | a
      · rfl
      · rcases b with _ | b
        · rfl
        · cases e
    · rcases a with _ | a
      · cases e
      · rcases b with _ | b
        · cases e
        · walk_at "u"
          exact r_l_plus ha hb
theorem r_l_sum {a b : Oc} (ha : SmO a) (hb : SmO b) : R_l_sum K [encO a, encO b] none [] (Is (encO (oadd a b))) := ⟨a, b, ha, hb, rfl, rfl, rfl, rfl⟩
def R_l_product (K : PySem.W.Frag) : RT := R_product_of K
theorem d_l_product (T : Tx K mg) (A : At K mg "_law_product" s_l_product) (D_l_times : Def P w K mg base 2 "_law_times" ["_law_one", "_law_other"] (R_l_times K)) : Def P w K mg base 3 "_law_product" ["_law_one", "_law_other"] (R_l_product K) := by
  obtain ⟨f, fd, F, hm⟩ := A.fn
  refine mk_def F hm (def_ok F sc_l_product (fun ds st mu PP h => ?_) (by decide) fun cdv A outer s H E hr ds st mu PP h => ?_) fun _ _ _ _ _ _ us hl => match us, hl with | [_, _], _ => rfl
  · obtain ⟨a, b, _, _, rfl, _⟩ := h
    rfl
  · obtain ⟨a, b, ha, hb, rfl, rfl, rfl, rfl⟩ := h
    refine ⟨_, (pss_cons (ps_if (pt_cmpR (k_inT (K := K) (by rfl) (hu_70 hr)) (pe_tup (pa_cons pe_int (pa_cons pe_int pa_nil))) (pe_tup (pa_cons (pv 0) (pa_cons (pv 1) pa_nil))) (by rfl)) (pss_one (ps_ret (pe_tup (pa_cons pe_int (pa_cons pe_int pa_nil))))) pss_nil)
        (pss_one (ps_ret (pe_ifExp (pt_cmpR (k_inT (K := K) (by rfl) (hu_70 hr)) pe_str (pe_tup (pa_cons (pv 0) (pa_cons (pv 1) pa_nil))) (by rfl)) pe_str (pe_callD D_l_times ⟨rfl, rfl, rfl, rfl, rfl⟩ (hr.mono (by decide)) (by rfl) (pa_cons (pv 0) (pa_cons (pv 1) pa_nil))))))), ?_⟩
    (try dsimp only [cxOf, Cx.nox, Cx.wish])
    refine sj_seq (sj_ifd (b := decide (a = some 0) || decide (b = some 0)) ?_ (fun e => ?_) fun e => sj_next ?_)
    · walk_at "u"
      exact in_two _ (some 0) a b rfl
    · refine sj_ret (EV.is (by walk_at "u") ?_)
      rw [omul_zero e]
      rfl
    · rw [omul_not e]
      refine sj_ret (ev_if (b := decide (a = none) || decide (b = none)) ?_ (fun e => ?_) fun e => ?_)
      · walk_at "u"
        exact in_two _ none a b rfl
      · refine EV.is (by walk_at "u") ?_
        rcases a with _ | a
        · rfl
        · rcases b with _ | b
          · rfl
          · cases e
      · rcases a with _ | a
        · cases e
        · rcases b with _ | b
          · cases e
          · walk_at "u"
            exact r_l_times ha hb
theorem r_l_product {a b : Oc} (ha : SmO a) (hb : SmO b) : R_l_product K [encO a, encO b] none [] (Is (encO (omul a b))) := ⟨a, b, ha, hb, rfl, rfl, rfl, rfl⟩
theorem Sm.neg {q : Rat} (h : Sm q) : Sm (-q) := ⟨by rw [Rat.neg_num, Int.natAbs_neg]; exact h.1, by rw [Rat.neg_den]; exact h.2⟩
theorem encQ_neg (q : Rat) : encQ (-q) = .tup [.int (-q.num), nD q.den] := rfl
def R_l_less (K : PySem.W.Frag) : RT := fun ds st mu P => ∃ a b : Rat, Sm a ∧ Sm b ∧ ds = [encQ a, encQ b] ∧ st = none ∧ mu = [] ∧ P = Is (encQ (a - b))
theorem d_l_less (T : Tx K mg) (A : At K mg "_law_less" s_l_less) (D_l_plus : Def P w K mg base 2 "_law_plus" ["_law_one", "_law_other"] (R_l_plus K)) : Def P w K mg base 3 "_law_less" ["_law_one", "_law_other"] (R_l_less K) := by
  obtain ⟨f, fd, F, hm⟩ := A.fn
  refine mk_def F hm (def_ok F sc_l_less (fun ds st mu PP h => ?_) (by decide) fun cdv A outer s H E hr ds st mu PP h => ?_) fun _ _ _ _ _ _ us hl => match us, hl with | [_, _], _ => rfl
  · obtain ⟨a, b, _, _, rfl, _⟩ := h
    rfl
  · obtain ⟨a, b, ha, hb, rfl, rfl, rfl, rfl⟩ := h
    refine ⟨_, (pss_one (ps_ret (pe_callD D_l_plus ⟨rfl, rfl, rfl, rfl, rfl⟩ (hr.mono (by decide)) (by rfl) (pa_cons (pv 0) (pa_cons (pe_tup (pa_cons (pe_un un_neg (pe_ix (k_ix (K := K) (by rfl)) (pv 1) pe_int (fun _ _ => rfl))) (pa_cons (pe_ix (k_ix (K := K) (by rfl)) (pv 1) pe_int (fun _ _ => rfl)) pa_nil))) pa_nil))))), ?_⟩
    (try dsimp only [cxOf, Cx.nox, Cx.wish])
    rw [Rat.sub_eq_add_neg]
    refine sj_ret ?_
    walk_at "u"
    exact r_l_plus ha hb.neg
theorem r_l_less {a b : Rat} (ha : Sm a) (hb : Sm b) : R_l_less K [encQ a, encQ b] none [] (Is (encQ (a - b))) := ⟨a, b, ha, hb, rfl, rfl, rfl, rfl⟩
/-- a over h, by their parts -/
def R_l_signed (K : PySem.W.Frag) : RT := fun ds st mu P => ∃ a h : Rat, Sm a ∧ Sm h ∧ h ≠ 0 ∧ ds = [.int (a.num * (h.den : Nat)), .int ((a.den : Nat) * h.num)] ∧ st = none ∧ mu = [] ∧ P = Is (encQ (a / h))
theorem div_eq (a h : Rat) : a / h = Rat.divInt (a.num * (h.den : Int)) ((a.den : Int) * h.num) := by
  rw [Rat.div_def, Rat.inv_def]
  conv => lhs; rw [← Rat.num_divInt_den a]
  rw [Rat.divInt_mul_divInt]
theorem d_l_signed (T : Tx K mg) (A : At K mg "_law_signed" s_l_signed) (D_l_lowest : Def P w K mg base 1 "_law_lowest" ["_law_top", "_law_bottom"] (R_l_lowest K)) : Def P w K mg base 2 "_law_signed" ["_law_top", "_law_bottom"] (R_l_signed K) := by
  obtain ⟨f, fd, F, hm⟩ := A.fn
  refine mk_def F hm (def_ok F sc_l_signed (fun ds st mu PP h => ?_) (by decide) fun cdv A outer s H E hr ds st mu PP h => ?_) fun _ _ _ _ _ _ us hl => match us, hl with | [_, _], _ => rfl
  · obtain ⟨a, h, _, _, _, rfl, _⟩ := h
    rfl
  · obtain ⟨a, h, ha, hh, h0, rfl, rfl, rfl, rfl⟩ := h
    refine ⟨_, (pss_cons (ps_set (i := 2) sc_l_signed.nd rfl (Or.inl rfl) (pe_callD D_l_lowest ⟨rfl, rfl, rfl, rfl, rfl⟩ (hr.mono (by decide)) (by rfl) (pa_cons (pv 0) (pa_cons (pe_callB cl_abs (by rfl) T.abs (by decide +kernel) (pa_cons (pv 1) pa_nil)) pa_nil))))
        (pss_one (ps_ret (pe_ifExp (pt_cmpR op_gt (pv 1) pe_int (nomark _)) (pv 2) (pe_tup (pa_cons (pe_un un_neg (pe_ix (k_ix (K := K) (by rfl)) (pv 2) pe_int (fun _ _ => rfl))) (pa_cons (pe_ix (k_ix (K := K) (by rfl)) (pv 2) pe_int (fun _ _ => rfl)) pa_nil))))))), ?_⟩
    (try dsimp only [cxOf, Cx.nox, Cx.wish])
    have hn0 : h.num ≠ 0 := fun z => h0 (Rat.num_eq_zero.mp z)
    have hd0 := a.den_pos
    have hp : 0 < a.den * h.num.natAbs := Nat.mul_pos a.den_pos (by omega)
    have hb : a.den * h.num.natAbs < B9 := B44_B9 ha.2 hh.1
    have eabs : ((((a.den : Nat) * h.num : Int)).natAbs : Int) = ((a.den * h.num.natAbs : Nat) : Int) := by rw [Int.natAbs_mul, Int.natAbs_natCast]
    refine sj_seq (sj_setd (d := encQ (mkRat (a.num * (h.den : Nat)) (a.den * h.num.natAbs))) ?_ ?_)
    · walk_at "u"
      rw [eabs]
      exact r_l_lowest hp hb
    refine sj_ret (ev_if (b := decide (0 < (a.den : Int) * h.num)) (by walk_at "u") (fun e => ?_) fun e => ?_)
    · have h1 : 0 < (a.den : Int) * h.num := of_decide_eq_true e
      have h2 : 0 < h.num := Int.pos_of_mul_pos_right h1 (by omega)
      refine EV.is (by walk_at "u") ?_
      rw [div_eq, ← Rat.divInt_ofNat]
      congr 2
      rw [Int.natCast_mul]
      congr 1
      omega
    · have h1 : ¬ 0 < (a.den : Int) * h.num := of_decide_eq_false e
      have h2 : h.num < 0 := by
        rcases Int.lt_trichotomy h.num 0 with z | z | z
        · exact z
        · exact absurd z hn0
        · exact absurd (Int.mul_pos (by omega) z) h1
      refine EV.is (by walk_at "u") ?_
      rw [div_eq]
      show encQ (-(mkRat _ _)) = _
      congr 1
      rw [← Rat.divInt_ofNat, Rat.neg_divInt, ← Rat.divInt_neg']
      congr 1
      rw [Int.natCast_mul, ← Int.mul_neg]
      congr 1
      omega
theorem r_l_signed {a h : Rat} (ha : Sm a) (hh : Sm h) (h0 : h ≠ 0) : R_l_signed K [.int (a.num * (h.den : Nat)), .int ((a.den : Nat) * h.num)] none [] (Is (encQ (a / h))) := ⟨a, h, ha, hh, h0, rfl, rfl, rfl, rfl⟩
def R_l_is_fraction (K : PySem.W.Frag) : RT := R_is_fraction K
theorem d_l_is_fraction (T : Tx K mg) (A : At K mg "_law_is_fraction" s_l_is_fraction)  : Def P w K mg base 1 "_law_is_fraction" ["_law_thing"] (R_l_is_fraction K) := by
  obtain ⟨f, fd, F, hm⟩ := A.fn
  refine mk_def F hm (def_ok F sc_l_is_fraction (fun ds st mu PP h => ?_) (by decide) fun cdv A outer s H E hr ds st mu PP h => ?_) fun _ _ _ _ _ _ us hl => match us, hl with | [_], _ => rfl
  · obtain ⟨q, rfl, _⟩ := h
    rfl
  · obtain ⟨q, rfl, rfl, rfl, rfl⟩ := h
    refine ⟨_, (pss_cons (ps_if (PW.pt (pw_or (pt_not (pt_val (pe_callB (k_isi (K := K) (by rfl)) (by rfl) T.isinstance (by decide +kernel) (pa_cons (pv 0) (pa_cons (pe_bltn (v := .ty "tuple") (by rfl) T.tuple (by decide +kernel) rfl) pa_nil))))) (pw_or1 (pt_cmpR op_ne (pe_callB (k_len (K := K) (by rfl)) (by rfl) T.len (by decide +kernel) (pa_cons (pv 0) pa_nil)) pe_int (nomark _))))) (pss_one (ps_ret pe_bl)) pss_nil)
        (pss_cons (ps_for PassesOwn.never (by rfl) (k_seq (K := K) (by rfl) (pv 0)) (pg_name (i := 1) sc_l_is_fraction.nd rfl (by first | exact Or.inl rfl | exact Or.inr rfl)) (pss_one (ps_if (PW.pt (pw_or (pt_not (pt_val (pe_callB (k_isi (K := K) (by rfl)) (by rfl) T.isinstance (by decide +kernel) (pa_cons (pv 1) (pa_cons (pe_bltn (v := .ty "int") (by rfl) T.int (by decide +kernel) rfl) pa_nil))))) (pw_or1 (pt_val (pe_callB (k_isi (K := K) (by rfl)) (by rfl) T.isinstance (by decide +kernel) (pa_cons (pv 1) (pa_cons (pe_bltn (v := .ty "bool") (by rfl) T.bool (by decide +kernel) rfl) pa_nil))))))) (pss_one (ps_ret pe_bl)) pss_nil)))
        (pss_one (ps_ret pe_bl)))), ?_⟩
    (try dsimp only [cxOf, Cx.nox, Cx.wish])
    refine sj_seq (sj_ifd (b := false) (ET.is (by walk_at "u") (by simp)) (fun e => by cases e) fun e => sj_next ?_)
    refine sj_seq (sj_fort [q.num, (q.den : Int)] D.int true (by walk_at "u") seqB_t (fun i Γ own => own = [] ∧ ∃ x1 : Option D, Γ = [some (encQ q), x1]) ⟨rfl, none, rfl⟩ ?_ ?_)
    · rintro i x Γ' own' hx ⟨rfl, x1, rfl⟩
      refine sj_ifd (b := false) (ET.is (by walk_at "u") (by simp; decide +kernel)) (fun e => by cases e) fun e => sj_next ⟨rfl, _, rfl⟩
    · rintro Γ' own' ⟨rfl, x1, rfl⟩
      refine sj_ret ?_
      walk_at "u"
theorem r_l_is_fraction {q : Rat} : R_l_is_fraction K [encQ q] none [] (Is (.bl true)) := ⟨q, rfl, rfl, rfl, rfl⟩
end U
set_option maxHeartbeats 4000000
/-! G2: l_source, l_cell_of, l_are_outcomes. -/
namespace U
open PySem PyProof.Rows L2 Evl RZ
local macro_rules | `(tactic| walk_at "u") => `(tactic| first
  | ((with_reducible apply ev_cT) <;> assumption)
  | with_reducible apply ev_c
  | ((with_reducible apply ev_var); rfl)
  | with_reducible apply ea_nil
  | ((with_reducible apply ea_cons) <;> (try walk_at "u"))
  | ((with_reducible apply ev_opd) <;> (try walk_at "u"))
  | with_reducible apply ro_I0
  | ((with_reducible apply ro_I) <;> (try walk_at "s"))
  | ((with_reducible apply ro_ix) <;> (try walk_at "s"))
  | ((with_reducible apply ro_eq); rfl)
  | ((with_reducible apply ro_ne); rfl)
  | ((with_reducible apply ev_un) <;> (try walk_at "u"))
  | ((with_reducible apply ev_tup) <;> (try walk_at "u"))
  | ((with_reducible apply ev_lst) <;> (try walk_at "u"))
  | ((with_reducible apply ev_cbd) <;> (try walk_at "u"))
  | ((with_reducible apply rc_len) <;> (try walk_at "s"))
  | with_reducible apply rc_abs
  | with_reducible apply rc_int
  | with_reducible apply rc_intb
  | ((with_reducible apply rc_list) <;> (try walk_at "s"))
  | ((with_reducible apply rc_tup) <;> (try walk_at "s"))
  | ((with_reducible apply rc_isi) <;> (try walk_at "s"))
  | ((with_reducible apply ev_call) <;> (try walk_at "u"))
  | ((with_reducible apply ev_and2) <;> (try walk_at "u"))
  | ((with_reducible apply ev_or2) <;> (try walk_at "u"))
  | ((with_reducible apply ev_notV) <;> (try walk_at "u"))
  | ((with_reducible apply ev_chain) <;> (try walk_at "u"))
  | ((with_reducible apply et_testd) <;> (try walk_at "u"))
  | ((with_reducible apply et_B) <;> (try walk_at "u"))
  | ((with_reducible apply et_and) <;> (try walk_at "u"))
  | ((with_reducible apply et_or) <;> (try walk_at "u"))
  | ((with_reducible apply et_not) <;> (try walk_at "u"))
  | ((with_reducible intro h_) <;> (try walk_at "u"))
  | exact len_ok rfl
  | decide)
local macro_rules | `(tactic| walk_at "s") => `(tactic| first
  | with_reducible assumption
  | exact SeqD.l
  | exact SeqD.t
  | exact seqB_l
  | exact seqB_t
  | with_reducible exact ok_encO _
  | with_reducible exact sh_encO _
  | with_reducible rfl
  | ((with_reducible refine Eq.trans ?_ rfl); rfl)
  | assumption
  | decide)
local macro_rules | `(tactic| walk_at "s") => `(tactic| first | exact seqD_mk _ _ | exact at_head | (apply at_mat; assumption) | (apply at_rowC; assumption) | (apply at_cellC; assumption) | exact SeqD.m (List.mem_cons_self ..) | (apply at_row; assumption) | (apply at_cell; assumption))
variable {P : Program} {w : World} {K : PySem.W.Frag} {mg : Str → Option Value} {base : Heap}
def R_l_source (K : PySem.W.Frag) : RT := R_source_of K
theorem d_l_source (T : Tx K mg) (A : At K mg "_law_source" s_l_source)  : Def P w K mg base 1 "_law_source" ["_law_step_here", "_law_shapes", "_law_i", "_law_j"] (R_l_source K) := by
  obtain ⟨f, fd, F, hm⟩ := A.fn
  refine mk_def F hm (def_ok F sc_l_source (fun ds st mu PP h => ?_) (by decide) fun cdv A outer s H E hr ds st mu PP h => ?_) fun _ _ _ _ _ _ us hl => match us, hl with | [_, _, _, _], _ => rfl
  · obtain ⟨s, sh, i, j, _, _, rfl, _⟩ := h
    rfl
  · obtain ⟨st, sh, i, j, hs, hp, rfl, rfl, rfl, rfl⟩ := h
    refine ⟨_, (pss_cons (ps_if (pt_cmpR op_eq (pe_ix (k_ix (K := K) (by rfl)) (pv 0) pe_int (fun _ _ => rfl)) pe_str (nomark _)) (pss_one (ps_ret (pe_tup (pa_cons (pe_ix (k_ix (K := K) (by rfl)) (pv 0) pe_int (fun _ _ => rfl)) (pa_cons (pv 3) (pa_cons (pv 2) pa_nil)))))) pss_nil)
        (pss_cons (ps_if (pt_cmpR op_eq (pe_ix (k_ix (K := K) (by rfl)) (pv 0) pe_int (fun _ _ => rfl)) pe_str (nomark _)) (pss_one (ps_ret (pe_tup (pa_cons (pe_ix (k_ix (K := K) (by rfl)) (pv 0) pe_int (fun _ _ => rfl)) (pa_cons (pe_op op_add (pe_ix (k_ix (K := K) (by rfl)) (pv 0) pe_int (fun _ _ => rfl)) (pv 2)) (pa_cons (pe_op op_add (pe_ix (k_ix (K := K) (by rfl)) (pv 0) pe_int (fun _ _ => rfl)) (pv 3)) pa_nil)))))) pss_nil)
        (pss_cons (ps_asg (pe_ix (k_ix (K := K) (by rfl)) (pv 1) (pe_ix (k_ix (K := K) (by rfl)) (pv 0) pe_int (fun _ _ => rfl)) (fun _ _ => rfl)) (k_gtup (K := K) (n := 2) (by rfl) (by rfl) (pgs_cons (pg_name (i := 4) sc_l_source.nd rfl (by first | exact Or.inl rfl | exact Or.inr rfl)) (pgs_cons (pg_name (i := 5) sc_l_source.nd rfl (by first | exact Or.inl rfl | exact Or.inr rfl)) pgs_nil))))
        (pss_cons (ps_if (pt_cmpR op_eq (pe_ix (k_ix (K := K) (by rfl)) (pv 0) pe_int (fun _ _ => rfl)) pe_str (nomark _)) (pss_one (ps_ret (pe_ifExp (pt_cmpR op_lt (pv 3) (pv 5) (nomark _)) (pe_tup (pa_cons (pe_ix (k_ix (K := K) (by rfl)) (pv 0) pe_int (fun _ _ => rfl)) (pa_cons (pv 2) (pa_cons (pv 3) pa_nil)))) (pe_tup (pa_cons (pe_ix (k_ix (K := K) (by rfl)) (pv 0) pe_int (fun _ _ => rfl)) (pa_cons (pv 2) (pa_cons (pe_op op_sub (pv 3) (pv 5)) pa_nil))))))) pss_nil)
        (pss_one (ps_ret (pe_ifExp (pt_cmpR op_lt (pv 2) (pv 4) (nomark _)) (pe_tup (pa_cons (pe_ix (k_ix (K := K) (by rfl)) (pv 0) pe_int (fun _ _ => rfl)) (pa_cons (pv 2) (pa_cons (pv 3) pa_nil)))) (pe_tup (pa_cons (pe_ix (k_ix (K := K) (by rfl)) (pv 0) pe_int (fun _ _ => rfl)) (pa_cons (pe_op op_sub (pv 2) (pv 4)) (pa_cons (pv 3) pa_nil))))))))))), ?_⟩
    (try dsimp only [cxOf, Cx.nox, Cx.wish])
    cases st with
    | turned a =>
      refine sj_seq (sj_ifd (b := true) (ET.is (by walk_at "u") (by decide +kernel)) (fun _ => ?_) fun e => by cases e)
      refine sj_ret (EV.is (by walk_at "u") ?_)
      rfl
    | piece a i0 j0 r c =>
      refine sj_seq (sj_ifd (b := false) (ET.is (by walk_at "u") (by decide +kernel)) (fun e => by cases e) fun _ => sj_next ?_)
      refine sj_seq (sj_ifd (b := true) (ET.is (by walk_at "u") (by decide +kernel)) (fun _ => ?_) fun e => by cases e)
      refine sj_ret (EV.is (by walk_at "u") ?_)
      show D.tup [nD a, D.int ((i0 : Int) + i), D.int ((j0 : Int) + j)] = enc3 (a, i0 + i, j0 + j)
      simp [enc3]
    | beside a b =>
      have ha : a < sh.length := hp a (by simp [parts])
      refine sj_seq (sj_ifd (b := false) (ET.is (by walk_at "u") (by decide +kernel)) (fun e => by cases e) fun _ => sj_next ?_)
      refine sj_seq (sj_ifd (b := false) (ET.is (by walk_at "u") (by decide +kernel)) (fun e => by cases e) fun _ => sj_next ?_)
      refine sj_seq (sj_un2 (EV.imp (P := Is (encSh (shp sh a))) (by walk_at "u"; exact at_shp ha) fun d e => ⟨_, _, e, ?_⟩))
      refine sj_seq (sj_ifd (b := true) (ET.is (by walk_at "u") (by decide +kernel)) (fun _ => ?_) fun e => by cases e)
      refine sj_ret (ev_if (b := decide (j < (shp sh a).2)) (ET.is (by walk_at "u") (by simp)) (fun e => ?_) fun e => ?_)
      · refine EV.is (by walk_at "u") ?_
        have h1 : j < (shp sh a).2 := of_decide_eq_true e
        simp [src, h1, enc3]
      · refine EV.is (by walk_at "u") ?_
        have h1 : ¬ j < (shp sh a).2 := of_decide_eq_false e
        simp [src, h1, enc3]
        omega
    | above a b =>
      have ha : a < sh.length := hp a (by simp [parts])
      refine sj_seq (sj_ifd (b := false) (ET.is (by walk_at "u") (by decide +kernel)) (fun e => by cases e) fun _ => sj_next ?_)
      refine sj_seq (sj_ifd (b := false) (ET.is (by walk_at "u") (by decide +kernel)) (fun e => by cases e) fun _ => sj_next ?_)
      refine sj_seq (sj_un2 (EV.imp (P := Is (encSh (shp sh a))) (by walk_at "u"; exact at_shp ha) fun d e => ⟨_, _, e, ?_⟩))
      refine sj_seq (sj_ifd (b := false) (ET.is (by walk_at "u") (by decide +kernel)) (fun e => by cases e) fun _ => sj_next ?_)
      refine sj_ret (ev_if (b := decide (i < (shp sh a).1)) (ET.is (by walk_at "u") (by simp)) (fun e => ?_) fun e => ?_)
      · refine EV.is (by walk_at "u") ?_
        have h1 : i < (shp sh a).1 := of_decide_eq_true e
        simp [src, h1, enc3]
      · refine EV.is (by walk_at "u") ?_
        have h1 : ¬ i < (shp sh a).1 := of_decide_eq_false e
        simp [src, h1, enc3]
        omega
    | _ => cases hs
theorem r_l_source {s : Stp} {sh : List Shp} {i j : Nat} (h : isSrc s = true) (hp : ∀ a ∈ parts s, a < sh.length) : R_l_source K [encS s, .lst (sh.map encSh), nD i, nD j] none [] (Is (enc3 (src s sh i j))) := ⟨s, sh, i, j, h, hp, rfl, rfl, rfl, rfl⟩
def TimesSh (s : Stp) (sh : List Shp) (mats : List BMat) : Prop := match s with
  | .times _ b => b < sh.length ∧ (shp sh b).1 = (mt mats b).length
  | _ => True
def R_l_cell_of (K : PySem.W.Frag) : RT := fun ds st mu P => ∃ (s : Stp) (sh : List Shp) (l : Addr) (mats : List BMat) (i j : Nat), CellsOk s sh mats i j ∧ TimesSh s sh mats ∧ ds = [encS s, .lst (sh.map encSh), .raw (.ref l), nD i, nD j] ∧ st = none ∧ mu = [(l, mats.map encMM)] ∧ P = Is (encO (cellMade s sh mats i j))
theorem d_l_cell_of (T : Tx K mg) (A : At K mg "_law_cell_of" s_l_cell_of) (D_l_source : Def P w K mg base 1 "_law_source" ["_law_step_here", "_law_shapes", "_law_i", "_law_j"] (R_l_source K)) (D_l_sum : Def P w K mg base 3 "_law_sum" ["_law_one", "_law_other"] (R_l_sum K)) (D_l_product : Def P w K mg base 3 "_law_product" ["_law_one", "_law_other"] (R_l_product K)) : Def P w K mg base 4 "_law_cell_of" ["_law_step_here", "_law_shapes", "_law_told", "_law_i", "_law_j"] (R_l_cell_of K) := by
  obtain ⟨f, fd, F, hm⟩ := A.fn
  refine mk_def F hm (def_ok F sc_l_cell_of (fun ds st mu PP h => ?_) (by decide) fun cdv A outer s H E hr ds st mu PP h => ?_) fun _ _ _ _ _ _ us hl => match us, hl with | [_, _, _, _, _], _ => rfl
  · obtain ⟨s, sh, l, mats, i, j, _, _, rfl, _⟩ := h
    rfl
  · obtain ⟨s, sh, l, mats, i, j, hcc, hts, rfl, rfl, rfl, rfl⟩ := h
    refine ⟨_, (pss_cons (ps_if (pt_cmpR op_eq (pe_ix (k_ix (K := K) (by rfl)) (pv 0) pe_int (fun _ _ => rfl)) pe_str (nomark _)) (pss_one (ps_ret (pe_callD D_l_sum ⟨rfl, rfl, rfl, rfl, rfl⟩ (hr.mono (by decide)) (by rfl) (pa_cons (pe_ix (k_ix (K := K) (by rfl)) (pe_ix (k_ix (K := K) (by rfl)) (pe_ix (k_ix (K := K) (by rfl)) (pv 2) (pe_ix (k_ix (K := K) (by rfl)) (pv 0) pe_int (fun _ _ => rfl)) (fun _ _ => rfl)) (pv 3) (fun _ _ => rfl)) (pv 4) (fun _ _ => rfl)) (pa_cons (pe_ix (k_ix (K := K) (by rfl)) (pe_ix (k_ix (K := K) (by rfl)) (pe_ix (k_ix (K := K) (by rfl)) (pv 2) (pe_ix (k_ix (K := K) (by rfl)) (pv 0) pe_int (fun _ _ => rfl)) (fun _ _ => rfl)) (pv 3) (fun _ _ => rfl)) (pv 4) (fun _ _ => rfl)) pa_nil))))) pss_nil)
        (pss_cons (ps_if (pt_cmpR op_eq (pe_ix (k_ix (K := K) (by rfl)) (pv 0) pe_int (fun _ _ => rfl)) pe_str (nomark _)) (pss_cons (ps_set (i := 5) sc_l_cell_of.nd rfl (Or.inl rfl) (pe_tup (pa_cons pe_int (pa_cons pe_int pa_nil))))
        (pss_cons (ps_for PassesOwn.never (by rfl) (pi_range1 (by rfl) T.range (pa_cons (pe_ix (k_ix (K := K) (by rfl)) (pe_ix (k_ix (K := K) (by rfl)) (pv 1) (pe_ix (k_ix (K := K) (by rfl)) (pv 0) pe_int (fun _ _ => rfl)) (fun _ _ => rfl)) pe_int (fun _ _ => rfl)) pa_nil)) (pg_name (i := 6) sc_l_cell_of.nd rfl (by first | exact Or.inl rfl | exact Or.inr rfl)) (pss_one (ps_set (i := 5) sc_l_cell_of.nd rfl (Or.inl rfl) (pe_callD D_l_sum ⟨rfl, rfl, rfl, rfl, rfl⟩ (hr.mono (by decide)) (by rfl) (pa_cons (pv 5) (pa_cons (pe_callD D_l_product ⟨rfl, rfl, rfl, rfl, rfl⟩ (hr.mono (by decide)) (by rfl) (pa_cons (pe_ix (k_ix (K := K) (by rfl)) (pe_ix (k_ix (K := K) (by rfl)) (pe_ix (k_ix (K := K) (by rfl)) (pv 2) (pe_ix (k_ix (K := K) (by rfl)) (pv 0) pe_int (fun _ _ => rfl)) (fun _ _ => rfl)) (pv 3) (fun _ _ => rfl)) (pv 6) (fun _ _ => rfl)) (pa_cons (pe_ix (k_ix (K := K) (by rfl)) (pe_ix (k_ix (K := K) (by rfl)) (pe_ix (k_ix (K := K) (by rfl)) (pv 2) (pe_ix (k_ix (K := K) (by rfl)) (pv 0) pe_int (fun _ _ => rfl)) (fun _ _ => rfl)) (pv 6) (fun _ _ => rfl)) (pv 4) (fun _ _ => rfl)) pa_nil))) pa_nil))))))
        (pss_one (ps_ret (pv 5))))) pss_nil)
        (pss_cons (ps_asg (pe_callD D_l_source ⟨rfl, rfl, rfl, rfl, rfl⟩ (hr.mono (by decide)) (by rfl) (pa_cons (pv 0) (pa_cons (pv 1) (pa_cons (pv 3) (pa_cons (pv 4) pa_nil))))) (k_gtup (K := K) (n := 3) (by rfl) (by rfl) (pgs_cons (pg_name (i := 7) sc_l_cell_of.nd rfl (by first | exact Or.inl rfl | exact Or.inr rfl)) (pgs_cons (pg_name (i := 8) sc_l_cell_of.nd rfl (by first | exact Or.inl rfl | exact Or.inr rfl)) (pgs_cons (pg_name (i := 9) sc_l_cell_of.nd rfl (by first | exact Or.inl rfl | exact Or.inr rfl)) pgs_nil)))))
        (pss_one (ps_ret (pe_ix (k_ix (K := K) (by rfl)) (pe_ix (k_ix (K := K) (by rfl)) (pe_ix (k_ix (K := K) (by rfl)) (pv 2) (pv 7) (fun _ _ => rfl)) (pv 8) (fun _ _ => rfl)) (pv 9) (fun _ _ => rfl))))))), ?_⟩
    (try dsimp only [cxOf, Cx.nox, Cx.wish])
    rw [stp_items s]
    cases s with
    | plus a b =>
      obtain ⟨ha, hb, hca, hcb, hsa, hsb⟩ := hcc
      refine sj_seq (sj_ifd (b := true) (ET.is (by walk_at "u") ((dec_word _ _).trans (isW_ps a b))) (fun _ => ?_) fun e => by cases e)
      refine sj_ret ?_
      walk_at "u"
      exact r_l_sum hsa hsb
    | times a b =>
      obtain ⟨ha, hb, hl, hok⟩ := hcc
      obtain ⟨hbs, hbl⟩ : b < sh.length ∧ (shp sh b).1 = (mt mats b).length := hts
      refine sj_seq (sj_ifd (b := false) (ET.is (by walk_at "u") ((dec_word _ _).trans (isW_tp a b))) (fun e => by cases e) fun _ => sj_next ?_)
      refine sj_seq (sj_ifd (b := true) (ET.is (by walk_at "u") ((dec_word _ _).trans (isW_tt a b))) (fun _ => ?_) fun e => by cases e)
      refine sj_seq (sj_setd (by walk_at "u") ?_)
      generalize hA : mt mats a = A at *
      generalize hB : mt mats b = B at *
      refine sj_seq (sj_forr (n := B.length) (EA.isL (ds := [nD (shp sh b).1]) (ea_cons (ev_opd (ev_opd (ev_var rfl) (ev_opd (ev_var rfl) ev_c (ro_ix SeqD.t rfl)) (ro_ix SeqD.l (at_shp hbs))) ev_c (ro_ix SeqD.t rfl)) ea_nil) (by rw [hbl])) (by omega) (fun k Γ own => own = [] ∧ ∃ x6 : Option D, Γ = [some (.tup (.str (wordS (.times a b)) :: (argsS (.times a b)).map nD)), some (.lst (sh.map encSh)), some (.raw (.ref l)), some (nD i), some (nD j), some (encO (cpart A B i j k)), x6, none, none, none]) ⟨rfl, none, rfl⟩ ?_ ?_)
      · rintro k Γ' own' hk ⟨rfl, x6, rfl⟩
        have h1 : cellIn A i k := ⟨hok.fi, hok.a k hk⟩
        have h2 : cellIn B k j := ⟨hk, by
          rw [show B.getD k [] = B[k] by simp [List.getD, hk]]
          exact hok.b _ (List.getElem_mem _)⟩
        have m1 : atI (mats.map encMM) (a : Int) = some (encM (mats.getD a (false, [])).1 A) := by rw [at_mat ha, hA]
        have m2 : atI (mats.map encMM) (b : Int) = some (encM (mats.getD b (false, [])).1 B) := by rw [at_mat hb, hB]
        refine sj_setd (d := encO (cpart A B i j (k + 1))) ?_ ⟨rfl, some (nD k), rfl⟩
        refine ev_call (ea_cons (ev_var rfl) (ea_cons (ev_call (ea_cons (ev_opd (ev_opd (ev_opd (ev_var rfl) (ev_opd (ev_var rfl) ev_c (ro_ix SeqD.t rfl)) (ro_ix (SeqD.m (List.mem_cons_self ..)) m1)) (ev_var rfl) (ro_ix (seqD_mk _ _) (at_rowC h1))) (ev_var rfl) (ro_ix (seqD_mk _ _) (at_cellC h1)))
          (ea_cons (ev_opd (ev_opd (ev_opd (ev_var rfl) (ev_opd (ev_var rfl) ev_c (ro_ix SeqD.t rfl)) (ro_ix (SeqD.m (List.mem_cons_self ..)) m2)) (ev_var rfl) (ro_ix (seqD_mk _ _) (at_rowC h2))) (ev_var rfl) (ro_ix (seqD_mk _ _) (at_cellC h2))) ea_nil)) (r_l_product (hok.x k hk) (hok.y k hk))) ea_nil)) (r_l_sum (hok.s k hk) (hok.p k hk))
      · rintro Γ' own' ⟨rfl, x6, rfl⟩
        refine sj_ret (EV.is (ev_var rfl) ?_)
        show encO (cprod A B i j) = encO (cprod (mt mats a) (mt mats b) i j)
        rw [hA, hB]
    | star a => exact hcc.elim
    | _ =>
      obtain ⟨hp, hcl, hci⟩ := hcc
      refine sj_seq (sj_ifd (b := false) (ET.is (by walk_at "u") ((dec_word _ _).trans (isW_srcP _ rfl))) (fun e => by cases e) fun _ => sj_next ?_)
      refine sj_seq (sj_ifd (b := false) (ET.is (by walk_at "u") ((dec_word _ _).trans (isW_srcT _ rfl))) (fun e => by cases e) fun _ => sj_next ?_)
      refine sj_seq (sj_un3 (EV.imp (P := Is (enc3 (src _ sh i j))) (ev_call (ea_cons (ev_var rfl) (ea_cons (ev_var rfl) (ea_cons (ev_var rfl) (ea_cons (ev_var rfl) ea_nil)))) (r_l_source rfl hp)) fun d e => ⟨_, _, _, e, ?_⟩))
      refine sj_ret ?_
      walk_at "u"
theorem r_l_cell_of {s : Stp} {sh : List Shp} {l : Addr} {mats : List BMat} {i j : Nat} (h : CellsOk s sh mats i j) (h2 : TimesSh s sh mats) : R_l_cell_of K [encS s, .lst (sh.map encSh), .raw (.ref l), nD i, nD j] none [(l, mats.map encMM)] (Is (encO (cellMade s sh mats i j))) := ⟨s, sh, l, mats, i, j, h, h2, rfl, rfl, rfl, rfl⟩
end U
set_option maxHeartbeats 4000000
/-! U8: max of a pair, lists made fresh, matrices one may change, stores by place. -/
namespace U
open PySem PyProof.Rows L2 Evl RZ

/-! ### max((i, j)) -/
theorem max_pair {prog : Program} {w : World} {A : Around} {E : Value → Shared → Prop} {s : Shared} {l : Addr} {its : List Value} {i j : Int} {Q : Value → Shared → Prop} (hh : A.handled = none) (hl : s.heap.IsTuple l its.toArray) (hi : IntsAre its [i, j])
    (h : ∀ h' tk M t', (∀ b o, s.heap.get? b = some o → h'.get? b = some o) → M ∈ [i, j] → (∀ a, a ∈ [i, j] → a ≤ M) → Q (.int M t') { s with heap := h', toks := tk }) : wpAny (model prog w) A (call (.builtin "max") [.ref l]) Q E s := by
  obtain ⟨xs, e⟩ := hi.allInts.items
  have hn : numsOf (intItems xs).toList = [i, j] := by rw [← e]; exact hi.numsOf
  rw [nums_intItems] at hn
  rw [e] at hl
  have hsz : 0 < xs.size := by
    have : xs.toList.length = 2 := by have := congrArg List.length hn; simpa using this
    rw [← Array.length_toList]
    omega
  refine call_max_walk (wpAny_pyIter_tuple hl ?_)
  have hsz2 : (s.heap.push { cls := .type "tuple_iterator", data := .fields #[.ref l, .int 0 0] }).objs.size = s.heap.objs.size + 1 := Heap.size_push ..
  have hlt : l < s.heap.objs.size := by obtain ⟨_, e, _⟩ := hl; exact Heap.lt_size e
  refine ⟨_, _, _, _, _, _, _, rfl, Walks.tuple (A := A.in1) hh _ l (Nat.ne_of_lt hlt) (intItems xs), ⟨⟨_, Heap.get?_push_size _ rfl, rfl, rfl⟩, IsTup.push hl _⟩, fun b hb => ?_, by simpa [intItems] using hsz, CmpOf.ints_gt (numAt xs) (fun _ _ => intItems_at), fun v h' tk hv hk => ?_⟩
  · rw [hsz2]
    rcases List.mem_cons.mp hb with rfl | hb
    · exact Nat.lt_succ_self _
    · rw [List.mem_singleton.mp hb]
      exact Nat.lt_succ_of_lt hlt
  · obtain ⟨t, rfl⟩ := intItems_at hv
    obtain ⟨h1, h2⟩ := argBest_gt (numAt xs) ((intItems xs).size - 1)
    have es : (intItems xs).size = xs.size := by simp [intItems]
    rw [es] at h1 h2 ⊢
    refine h h' tk _ t (fun b o q => hk b o (fun hm => ?_) (Heap.get?_push_of_some _ q)) ?_ fun a ha => ?_
    · have := Heap.lt_size q
      rw [List.mem_singleton.mp hm] at this
      exact Nat.lt_irrefl _ this
    · rw [← hn, numAt_eq]; exact PySem.getD_mem (by rw [List.length_map, Array.length_toList]; omega)
    · rw [← hn] at ha
      obtain ⟨m, hm, rfl⟩ := mem_getD ha
      rw [List.length_map, Array.length_toList] at hm
      rw [← numAt_eq]; exact h2 m (by omega)
def cMax (K : PySem.W.Frag) : List V → Hp → VK → Prop := fun vs H Q => ∃ (a : Addr) (i j : Int), vs = [V.ref a] ∧ SqT K H a [.int i, .int j] ∧ Q (.int (max i j)) H
theorem k_max {X : Cx} {K : PySem.W.Frag} (h : X.K = K) (hc : X.calm = true) : CallR X (.builtin "max") (cMax K) := by
  subst h
  intro pins s σ H vs us Q I r h
  obtain ⟨a, i, j, rfl, hs, q⟩ := h
  obtain ⟨its, rv, hl, _⟩ := I.tuple hs
  rw [Vals.ref1 r]
  refine max_pair (i := i) (j := j) (I.ok.hd hc) hl (Vals.ints (ns := [i, j]) rv) fun h' tk m t' hk h1 h2 => ⟨.int _, H, I.kept hk, ⟨_, rfl⟩, ?_⟩
  have e : m = max i j := by
    have a1 := h2 i (by simp)
    have a2 := h2 j (by simp)
    rcases List.mem_cons.mp h1 with e | e
    · omega
    · have := List.mem_singleton.mp e
      omega
  rw [e]
  exact q
theorem rc_max {K : PySem.W.Frag} {st : Stt} {mu : Mu} {i j : Int} : RC K st mu (cMax K) [.tup [.int i, .int j]] (Is (.int (max i j))) := fun H0 H vs i' so m r Q q => by
  cases r with
  | cons r t =>
    cases t
    obtain ⟨a, ws, rfl, hs, r⟩ := r.tupI
    have e := ints_of (ns := [i, j]) r
    subst e
    exact ⟨a, i, j, rfl, ex_t i' hs, q _ _ H0 H (Gr.refl i') so rfl (.raw _)⟩

/-! ### o[i] op= e -/
def rGetL (K : PySem.W.Frag) : V → V → Hp → VK → Prop := fun o i H Q => ∃ (p : Addr) (xs : List V) (k : Nat) (v : V), o = .ref p ∧ i = .int (k : Int) ∧ SqL K H p xs ∧ xs[k]? = some v ∧ Q v H
theorem k_get {X : Cx} {K : PySem.W.Frag} (h : X.K = K) : PGet X (rGetL K) := by
  subst h
  intro pins s σ H o i ov iv Q I ro ri h
  obtain ⟨p, xs, k, v, rfl, rfl, hp, hk, q⟩ := h
  cases ro
  obtain ⟨t, rfl⟩ := ri
  obtain ⟨its, rv, pl, hz⟩ := I.list hp
  obtain ⟨u, hu, ru⟩ := rv.get hk
  have hn := line63
  have hl : k < xs.length := (List.getElem?_eq_some_iff.mp hk).1
  exact getItem_listL pl.isList (by omega) (by omega) (by simpa using hu) ⟨v, H, I, ru, q⟩
section
variable {c : Cn} {Γ : G} {own : Mu} {NX : G → Mu → Prop} {to tj te tk : TE} {j k : Nat} {P PV : D → Prop}
/-- o[m] += e, of an own list -/
theorem sj_augix {l : Addr} {ds : List D} {m : Nat} {x y : Int} (ho : EV c.K c.st (c.bor ++ own) to Γ (Is (.raw (.ref l)))) (hj : EV c.K c.st (c.bor ++ own) tj Γ (Is (.int (m : Nat)))) (hk : own[k]? = some (l, ds)) (hm : ds[m]? = some (.int x))
    (he : EV c.K c.st (c.bor ++ own) te Γ (Is (.int y))) (q : NX Γ (own.set k (l, ds.set m (.int (x + y))))) : SJ c (tAugS to tj te (rGetL c.K) (ipI fun i j => i + j) rSetL) Γ own NX := fun B0 B H0 σ H w D nx ct bk rt =>
  ho σ H0 H w.i w.s w.mu w.n _ fun v1 d1 H1 H1' g1 s1 p1 r1 => by
    have w1 := w.step g1 s1
    refine hj σ H1 H1' w1.i w1.s w1.mu w1.n _ fun v2 d2 H2 H2' g2 s2 p2 r2 => ?_
    have w2 := w1.step g2 s2
    cases p1
    cases r1
    cases p2
    cases r2
    obtain ⟨vs, hl, r⟩ := w2.o.h _ (List.mem_of_getElem? hk)
    obtain ⟨v, hv, rv⟩ := r.get hm
    cases rv
    refine ⟨l, vs, m, _, rfl, rfl, SqL.of hl, hv, he σ H2 H2' w2.i w2.s w2.mu w2.n _ fun v3 d3 H3 H3' g3 s3 p3 r3 => ?_⟩
    have w3 := w2.step g3 s3
    cases p3
    cases r3
    obtain ⟨vs3, hl3, r3⟩ := w3.o.h _ (List.mem_of_getElem? hk)
    have hz : m < vs3.length := by rw [r3.length]; exact (List.getElem?_eq_some_iff.mp hm).1
    exact ⟨x, y, rfl, rfl, l, vs3, _, m, rfl, rfl, hl3, ixN_nat hz, nx _ _ _ _ _ q (w3.chg hk (r3.set (.raw _) m))⟩
/-- o[m] = e, o any expression for an own list -/
theorem sj_setixE {l : Addr} {ds : List D} {m : Nat} (h : EV c.K c.st (c.bor ++ own) te Γ PV) (ho : EV c.K c.st (c.bor ++ own) to Γ (Is (.raw (.ref l)))) (hj : EV c.K c.st (c.bor ++ own) tj Γ (Is (.int (m : Nat)))) (hk : own[k]? = some (l, ds)) (hm : m < ds.length) (q : ∀ d, PV d → NX Γ (own.set k (l, ds.set m d))) :
    SJ c (tAsg te (gSub to tj rSetL)) Γ own NX := fun B0 B H0 σ H w D nx ct bk rt =>
  h σ H0 H w.i w.s w.mu w.n _ fun v d H1 H' g s p rd => by
    have w1 := w.step g s
    refine ho σ H1 H' w1.i w1.s w1.mu w1.n _ fun v2 d2 H2 H2' g2 s2 p2 r2 => ?_
    have w2 := w1.step g2 s2
    refine hj σ H2 H2' w2.i w2.s w2.mu w2.n _ fun v3 d3 H3 H3' g3 s3 p3 r3 => ?_
    have w3 := w2.step g3 s3
    cases p2
    cases r2
    cases p3
    cases r3
    obtain ⟨vs, hl, r⟩ := w3.o.h _ (List.mem_of_getElem? hk)
    have hz : m < vs.length := by rw [r.length]; exact hm
    exact ⟨l, vs, _, m, rfl, rfl, hl, ixN_nat hz, nx _ _ _ _ _ (q d p) (w3.chg hk (r.set (rd.mono (g2.e0.trans g3.e0)) m))⟩
/-- l.append(e), l any expression for an own list -/
theorem sj_appE {l : Addr} {ds : List D} (ho : EV c.K c.st (c.bor ++ own) to Γ (Is (.raw (.ref l)))) (hk : own[k]? = some (l, ds)) (h : EV c.K c.st (c.bor ++ own) te Γ PV) (hz : ds.length < 50000) (q : ∀ d, PV d → NX Γ (own.set k (l, ds ++ [d]))) :
    SJ c (tDrop (tBM c.K "list" rAppend to (tCons te tNil))) Γ own NX := fun B0 B H0 σ H w D nx ct bk rt =>
  ho σ H0 H w.i w.s w.mu w.n _ fun v1 d1 H1 H1' g1 s1 p1 r1 => by
    have w1 := w.step g1 s1
    cases p1
    cases r1
    have hm : (l, ds) ∈ own := List.mem_of_getElem? hk
    obtain ⟨vs, hl, r⟩ := w1.o.h _ hm
    refine ⟨.inl ⟨rfl, vs, SqL.of hl⟩, h σ H1 H1' w1.i w1.s w1.mu w1.n _ fun v d H2 H2' g s p rd => ?_⟩
    have w' := w1.step g s
    have hl' := g.at (w1.o.s _ hm) hl
    exact ⟨l, vs, v, rfl, rfl, hl', sz_lt (by rw [r.length]; show ds.length < _; omega), nx _ _ _ _ _ (q d p) (w'.chg hk ((r.mono g.e0).app (.one rd)))⟩
/-- o[m], o[n] = a pair -/
theorem sj_swap {tk : TE} {to2 : TE} {l : Addr} {ds : List D} {m n : Nat} {x y : D} (h : EV c.K c.st (c.bor ++ own) te Γ (Is (.tup [x, y]))) (ho : EV c.K c.st (c.bor ++ own) to Γ (Is (.raw (.ref l)))) (hj : EV c.K c.st (c.bor ++ own) tj Γ (Is (.int (m : Nat)))) (hk : own[k]? = some (l, ds)) (hm : m < ds.length) (hn : n < ds.length)
    (ho2 : EV c.K c.st (c.bor ++ own.set k (l, ds.set m x)) to2 Γ (Is (.raw (.ref l)))) (hj2 : EV c.K c.st (c.bor ++ own.set k (l, ds.set m x)) tk Γ (Is (.int (n : Nat)))) (q : NX Γ (own.set k (l, (ds.set m x).set n y))) :
    SJ c (tAsg te (gTup c.K 2 (gCons (gSub to tj rSetL) (gCons (gSub to2 tk rSetL) gNil)))) Γ own NX := fun B0 B H0 σ H w D nx ct bk rt =>
  h σ H0 H w.i w.s w.mu w.n _ fun v d H1 H1' g1 s1 p1 r1 => by
    have w1 := w.step g1 s1
    cases p1
    obtain ⟨T, vs, rfl, hT, rr⟩ := r1.tupI
    cases rr with
    | cons ra t =>
      cases t with
      | cons rb t =>
        cases t
        refine ⟨T, _, rfl, ex_t w1.i hT, rfl, _, _, rfl, ho σ H1 H1' w1.i w1.s w1.mu w1.n _ fun v2 d2 H2 H2' g2 s2 p2 r2 => ?_⟩
        have w2 := w1.step g2 s2
        refine hj σ H2 H2' w2.i w2.s w2.mu w2.n _ fun v3 d3 H3 H3' g3 s3 p3 r3 => ?_
        have w3 := w2.step g3 s3
        cases p2
        cases r2
        cases p3
        cases r3
        obtain ⟨vs, hl, r⟩ := w3.o.h _ (List.mem_of_getElem? hk)
        have hz : m < vs.length := by rw [r.length]; exact hm
        refine ⟨l, vs, _, m, rfl, rfl, hl, ixN_nat hz, _, _, rfl, ?_⟩
        have w4 := w3.chg hk (r.set (ra.mono (g2.e0.trans g3.e0)) m)
        have hk4 : (own.set k (l, ds.set m x))[k]? = some (l, ds.set m x) := List.getElem?_set_self (List.getElem?_eq_some_iff.mp hk).1
        refine ho2 σ H3 _ w4.i w4.s w4.mu w4.n _ fun v5 d5 H5 H5' g5 s5 p5 r5 => ?_
        have w5 := w4.step g5 s5
        refine hj2 σ H5 H5' w5.i w5.s w5.mu w5.n _ fun v6 d6 H6 H6' g6 s6 p6 r6 => ?_
        have w6 := w5.step g6 s6
        cases p5
        cases r5
        cases p6
        cases r6
        obtain ⟨vs6, hl6, q6⟩ := w6.o.h _ (List.mem_of_getElem? hk4)
        have hz6 : n < vs6.length := by rw [q6.length, List.length_set]; exact hn
        have w7 := w6.chg hk4 (q6.set (rb.mono (g2.e0.trans (g3.e0.trans (g5.e0.trans g6.e0)))) n)
        rw [List.set_set] at w7
        exact ⟨l, vs6, _, n, rfl, rfl, hl6, ixN_nat hz6, rfl, nx _ _ _ _ _ q w7⟩
end
end U
set_option maxHeartbeats 4000000
/-! U9: lists made fresh and kept as one's own; matrices. -/
namespace U
open PySem PyProof.Rows L2 Evl RZ
section
variable {c : Cn} {B0 B H0 H H1 H' : Hp} {Γ : G} {own nw : Mu} {σ : L2.St}
/-- lists that an expression made become one's own -/
theorem Wd.adopt (w : Wd c B0 B H0 Γ own σ H) (g : Gr (Sx c.st) H0 H H1 H') (s : StOk c.st H1 H') (nd : (nw.map (·.1)).Nodup) (hn : ∀ p ∈ nw, H p.1 = none ∧ H1 p.1 = none ∧ ∃ vs, H' p.1 = some (.lst vs) ∧ RpAll c.K H1 vs p.2) : Wd c B0 B H1 Γ (own ++ nw) σ H' := by
  have w' := w.step g s
  refine ⟨w'.gr, s, w'.b, w'.bB, w'.n, ⟨?_, fun q hq => ?_, fun q hq => ?_, fun q hq => ?_, fun q hq => ?_⟩⟩
  · rw [List.map_append, List.nodup_append]
    refine ⟨w.o.nd, nd, fun a ha b hb e => ?_⟩
    obtain ⟨q, hq, e1⟩ := List.mem_map.mp ha
    obtain ⟨p, hp, e2⟩ := List.mem_map.mp hb
    obtain ⟨us, h, _⟩ := w.o.h q hq
    have := (hn p hp).1
    rw [e2, ← e, ← e1, h] at this
    cases this
  · exact (List.mem_append.mp hq).elim (w.o.b q) fun hq => w.gr.free (hn q hq).1
  · exact (List.mem_append.mp hq).elim (w'.o.z q) fun hq => (hn q hq).2.1
  · exact (List.mem_append.mp hq).elim (w.o.s q) fun hq => w.s.nin (hn q hq).1
  · exact (List.mem_append.mp hq).elim (w'.o.h q) fun hq => (hn q hq).2.2
/-- one own list is frozen, no slot is looked at -/
theorem Wd.fz (w : Wd c B0 B H0 Γ own σ H) {k : Nat} {l : Addr} {ds : List D} (hk : own[k]? = some (l, ds)) : ∃ H1, Wd c B0 B H1 Γ (own.eraseIdx k) σ H ∧ Ex H0 H1 ∧ Rp c.K H1 (.ref l) (.lst ds) := by
  have hm : (l, ds) ∈ own := List.mem_of_getElem? hk
  obtain ⟨vs, hl, r⟩ := w.o.h _ hm
  have hz := w.o.z _ hm
  have hs := w.o.s _ hm
  have hx : Ex H0 (upd H0 l (.lst vs)) := Ex.new hz
  have mem : ∀ q ∈ own.eraseIdx k, q ∈ own ∧ q.1 ≠ l := fun q hq => by
    obtain ⟨i', ne, hi'⟩ := List.mem_eraseIdx_iff_getElem?.mp hq
    refine ⟨List.mem_of_getElem? hi', fun z => ne ?_⟩
    obtain ⟨q1, q2⟩ := q
    have z' : q1 = l := z
    subst z'
    exact (nd_keys w.o.nd hk hi').symm
  refine ⟨upd H0 l (.lst vs), ⟨w.gr.freeze (w.o.b _ hm) hz hl, w.s.freeze hs hz, fun p hp => ?_, w.bB, w.n.mono hx, ⟨List.Nodup.sublist ((List.eraseIdx_sublist own k).map _) w.o.nd, fun q hq => w.o.b q (mem q hq).1, fun q hq => ?_, fun q hq => w.o.s q (mem q hq).1, fun q hq => ?_⟩⟩, hx, .lst upd_same (r.mono hx)⟩
  · obtain ⟨n, us, h, r'⟩ := w.b p hp
    exact ⟨n, us, h, r'.mono hx⟩
  · rw [upd_ne (mem q hq).2]
    exact w.o.z q (mem q hq).1
  · obtain ⟨us, h, r'⟩ := w.o.h q (mem q hq).1
    exact ⟨us, h, r'.mono hx⟩
end

/-! ### expressions that make a list -/
section
variable (K : PySem.W.Frag) (st : Stt) (mu : Mu)
def EVF (te : TE) (Γ : G) (P : List D → Prop) : Prop := ∀ (σ : L2.St) (H0 H : Hp), Ex H0 H → StOk st H0 H → MuR K st mu H0 H → En K H0 σ Γ →
  ∀ Q : VK, (∀ a vs ds H1 H', H a = none → H1 a = none → H' a = some (.lst vs) → Gr (Sx st) H0 H H1 H' → StOk st H1 H' → P ds → RpAll K H1 vs ds → Q (.ref a) H') → te σ H Q
/-- a list of lists, all fresh -/
def EVM (te : TE) (Γ : G) (P : List (List D) → Prop) : Prop := ∀ (σ : L2.St) (H0 H : Hp), Ex H0 H → StOk st H0 H → MuR K st mu H0 H → En K H0 σ Γ →
  ∀ Q : VK, (∀ a (ls : List Addr) rows H1 H', H a = none → H1 a = none → H' a = some (.lst (ls.map V.ref)) → a ∉ ls → ls.Nodup → ls.length = rows.length → (∀ p ∈ ls.zip rows, H p.1 = none ∧ H1 p.1 = none ∧ ∃ vs, H' p.1 = some (.lst vs) ∧ RpAll K H1 vs p.2) →
    Gr (Sx st) H0 H H1 H' → StOk st H1 H' → P rows → Q (.ref a) H') → te σ H Q
end
section
variable {K : PySem.W.Frag} {st : Stt} {mu mu' : Mu} {Γ : G} {te ta tl : TE} {tt : TT} {P : List D → Prop}
theorem evf_list {tA : TA} {d : D} {ds : List D} (h : EA K st mu tA Γ (Is [d])) (s : SeqD mu d ds) : EVF K st mu (tCB (cList K) tA) Γ (Is ds) := fun σ H0 H i so m n Q q =>
  h σ H0 H i so m n _ fun vs ds' H1 H2 g1 s1 p rr => by
    subst p
    cases rr with
    | cons r t =>
      cases t
      obtain ⟨a, vs, rfl, hs, r⟩ := s.at2 g1.i (m.gr g1) r
      refine ⟨a, vs, rfl, hs, fun l hl => ?_⟩
      exact q l vs ds H1 _ (g1.free hl) (fresh_back g1.i hl) upd_same (g1.trans (Gr.priv g1.i hl)) (s1.mut (s1.nin hl)) rfl r
theorem evf_lst {tA : TA} {PL : List D → Prop} (h : EA K st mu tA Γ PL) (hz : ∀ ds, PL ds → ds.length ≤ 100000) : EVF K st mu (tLst tA) Γ PL := fun σ H0 H i so m n Q q =>
  h σ H0 H i so m n _ fun vs ds H1 H2 g1 s1 p rr => ⟨sz_of (by rw [rr.length]; exact hz ds p), fun l hl =>
    q l vs ds H1 _ (g1.free hl) (fresh_back g1.i hl) upd_same (g1.trans (Gr.priv g1.i hl)) (s1.mut (s1.nin hl)) p rr⟩
theorem evf_cat {tb : TE} {xs ys : List D} (ha : EV K st mu ta Γ (Is (.lst xs))) (hb : EV K st mu tb Γ (Is (.lst ys))) (hz : xs.length + ys.length ≤ 100000) : EVF K st mu (tOp rCat ta tb) Γ (Is (xs ++ ys)) := fun σ H0 H i so m n Q q =>
  ha σ H0 H i so m n _ fun vx x H1 H2 g1 s1 px rx => hb σ H1 H2 g1.i s1 (m.gr g1) (n.mono g1.e0) _ fun vy y H3 H4 g2 s2 py ry => by
    subst px py
    obtain ⟨a, vs, rfl, h1, r1⟩ := (rx.mono g2.e0).lstI
    obtain ⟨b, ws, rfl, h2, r2⟩ := ry.lstI
    refine ⟨_, _, _, _, rfl, rfl, g2.i _ _ h1, g2.i _ _ h2, sz_of (by rw [r1.length, r2.length]; exact hz), fun p hp => ?_⟩
    have g12 := g1.trans g2
    exact q p _ _ H3 _ (g12.free hp) (fresh_back g2.i hp) upd_same (g12.trans (Gr.priv g2.i hp)) (s2.mut (s2.nin hp)) rfl (r1.app r2)
/-- [e for ..], its items with PE -/
theorem evf_lc {wi : TI} {g : TG} {js vs : List Nat} {WP : Nat → (G → Nat → G) → Prop} (it : IT K st mu mu' wi g js WP Γ) (hm : ∀ p ∈ mu', p ∈ mu) (hj : ∀ j ∈ js, j ∈ vs) (hz : ∀ n t, WP n t → n ≤ 50000) (PE : Nat → (G → Nat → G) → Nat → D → Prop)
    (he : ∀ n t i, WP n t → i < n → EV K st mu te (t (wipeG Γ vs) i) (PE n t i)) :
    EVF K st mu (tLc wi g tYes te vs) Γ (fun es => ∃ n t, WP n t ∧ es.length = n ∧ ∀ i e, es[i]? = some e → PE n t i e) := fun σ H0 H i s m nn Q q =>
  it σ H0 H i s m nn _ fun J n t H1 H2 wp g1 s1 go stop yld => fun L hL => by
    have hLH : H L = none := g1.free hL
    have hLS : L ∉ Sx st := s1.nin hL
    have hL1 : H1 L = none := fresh_back g1.i hL
    refine ⟨fun i m' A => m' = n - i ∧ i ≤ n ∧ ∃ (A0 : Hp) (ws : List V) (es : List U.D), Gr (Sx st) H0 H A0 A ∧ StOk st A0 A ∧ Ex H1 A0 ∧ A0 L = none ∧ A L = some (.lst ws) ∧ RpAll K A0 ws es ∧ es.length = i ∧ ∀ k e, es[k]? = some e → PE n t k e,
      ⟨n, by simp, Nat.zero_le _, H1, [], [], g1.trans (Gr.priv g1.i hL), s1.mut hLS, Ex.refl _, hL1, upd_same, .nil, rfl, fun k e h => by simp at h⟩, ?_⟩
    rintro k m' A ⟨rfl, hk, A0, ws, es, gA, sA, eA, dA, hA, rA, lA, pA⟩
    have mA : MuR K st mu A0 A := m.gr gA
    by_cases hlt : k < n
    · refine .inr ⟨go k A0 A hlt eA gA.i (mA.sub hm), fun A' => ∃ m2, m2 < n - k ∧ (m2 = n - (k + 1) ∧ k + 1 ≤ n ∧ ∃ (A0 : Hp) (ws : List V) (es : List U.D), Gr (Sx st) H0 H A0 A' ∧ StOk st A0 A' ∧ Ex H1 A0 ∧ A0 L = none ∧ A' L = some (.lst ws) ∧ RpAll K A0 ws es ∧ es.length = k + 1 ∧ ∀ k e, es[k]? = some e → PE n t k e), fun A' z => z, fun x A' y => ?_⟩
      refine yld k A0 A x A' hlt eA gA.i (mA.sub hm) y (wipe σ vs) (wipeG Γ vs) ((nn.mono gA.e0).wipe vs) _ fun σ2 A1 A2 g2 n2 w2 => ?_
      refine ⟨(w2 vs hj).trans wipe_wipe, ?_⟩
      have gA2 : Gr (Sx st) H0 H A1 A2 := gA.trans g2.wide
      have sA2 : StOk st A1 A2 := sA.gr g2
      refine he n t k wp hlt σ2 A1 A2 g2.i sA2 (m.gr gA2) n2 _ fun v d A3 A4 g3 s3 p3 r3 => ?_
      have h2 : A2 L = some (.lst ws) := g2.at (by simp) hA
      have h4 : A4 L = some (.lst ws) := g3.at hLS h2
      have d1 : A1 L = none := g2.p L _ hA dA
      have d3 : A3 L = none := g3.p L _ h2 d1
      refine ⟨ws, h4, sz_lt (by have := hz n t wp; rw [rA.length, lA]; omega), n - (k + 1), by omega, rfl, hlt, A3, ws ++ [v], es ++ [d], (gA2.trans g3).mut hLH d3, s3.mut hLS, (eA.trans g2.e0).trans g3.e0, d3, upd_same, (rA.mono (g2.e0.trans g3.e0)).app (.one r3), by simp [lA], fun k' e h => ?_⟩
      by_cases hk' : k' < es.length
      · rw [List.getElem?_append_left hk'] at h
        exact pA k' e h
      · rw [List.getElem?_append_right (by omega)] at h
        have e0 : k' - es.length = 0 := by
          have := (List.getElem?_eq_some_iff.mp h).1
          simp at this
          omega
        rw [e0] at h
        have ed : d = e := by simpa using h
        have ek : k' = k := by omega
        rw [← ed, ek]
        exact p3
    · have e : k = n := by omega
      subst e
      refine .inl ⟨stop A0 A eA gA.i (mA.sub hm), ?_⟩
      exact q L ws es A0 A hLH dA hA gA sA ⟨_, t, wp, lA, pA⟩ rA
theorem list_is {n : Nat} {f : Nat → D} {es : List D} (l : es.length = n) (h : ∀ i e, es[i]? = some e → e = f i) : es = (List.range n).map f := by
  apply List.ext_getElem?
  intro i
  rw [List.getElem?_map]
  by_cases hi : i < n
  · have hl : i < es.length := by rw [l]; exact hi
    rw [List.getElem?_range hi, List.getElem?_eq_getElem hl, h i es[i] (by simp [hl])]
    rfl
  · rw [List.getElem?_eq_none (by omega), List.getElem?_eq_none (by simp; omega)]
    rfl
theorem evf_lcd {wi : TI} {g : TG} {js vs : List Nat} {n : Nat} {t : G → Nat → G} (it : IT K st mu mu' wi g js (WIs n t) Γ) (hm : ∀ p ∈ mu', p ∈ mu) (hj : ∀ j ∈ js, j ∈ vs) (hz : n ≤ 50000) (f : Nat → D)
    (he : ∀ i, i < n → EV K st mu te (t (wipeG Γ vs) i) (Is (f i))) : EVF K st mu (tLc wi g tYes te vs) Γ (Is ((List.range n).map f)) := fun σ H0 H i s m nn Q q =>
  evf_lc it hm hj (fun n' t' w => by rw [w.1]; exact hz) (fun _ _ i => Is (f i)) (fun n' t' i w hi => by rw [w.2]; exact he i (by rw [← w.1]; exact hi)) σ H0 H i s m nn Q fun a vs ds H1 H' h1 h2 h3 g s ⟨n', t', w, l, p⟩ r => q a vs ds H1 H' h1 h2 h3 g s (list_is (l.trans w.1) p) r
/-- [[..] for ..] -/
theorem evm_lc {wi : TI} {g : TG} {js vs : List Nat} {n : Nat} {t : G → Nat → G} (it : IT K st mu mu' wi g js (WIs n t) Γ) (hm : ∀ p ∈ mu', p ∈ mu) (hj : ∀ j ∈ js, j ∈ vs) (hz : n ≤ 50000) (f : Nat → List D)
    (he : ∀ i, i < n → EVF K st mu te (t (wipeG Γ vs) i) (Is (f i))) : EVM K st mu (tLc wi g tYes te vs) Γ (Is ((List.range n).map f)) := fun σ H0 H i s m nn Q q =>
  it σ H0 H i s m nn _ fun J n' t' H1 H2 wp g1 s1 go stop yld => fun L hL => by
    obtain ⟨en, et⟩ := wp
    subst en et
    have hLH : H L = none := g1.free hL
    have hLS : L ∉ Sx st := s1.nin hL
    have hL1 : H1 L = none := fresh_back g1.i hL
    refine ⟨fun i m' A => m' = n' - i ∧ i ≤ n' ∧ ∃ (A0 : Hp) (ls : List Addr), Gr (Sx st) H0 H A0 A ∧ StOk st A0 A ∧ Ex H1 A0 ∧ A0 L = none ∧ A L = some (.lst (ls.map V.ref)) ∧ L ∉ ls ∧ ls.Nodup ∧ ls.length = i ∧
        ∀ p ∈ ls.zip ((List.range i).map f), p.1 ∉ Sx st ∧ H p.1 = none ∧ A0 p.1 = none ∧ ∃ vs, A p.1 = some (.lst vs) ∧ RpAll K A0 vs p.2,
      ⟨n', by simp, Nat.zero_le _, H1, [], g1.trans (Gr.priv g1.i hL), s1.mut hLS, Ex.refl _, hL1, upd_same, by simp, by simp, rfl, fun p hp => by simp at hp⟩, ?_⟩
    rintro k m' A ⟨rfl, hk, A0, ls, gA, sA, eA, dA, hA, nL, nd, lA, pA⟩
    have mA : MuR K st mu A0 A := m.gr gA
    by_cases hlt : k < n'
    · refine .inr ⟨go k A0 A hlt eA gA.i (mA.sub hm), fun A' => ∃ m2, m2 < n' - k ∧ (m2 = n' - (k + 1) ∧ k + 1 ≤ n' ∧ ∃ (A0 : Hp) (ls : List Addr), Gr (Sx st) H0 H A0 A' ∧ StOk st A0 A' ∧ Ex H1 A0 ∧ A0 L = none ∧ A' L = some (.lst (ls.map V.ref)) ∧ L ∉ ls ∧ ls.Nodup ∧ ls.length = k + 1 ∧
        ∀ p ∈ ls.zip ((List.range (k + 1)).map f), p.1 ∉ Sx st ∧ H p.1 = none ∧ A0 p.1 = none ∧ ∃ vs, A' p.1 = some (.lst vs) ∧ RpAll K A0 vs p.2), fun A' z => z, fun x A' y => ?_⟩
      refine yld k A0 A x A' hlt eA gA.i (mA.sub hm) y (wipe σ vs) (wipeG Γ vs) ((nn.mono gA.e0).wipe vs) _ fun σ2 A1 A2 g2 n2 w2 => ?_
      refine ⟨(w2 vs hj).trans wipe_wipe, ?_⟩
      have gA2 : Gr (Sx st) H0 H A1 A2 := gA.trans g2.wide
      have sA2 : StOk st A1 A2 := sA.gr g2
      have h2 : A2 L = some (.lst (ls.map V.ref)) := g2.at (by simp) hA
      have d1 : A1 L = none := g2.p L _ hA dA
      refine he k hlt σ2 A1 A2 g2.i sA2 (m.gr gA2) n2 _ fun a vs' ds A3 A4 a2 a3 a4 g3 s3 p3 r3 => ?_
      have h4 : A4 L = some (.lst (ls.map V.ref)) := g3.at hLS h2
      have d3 : A3 L = none := g3.p L _ h2 d1
      have aL : a ≠ L := fun e => by rw [e, h2] at a2; cases a2
      have old : ∀ p ∈ ls.zip ((List.range k).map f), ∃ vs, A2 p.1 = some (.lst vs) := fun p hp => by
        obtain ⟨_, _, _, vs, h, _⟩ := pA p hp
        exact ⟨vs, g2.at (by simp) h⟩
      have hlz : ls.length = ((List.range k).map f).length := by simp [lA]
      have aN : a ∉ ls := fun ha => by
        obtain ⟨i', hi', e⟩ := List.mem_iff_getElem.mp ha
        have hz' : i' < (ls.zip ((List.range k).map f)).length := by rw [List.length_zip]; omega
        obtain ⟨vs, h⟩ := old _ (List.getElem_mem hz')
        rw [List.getElem_zip] at h
        simp only at h
        rw [e, a2] at h
        cases h
      refine ⟨_, h4, sz_lt (by rw [List.length_map, lA]; omega), n' - (k + 1), by omega, rfl, hlt, A3, ls ++ [a], (gA2.trans g3).mut hLH d3, s3.mut hLS, (eA.trans g2.e0).trans g3.e0, d3, by rw [List.map_append]; exact upd_same, by simp [nL, aL.symm], ?_, by simp [lA], ?_⟩
      · rw [List.nodup_append]
        exact ⟨nd, by simp, fun x hx y hy e => aN (by rw [← List.mem_singleton.mp hy, ← e]; exact hx)⟩
      · intro p hp
        rw [List.range_succ, List.map_append, List.zip_append hlz] at hp
        rcases List.mem_append.mp hp with hp | hp
        · obtain ⟨q1, q2, q3, vs, q4, q5⟩ := pA p hp
          have ne : p.1 ≠ L := fun e => nL (by rw [← e]; exact (List.of_mem_zip (show (p.1, p.2) ∈ _ from hp)).1)
          have z2 : A2 p.1 = some (.lst vs) := g2.at (by simp) q4
          refine ⟨q1, q2, g3.p _ _ z2 (g2.p _ _ q4 q3), vs, ?_, q5.mono (g2.e0.trans g3.e0)⟩
          rw [upd_ne ne]
          exact g3.at q1 z2
        · have e : p = (a, f k) := by simpa using hp
          subst e
          refine ⟨sA2.nin a2, gA2.free a2, a3, vs', ?_, ?_⟩
          · rw [upd_ne aL]
            exact a4
          · cases p3
            exact r3
    · have e : k = n' := by omega
      subst e
      refine .inl ⟨stop A0 A eA gA.i (mA.sub hm), ?_⟩
      exact q L ls _ A0 A hLH dA hA nL nd (by simp [lA]) (fun p hp => (pA p hp).2) gA sA rfl
end

/-! ### statements -/
def mrx (a : Addr) (ls : List Addr) (rows : List (List D)) : Mu := (a, ls.map fun l => D.raw (.ref l)) :: ls.zip rows
section
variable {c : Cn} {Γ : G} {own : Mu} {NX : G → Mu → Prop} {te : TE} {ts : TS} {i : Nat} {P : List D → Prop}
theorem sj_setF (h : EVF c.K c.st (c.bor ++ own) te Γ P) (k : ∀ ds l, P ds → NX (Γ.set i (some (.raw (.ref l)))) (own ++ [(l, ds)])) : SJ c (tAsg te (gName i)) Γ own NX := fun B0 B H0 σ H w D nx ct bk rt =>
  h σ H0 H w.i w.s w.mu w.n _ fun a vs ds H1 H' h1 h2 h3 g s p r => nx _ _ _ _ _ (k ds a p) ((w.adopt (nw := [(a, ds)]) g s (by simp) fun q hq => by
    rw [List.mem_singleton.mp hq]
    exact ⟨h1, h2, vs, h3, r⟩).slot (.raw _) i)
theorem sj_retF (h : EVF c.K c.st (c.bor ++ own) te Γ P) (k : ∀ ds l, P ds → c.P (.raw (.ref l)) ∧ c.W (.raw (.ref l)) (own ++ [(l, ds)])) : SJ c (tRet te) Γ own NX := fun B0 B H0 σ H w D nx ct bk rt =>
  h σ H0 H w.i w.s w.mu w.n _ fun a vs ds H1 H' h1 h2 h3 g s p r => by
    have w' := w.adopt (nw := [(a, ds)]) g s (by simp) fun q hq => by
      rw [List.mem_singleton.mp hq]
      exact ⟨h1, h2, vs, h3, r⟩
    exact rt _ _ _ H1 H' w'.gr s (k ds a p).1 (k ds a p).2 w'.o (.raw _)
theorem sj_setM {PM : List (List D) → Prop} (h : EVM c.K c.st (c.bor ++ own) te Γ PM) (k : ∀ rows a ls, PM rows → ls.length = rows.length → NX (Γ.set i (some (.raw (.ref a)))) (own ++ mrx a ls rows)) : SJ c (tAsg te (gName i)) Γ own NX := fun B0 B H0 σ H w D nx ct bk rt =>
  h σ H0 H w.i w.s w.mu w.n _ fun a ls rows H1 H' h1 h2 h3 na nd hl hz g s p => nx _ _ _ _ _ (k rows a ls p hl) ((w.adopt (nw := mrx a ls rows) g s (by
    show (a :: (ls.zip rows).map (·.1)).Nodup
    rw [List.map_fst_zip (by omega)]
    exact List.nodup_cons.mpr ⟨na, nd⟩) fun q hq => by
    rcases List.mem_cons.mp hq with e | hq
    · subst e
      refine ⟨h1, h2, _, h3, ?_⟩
      have := RpAll.ofRaws (K := c.K) (H := H1) (ls.map V.ref)
      rwa [List.map_map] at this
    · exact hz q hq).slot (.raw _) i)
theorem frz_rows {B0 B H : Hp} {σ : L2.St} {a : Addr} {x : List D} : ∀ {ls : List Addr} {rows : List (List D)} {H0 : Hp}, ls.length = rows.length → Wd c B0 B H0 Γ ((a, x) :: ls.zip rows) σ H → ∃ H1, Wd c B0 B H1 Γ [(a, x)] σ H ∧ Ex H0 H1 ∧ RpAll c.K H1 (ls.map V.ref) (rows.map D.lst)
  | [], [], H0, _, w => ⟨H0, w, Ex.refl _, .nil⟩
  | [], _ :: _, _, e, _ => by cases e
  | _ :: _, [], _, e, _ => by cases e
  | l :: ls, r :: rows, H0, e, w => by
    obtain ⟨H1, w1, e1, r1⟩ := w.fz (k := 1) rfl
    obtain ⟨H2, w2, e2, r2⟩ := frz_rows (ls := ls) (rows := rows) (by simpa using e) w1
    exact ⟨H2, w2, e1.trans e2, .cons (r1.mono e2) r2⟩
/-- the whole matrix is frozen -/
theorem sj_frzM {a : Addr} {ls : List Addr} {rows : List (List D)} (hl : ls.length = rows.length) (hi : Γ[i]? = some (some (.raw (.ref a)))) (h : SJ c ts (Γ.set i (some (.lst (rows.map D.lst)))) [] NX) : SJ c ts Γ (mrx a ls rows) NX := fun B0 B H0 σ H w D nx ct bk rt => by
  obtain ⟨H1, w1, e1, r1⟩ := frz_rows hl w
  have w2 : Wd c B0 B H1 Γ [(a, rows.map U.D.lst)] σ H := by
    refine ⟨w1.gr, w1.s, w1.b, w1.bB, w1.n, ⟨by simp, fun p hp => ?_, fun p hp => ?_, fun p hp => ?_, fun p hp => ?_⟩⟩
    all_goals rw [List.mem_singleton.mp hp]
    · exact w1.o.b (a, ls.map fun l => U.D.raw (.ref l)) (List.mem_singleton.mpr rfl)
    · exact w1.o.z (a, ls.map fun l => U.D.raw (.ref l)) (List.mem_singleton.mpr rfl)
    · exact w1.o.s (a, ls.map fun l => U.D.raw (.ref l)) (List.mem_singleton.mpr rfl)
    · obtain ⟨vs, h1, h2⟩ := w1.o.h (a, ls.map fun l => U.D.raw (.ref l)) (List.mem_singleton.mpr rfl)
      refine ⟨vs, h1, ?_⟩
      have ev : vs = ls.map V.ref := by
        refine RpAll.raws (K := c.K) (H := H1) ?_
        rw [List.map_map]
        exact h2
      rw [ev]
      exact r1
  obtain ⟨H2, w3, _⟩ := w2.frz (k := 0) rfl hi
  exact h B0 B H2 σ H w3 D nx ct bk rt
end
end U
set_option maxHeartbeats 4000000
/-! G3: l_reached, l_is_endless, l_are_outcomes; matrices of truth values. -/
namespace U
open PySem PyProof.Rows L2 Evl RZ
local macro_rules | `(tactic| walk_at "u") => `(tactic| first
  | ((with_reducible apply ev_cT) <;> assumption)
  | with_reducible apply ev_c
  | ((with_reducible apply ev_var); rfl)
  | with_reducible apply ea_nil
  | ((with_reducible apply ea_cons) <;> (try walk_at "u"))
  | ((with_reducible apply ev_opd) <;> (try walk_at "u"))
  | with_reducible apply ro_I0
  | ((with_reducible apply ro_I) <;> (try walk_at "s"))
  | ((with_reducible apply ro_ix) <;> (try walk_at "s"))
  | ((with_reducible apply ro_eq); rfl)
  | ((with_reducible apply ro_ne); rfl)
  | ((with_reducible apply ev_un) <;> (try walk_at "u"))
  | ((with_reducible apply ev_tup) <;> (try walk_at "u"))
  | ((with_reducible apply ev_lst) <;> (try walk_at "u"))
  | ((with_reducible apply ev_cbd) <;> (try walk_at "u"))
  | ((with_reducible apply rc_len) <;> (try walk_at "s"))
  | with_reducible apply rc_abs
  | with_reducible apply rc_int
  | with_reducible apply rc_intb
  | ((with_reducible apply rc_list) <;> (try walk_at "s"))
  | ((with_reducible apply rc_tup) <;> (try walk_at "s"))
  | ((with_reducible apply rc_isi) <;> (try walk_at "s"))
  | ((with_reducible apply ev_call) <;> (try walk_at "u"))
  | ((with_reducible apply ev_and2) <;> (try walk_at "u"))
  | ((with_reducible apply ev_or2) <;> (try walk_at "u"))
  | ((with_reducible apply ev_notV) <;> (try walk_at "u"))
  | ((with_reducible apply ev_chain) <;> (try walk_at "u"))
  | ((with_reducible apply et_testd) <;> (try walk_at "u"))
  | ((with_reducible apply et_B) <;> (try walk_at "u"))
  | ((with_reducible apply et_and) <;> (try walk_at "u"))
  | ((with_reducible apply et_or) <;> (try walk_at "u"))
  | ((with_reducible apply et_not) <;> (try walk_at "u"))
  | ((with_reducible intro h_) <;> (try walk_at "u"))
  | exact len_ok rfl
  | decide)
local macro_rules | `(tactic| walk_at "s") => `(tactic| first
  | with_reducible assumption
  | exact SeqD.l
  | exact SeqD.t
  | exact seqB_l
  | exact seqB_t
  | with_reducible exact ok_encO _
  | with_reducible exact sh_encO _
  | with_reducible rfl
  | ((with_reducible refine Eq.trans ?_ rfl); rfl)
  | assumption
  | decide)
variable {P : Program} {w : World} {K : PySem.W.Frag} {mg : Str → Option Value} {base : Heap}
section
variable {st : Stt} {mu : Mu} {Γ : G} {te tl : TE} {α : Type}
theorem evf_lct {vs : List Nat} {j : Nat} {d : D} (xs : List α) (enc : α → D) (g : α → D) (b : Bool) (h : EV K st mu tl Γ (Is d)) (hs : seqB [] b d (xs.map enc)) (hj : j ∈ vs) (hz : xs.length ≤ 50000)
    (he : ∀ (i : Nat) (x : α), xs[i]? = some x → EV K st mu te ((wipeG Γ vs).set j (some (enc x))) (Is (g x))) : EVF K st mu (tLc (iSeq K tl) (gName j) tYes te vs) Γ (Is (xs.map g)) := by
  by_cases hn : xs = []
  · subst hn
    exact evf_lcd (it_seq b h hs) (fun p hp => by cases hp) (fun k hk => by rw [List.mem_singleton.mp hk]; exact hj) (by simp) (fun _ => .non) fun i hi => by simp at hi
  · obtain ⟨x0, hx0⟩ : ∃ x, x ∈ xs := by
      cases xs with
      | nil => exact absurd rfl hn
      | cons x _ => exact ⟨x, by simp⟩
    have hl : (xs.map enc).length = xs.length := by simp
    have q := evf_lcd (te := te) (it_seq (j := j) b h hs) (fun p hp => by cases hp) (fun k hk => by rw [List.mem_singleton.mp hk]; exact hj) (by rw [hl]; exact hz) (fun i => g (xs[i]?.getD x0)) fun i hi => by
      have hi' : i < xs.length := by rw [← hl]; exact hi
      have q : (xs.map enc)[i]? = some (enc xs[i]) := by rw [List.getElem?_map, List.getElem?_eq_getElem hi']; rfl
      have q2 : xs[i]?.getD x0 = xs[i] := by rw [List.getElem?_eq_getElem hi']; rfl
      show EV K st mu te ((wipeG Γ vs).set j ((xs.map enc)[i]?)) (Is (g (xs[i]?.getD x0)))
      rw [q, q2]
      exact he i xs[i] (List.getElem?_eq_getElem hi')
    rw [hl, range_get] at q
    exact q
theorem evm_lct {vs : List Nat} {j : Nat} {d : D} (xs : List α) (enc : α → D) (g : α → List D) (b : Bool) (h : EV K st mu tl Γ (Is d)) (hs : seqB [] b d (xs.map enc)) (hj : j ∈ vs) (hz : xs.length ≤ 50000)
    (he : ∀ (i : Nat) (x : α), xs[i]? = some x → EVF K st mu te ((wipeG Γ vs).set j (some (enc x))) (Is (g x))) : EVM K st mu (tLc (iSeq K tl) (gName j) tYes te vs) Γ (Is (xs.map g)) := by
  by_cases hn : xs = []
  · subst hn
    exact evm_lc (it_seq b h hs) (fun p hp => by cases hp) (fun k hk => by rw [List.mem_singleton.mp hk]; exact hj) (by simp) (fun _ => []) fun i hi => by simp at hi
  · obtain ⟨x0, hx0⟩ : ∃ x, x ∈ xs := by
      cases xs with
      | nil => exact absurd rfl hn
      | cons x _ => exact ⟨x, by simp⟩
    have hl : (xs.map enc).length = xs.length := by simp
    have q := evm_lc (te := te) (it_seq (j := j) b h hs) (fun p hp => by cases hp) (fun k hk => by rw [List.mem_singleton.mp hk]; exact hj) (by rw [hl]; exact hz) (fun i => g (xs[i]?.getD x0)) fun i hi => by
      have hi' : i < xs.length := by rw [← hl]; exact hi
      have q : (xs.map enc)[i]? = some (enc xs[i]) := by rw [List.getElem?_map, List.getElem?_eq_getElem hi']; rfl
      have q2 : xs[i]?.getD x0 = xs[i] := by rw [List.getElem?_eq_getElem hi']; rfl
      show EVF K st mu te ((wipeG Γ vs).set j ((xs.map enc)[i]?)) (Is (g (xs[i]?.getD x0)))
      rw [q, q2]
      exact he i xs[i] (List.getElem?_eq_getElem hi')
    rw [hl, range_get] at q
    exact q
end
/-! ### matrices of truth values -/
abbrev BM := List (List Bool)
def encBr (r : List Bool) : List D := r.map D.bl
def encBM (M : BM) : D := .lst (M.map fun r => .lst (encBr r))
def bat (M : BM) (i j : Nat) : Bool := (M.getD i []).getD j false
def bset (M : BM) (i j : Nat) (b : Bool) : BM := M.set i ((M.getD i []).set j b)
def SqB (n : Nat) (M : BM) : Prop := M.length = n ∧ ∀ r ∈ M, r.length = n
theorem SqB.row {n i : Nat} {M : BM} (h : SqB n M) (hi : i < n) : (M.getD i []).length = n := by
  have hl : i < M.length := by rw [h.1]; exact hi
  rw [show M.getD i [] = M[i] by simp [List.getD, hl]]
  exact h.2 _ (List.getElem_mem _)
theorem SqB.set {n i j : Nat} {M : BM} {b : Bool} (h : SqB n M) (hi : i < n) : SqB n (bset M i j b) := by
  refine ⟨by simp [bset, h.1], fun r hr => ?_⟩
  rcases List.mem_or_eq_of_mem_set hr with hr | hr
  · exact h.2 r hr
  · rw [hr, List.length_set, h.row hi]
theorem mrx_at {a : Addr} {ls : List Addr} {rows : List (List D)} {i : Nat} (hl : ls.length = rows.length) (hi : i < rows.length) : (mrx a ls rows)[i + 1]? = some (ls.getD i 0, rows.getD i []) := by
  have h1 : i < ls.length := by omega
  show (ls.zip rows)[i]? = _
  rw [List.getElem?_eq_getElem (by rw [List.length_zip]; omega), List.getElem_zip]
  simp [List.getD, hi, h1]
theorem zip_set {r : List D} : ∀ (ls : List Addr) (rows : List (List D)) (i : Nat), (ls.zip rows).set i (ls.getD i 0, r) = ls.zip (rows.set i r)
  | [], _, _ => by simp
  | _ :: _, [], _ => by simp
  | _ :: _, _ :: _, 0 => by simp
  | l :: ls, r0 :: rows, i + 1 => by simpa using zip_set ls rows i
theorem mrx_set {a : Addr} {ls : List Addr} {rows : List (List D)} {i : Nat} {r : List D} : (mrx a ls rows).set (i + 1) (ls.getD i 0, r) = mrx a ls (rows.set i r) := by
  show _ :: (ls.zip rows).set i _ = _
  rw [zip_set]
  rfl
/-- the rows of such a matrix, one's own -/
abbrev own_ (a : Addr) (ls : List Addr) (M : BM) : Mu := mrx a ls (M.map encBr)
theorem own_at {a : Addr} {ls : List Addr} {M : BM} {i : Nat} (hl : ls.length = M.length) (hi : i < M.length) : (own_ a ls M)[i + 1]? = some (ls.getD i 0, encBr (M.getD i [])) := by
  rw [mrx_at (by simp [hl]) (by simpa using hi)]
  congr 2
  simp [List.getD, hi]
theorem own_set {a : Addr} {ls : List Addr} {M : BM} {i j : Nat} {b : Bool} : (own_ a ls M).set (i + 1) (ls.getD i 0, (encBr (M.getD i [])).set j (.bl b)) = own_ a ls (bset M i j b) := by
  rw [mrx_set]
  unfold own_ bset
  congr 1
  rw [List.map_set]
  congr 1
  unfold encBr
  rw [List.map_set]
section
variable {st : Stt} {Γ : G} {tf ti tj te : TE} {a : Addr} {ls : List Addr} {M : BM} {i j : Nat} {bor : Mu}
theorem ev_br (hl : ls.length = M.length) (hf : EV K st (bor ++ own_ a ls M) tf Γ (Is (.raw (.ref a)))) (hi : EV K st (bor ++ own_ a ls M) ti Γ (Is (nD i))) (h1 : i < M.length) : EV K st (bor ++ own_ a ls M) (tOp (rIx K) tf ti) Γ (Is (.raw (.ref (ls.getD i 0)))) := by
  refine ev_opd hf hi (ro_ix (SeqD.m (List.mem_append_right _ (List.mem_cons_self ..))) ?_)
  rw [atI_natE, List.getElem?_map]
  have h2 : i < ls.length := by omega
  simp [List.getD, h2]
theorem ev_bc (hl : ls.length = M.length) (hf : EV K st (bor ++ own_ a ls M) tf Γ (Is (.raw (.ref a)))) (hi : EV K st (bor ++ own_ a ls M) ti Γ (Is (nD i))) (hj : EV K st (bor ++ own_ a ls M) tj Γ (Is (nD j))) (h1 : i < M.length) (h2 : j < (M.getD i []).length) :
    EV K st (bor ++ own_ a ls M) (tOp (rIx K) (tOp (rIx K) tf ti) tj) Γ (Is (.bl (bat M i j))) := by
  refine ev_opd (ev_br hl hf hi h1) hj (ro_ix (SeqD.m (List.mem_append_right _ (List.mem_of_getElem? (own_at hl h1)))) ?_)
  rw [atI_natE]
  unfold encBr bat
  rw [List.getElem?_map]
  generalize M.getD i [] = r at h2
  simp [List.getD, h2]
end
section
variable {c : Cn} {Γ : G} {tf ti tj te : TE} {a : Addr} {ls : List Addr} {M : BM} {i j : Nat} {b : Bool} {NX : G → Mu → Prop}
theorem sj_bset (hl : ls.length = M.length) (h : EV c.K c.st (c.bor ++ own_ a ls M) te Γ (Is (.bl b))) (hf : EV c.K c.st (c.bor ++ own_ a ls M) tf Γ (Is (.raw (.ref a)))) (hi : EV c.K c.st (c.bor ++ own_ a ls M) ti Γ (Is (nD i))) (hj : EV c.K c.st (c.bor ++ own_ a ls M) tj Γ (Is (nD j)))
    (h1 : i < M.length) (h2 : j < (M.getD i []).length) (q : NX Γ (own_ a ls (bset M i j b))) : SJ c (tAsg te (gSub (tOp (rIx c.K) tf ti) tj rSetL)) Γ (own_ a ls M) NX :=
  sj_setixE (l := ls.getD i 0) (ds := encBr (M.getD i [])) (m := j) (k := i + 1) h (ev_br hl hf hi h1) hj (own_at hl h1) (by simpa [encBr] using h2) fun d e => by
    rw [e, own_set]
    exact q
end
theorem nz_enc (x : Oc) : (!decide (x = some 0)) = decide (x ≠ some 0) := by simp
/-- l_reached, by places -/
def wcell (k i : Nat) (M : BM) (j : Nat) : BM := bset M i j (bat M i j || (bat M i k && bat M k j))
def wrow (n k : Nat) (M : BM) (i : Nat) : BM := (List.range n).foldl (wcell k i) M
def wmid (n : Nat) (M : BM) (k : Nat) : BM := (List.range n).foldl (wrow n k) M
def nzM (A : Mat) : BM := A.map fun r => r.map fun x => decide (x ≠ some 0)
def reachB (A : Mat) : BM := (List.range A.length).foldl (wmid A.length) (nzM A)
theorem foldl_range {α : Type} (f : α → Nat → α) (x : α) (k : Nat) : (List.range (k + 1)).foldl f x = f ((List.range k).foldl f x) k := by rw [List.range_succ, List.foldl_append]; rfl
theorem fold_inv {α : Type} {Pr : α → Prop} {f : α → Nat → α} (n : Nat) (hf : ∀ x i, i < n → Pr x → Pr (f x i)) : ∀ (k : Nat) (x : α), k ≤ n → Pr x → Pr ((List.range k).foldl f x)
  | 0, x, _, h => h
  | k + 1, x, hk, h => by rw [foldl_range]; exact hf _ k hk (fold_inv n hf k x (by omega) h)
theorem SqB.wcell {n k i j : Nat} {M : BM} (h : SqB n M) (hi : i < n) : SqB n (wcell k i M j) := h.set hi
theorem SqB.wrow {n k i : Nat} {M : BM} (h : SqB n M) (hi : i < n) (m : Nat) (hm : m ≤ n) : SqB n ((List.range m).foldl (U.wcell k i) M) := fold_inv n (fun x j _ hx => hx.wcell hi) m M hm h
theorem SqB.wmid {n k : Nat} {M : BM} (h : SqB n M) (m : Nat) (hm : m ≤ n) : SqB n ((List.range m).foldl (U.wrow n k) M) := fold_inv n (fun x i hi hx => hx.wrow hi n (Nat.le_refl _)) m M hm h
theorem SqB.wall {n : Nat} {M : BM} (h : SqB n M) (m : Nat) (hm : m ≤ n) : SqB n ((List.range m).foldl (U.wmid n) M) := fold_inv n (fun x k _ hx => hx.wmid n (Nat.le_refl _)) m M hm h
theorem Sq.nz {n : Nat} {A : Mat} (h : Sq n A) : SqB n (nzM A) := ⟨by simp [nzM, h.1], fun r hr => by
  obtain ⟨q, hq, e⟩ := List.mem_map.mp hr
  rw [← e, List.length_map, h.2 q hq]⟩
def R_l_reached (K : PySem.W.Frag) : RT := fun ds st mu P => ∃ (b : Bool) (n : Nat) (A : Mat), n ≤ 100 ∧ Sq n A ∧ ds = [encM b A] ∧ st = none ∧ mu = [] ∧ P = Is (encBM (reachB A))
theorem d_l_reached (T : Tx K mg) (A : At K mg "_law_reached" s_l_reached)  : Def P w K mg base 1 "_law_reached" ["_law_rows"] (R_l_reached K) := by
  obtain ⟨f, fd, F, hm⟩ := A.fn
  refine mk_def F hm (def_ok F sc_l_reached (fun ds st mu PP h => ?_) (by decide) fun cdv A outer s H E hr ds st mu PP h => ?_) fun _ _ _ _ _ _ us hl => match us, hl with | [_], _ => rfl
  · obtain ⟨b, n, A, _, _, rfl, _⟩ := h
    rfl
  · obtain ⟨b, n, A, hn, hq, rfl, rfl, rfl, rfl⟩ := h
    have hAn : A.length = n := hq.1
    refine ⟨_, (pss_cons (ps_setLc (i := 1) (own := [("_law_row_here", 5)]) (by rfl) sc_l_reached.nd rfl rfl (sw_true rfl rfl rfl (by decide +kernel)) (k_seq (K := K) (by rfl) (pv 0)) (blkOk_by (by kernel_rfl)) (fun _ _ _ _ _ => (pg_name (i := 5) sc_l_reached.nd rfl (by first | exact Or.inl rfl | exact Or.inr rfl))) (fun _ _ _ _ _ => pts_nil) (fun _ _ _ _ _ => (pe_lc (own := [("_law_number", 6)]) (by rfl) sc_l_reached.nd (k_seq (K := K) (by rfl) (pv 5)) (blkOk_by (by kernel_rfl)) (fun _ _ _ _ _ => (pg_name (i := 6) sc_l_reached.nd rfl (by first | exact Or.inl rfl | exact Or.inr rfl))) (fun _ _ _ _ _ => pts_nil) (fun _ _ _ _ _ => (pe_cmpR (k_neD (K := K) (by rfl) hr.units) (pv 6) (pe_tup (pa_cons pe_int (pa_cons pe_int pa_nil))) (nomark _))))))
        (pss_cons (ps_for PassesOwn.never (by rfl) (pi_range1 (by rfl) T.range (pa_cons (pe_callB (k_len (K := K) (by rfl)) (by rfl) T.len (by decide +kernel) (pa_cons (pv 0) pa_nil)) pa_nil)) (pg_name (i := 2) sc_l_reached.nd rfl (by first | exact Or.inl rfl | exact Or.inr rfl)) (pss_one (ps_for PassesOwn.never (by rfl) (pi_range1 (by rfl) T.range (pa_cons (pe_callB (k_len (K := K) (by rfl)) (by rfl) T.len (by decide +kernel) (pa_cons (pv 0) pa_nil)) pa_nil)) (pg_name (i := 3) sc_l_reached.nd rfl (by first | exact Or.inl rfl | exact Or.inr rfl)) (pss_one (ps_for PassesOwn.never (by rfl) (pi_range1 (by rfl) T.range (pa_cons (pe_callB (k_len (K := K) (by rfl)) (by rfl) T.len (by decide +kernel) (pa_cons (pv 0) pa_nil)) pa_nil)) (pg_name (i := 4) sc_l_reached.nd rfl (by first | exact Or.inl rfl | exact Or.inr rfl)) (pss_one (ps_asg (pe_or (pe_ix (k_ix (K := K) (by rfl)) (pe_ix (k_ix (K := K) (by rfl)) (pv 1) (pv 3) (fun _ _ => rfl)) (pv 4) (fun _ _ => rfl)) (pe_one (pe_and (pe_ix (k_ix (K := K) (by rfl)) (pe_ix (k_ix (K := K) (by rfl)) (pv 1) (pv 3) (fun _ _ => rfl)) (pv 2) (fun _ _ => rfl)) (pe_one (pe_ix (k_ix (K := K) (by rfl)) (pe_ix (k_ix (K := K) (by rfl)) (pv 1) (pv 2) (fun _ _ => rfl)) (pv 4) (fun _ _ => rfl)))))) (pg_sub (pe_ix (k_ix (K := K) (by rfl)) (pv 1) (pv 3) (fun _ _ => rfl)) (pv 4) set_list))))))))
        (pss_one (ps_ret (pv 1))))), ?_⟩
    (try dsimp only [cxOf, Cx.nox, Cx.wish])
    refine sj_seq (sj_setM (evm_lct A (encR b) (fun r => encBr (r.map fun x => decide (x ≠ some 0))) b (ev_var rfl) (seqB_mk b _) (by simp) (by omega) fun i r hr => ?_) ?_)
    · rw [show encBr (r.map fun x => decide (x ≠ some 0)) = r.map fun x => D.bl (decide (x ≠ some 0)) by simp [encBr]]
      have hrl : r.length = n := hq.2 r (List.mem_of_getElem? hr)
      refine evf_lct r encO (fun x => D.bl (decide (x ≠ some 0))) b (ev_var rfl) (seqB_mk b _) (by simp) (by omega) fun j x hx => ?_
      refine EV.is (ev_opd (ev_var rfl) (ev_tup (ea_cons ev_c (ea_cons ev_c ea_nil))) (ro_neD (ok_encO _) rfl (sh_encO _) (sh_encO (some 0)) (eqv_encO x (some 0)))) ?_
      rw [nz_enc]
    rintro _ a ls rfl hls
    have e0 : A.map (fun r => encBr (r.map fun x => decide (x ≠ some 0))) = (nzM A).map encBr := by simp [nzM]
    rw [e0]
    have hl : ls.length = n := by rw [hls]; simp [hAn]
    have eL : ∀ (G0 : G) (own : Mu), G0[0]? = some (some (encM b A)) → EA K none ([] ++ own) (tCons (tCB (cLen K) (tCons (tVar 0) tNil)) tNil) G0 (Is [.int (n : Int)]) := fun G0 own h0 =>
      EA.isL (ea_cons (ev_cbd (ea_cons (ev_var h0) ea_nil) (rc_len (seqD_mk b _))) ea_nil) (by simp [hAn])
    have q0 : SqB n (nzM A) := hq.nz
    refine sj_seq (sj_forr (n := n) (eL _ _ rfl) (by omega) (fun k Γ own => ∃ x2 x3 x4 : Option D, Γ = [some (encM b A), some (.raw (.ref a)), x2, x3, x4, none, none] ∧ own = own_ a ls ((List.range k).foldl (wmid n) (nzM A))) ⟨none, none, none, rfl, rfl⟩ ?_ ?_)
    · rintro k Γ' own' hk ⟨x2, x3, x4, rfl, rfl⟩
      have q1 := q0.wall k (by omega)
      generalize he1 : (List.range k).foldl (wmid n) (nzM A) = M1 at q1
      refine (sj_forr (n := n) (eL _ _ rfl) (by omega) (fun i Γ own => ∃ x3 x4 : Option D, Γ = [some (encM b A), some (.raw (.ref a)), some (nD k), x3, x4, none, none] ∧ own = own_ a ls ((List.range i).foldl (wrow n k) M1)) ⟨x3, x4, rfl, rfl⟩ ?_ ?_)
      · rintro i Γ' own' hi ⟨x3, x4, rfl, rfl⟩
        have q2 := q1.wmid (k := k) i (by omega)
        generalize he2 : (List.range i).foldl (wrow n k) M1 = M2 at q2
        refine (sj_forr (n := n) (eL _ _ rfl) (by omega) (fun j Γ own => ∃ x4 : Option D, Γ = [some (encM b A), some (.raw (.ref a)), some (nD k), some (nD i), x4, none, none] ∧ own = own_ a ls ((List.range j).foldl (wcell k i) M2)) ⟨x4, rfl, rfl⟩ ?_ ?_)
        · rintro j Γ' own' hj ⟨x4, rfl, rfl⟩
          have q3 := q2.wrow (k := k) hi j (by omega)
          generalize he3 : (List.range j).foldl (wcell k i) M2 = M3 at q3
          have hlM : ls.length = M3.length := by rw [hl, q3.1]
          refine sj_bset (i := i) (j := j) (b := bat M3 i j || (bat M3 i k && bat M3 k j)) hlM ?_ (ev_var rfl) (ev_var rfl) (ev_var rfl) (by rw [q3.1]; exact hi) (by rw [q3.row hi]; exact hj) ⟨some (nD j), rfl, ?_⟩
          · exact ev_or2 (ev_bc hlM (ev_var rfl) (ev_var rfl) (ev_var rfl) (by rw [q3.1]; exact hi) (by rw [q3.row hi]; exact hj)) fun _ => ev_and2 (ev_bc hlM (ev_var rfl) (ev_var rfl) (ev_var rfl) (by rw [q3.1]; exact hi) (by rw [q3.row hi]; exact hk)) fun _ => ev_bc hlM (ev_var rfl) (ev_var rfl) (ev_var rfl) (by rw [q3.1]; exact hk) (by rw [q3.row hk]; exact hj)
          · rw [foldl_range, he3]
            rfl
        · rintro Γ' own' ⟨x4, rfl, rfl⟩
          exact ⟨some (nD i), x4, rfl, by rw [foldl_range, he2]; rfl⟩
      · rintro Γ' own' ⟨x3, x4, rfl, rfl⟩
        exact ⟨some (nD k), x3, x4, rfl, by rw [foldl_range, he1]; rfl⟩
    · rintro Γ' own' ⟨x2, x3, x4, rfl, rfl⟩
      have q4 := q0.wall n (Nat.le_refl _)
      refine sj_frzM (i := 1) (by simp [hl, q4.1]) rfl (sj_ret (EV.is (ev_var rfl) ?_))
      show D.lst _ = encBM (reachB A)
      unfold encBM reachB
      rw [hAn, List.map_map]
      rfl
theorem r_l_reached {b : Bool} {n : Nat} {A : Mat} (hn : n ≤ 100) (hq : Sq n A) : R_l_reached K [encM b A] none [] (Is (encBM (reachB A))) := ⟨b, n, A, hn, hq, rfl, rfl, rfl, rfl⟩
end U
set_option maxHeartbeats 4000000
/-! G4: l_is_endless, l_are_outcomes. -/
namespace U
open PySem PyProof.Rows L2 Evl RZ
local macro_rules | `(tactic| walk_at "u") => `(tactic| first
  | ((with_reducible apply ev_cT) <;> assumption)
  | with_reducible apply ev_c
  | ((with_reducible apply ev_var); rfl)
  | with_reducible apply ea_nil
  | ((with_reducible apply ea_cons) <;> (try walk_at "u"))
  | ((with_reducible apply ev_opd) <;> (try walk_at "u"))
  | with_reducible apply ro_I0
  | ((with_reducible apply ro_I) <;> (try walk_at "s"))
  | ((with_reducible apply ro_ix) <;> (try walk_at "s"))
  | ((with_reducible apply ro_eq); rfl)
  | ((with_reducible apply ro_ne); rfl)
  | ((with_reducible apply ev_un) <;> (try walk_at "u"))
  | ((with_reducible apply ev_tup) <;> (try walk_at "u"))
  | ((with_reducible apply ev_lst) <;> (try walk_at "u"))
  | ((with_reducible apply ev_cbd) <;> (try walk_at "u"))
  | ((with_reducible apply rc_len) <;> (try walk_at "s"))
  | with_reducible apply rc_abs
  | with_reducible apply rc_int
  | with_reducible apply rc_intb
  | ((with_reducible apply rc_list) <;> (try walk_at "s"))
  | ((with_reducible apply rc_tup) <;> (try walk_at "s"))
  | ((with_reducible apply rc_isi) <;> (try walk_at "s"))
  | ((with_reducible apply ev_call) <;> (try walk_at "u"))
  | ((with_reducible apply ev_and2) <;> (try walk_at "u"))
  | ((with_reducible apply ev_or2) <;> (try walk_at "u"))
  | ((with_reducible apply ev_notV) <;> (try walk_at "u"))
  | ((with_reducible apply ev_chain) <;> (try walk_at "u"))
  | ((with_reducible apply et_testd) <;> (try walk_at "u"))
  | ((with_reducible apply et_B) <;> (try walk_at "u"))
  | ((with_reducible apply et_and) <;> (try walk_at "u"))
  | ((with_reducible apply et_or) <;> (try walk_at "u"))
  | ((with_reducible apply et_not) <;> (try walk_at "u"))
  | ((with_reducible intro h_) <;> (try walk_at "u"))
  | exact len_ok rfl
  | decide)
local macro_rules | `(tactic| walk_at "s") => `(tactic| first
  | with_reducible assumption
  | exact SeqD.l
  | exact SeqD.t
  | exact seqB_l
  | exact seqB_t
  | with_reducible exact ok_encO _
  | with_reducible exact sh_encO _
  | with_reducible rfl
  | ((with_reducible refine Eq.trans ?_ rfl); rfl)
  | assumption
  | decide)
variable {P : Program} {w : World} {K : PySem.W.Frag} {mg : Str → Option Value} {base : Heap}
theorem at_br {M : BM} {i : Nat} (h : i < M.length) : atI (M.map fun r => D.lst (encBr r)) (i : Int) = some (.lst (encBr (M.getD i []))) := by
  rw [atI_natE, List.getElem?_map]
  simp [List.getD, h]
theorem at_bc {r : List Bool} {j : Nat} (h : j < r.length) : atI (encBr r) (j : Int) = some (.bl (r.getD j false)) := by
  unfold encBr
  rw [atI_natE, List.getElem?_map]
  simp [List.getD, h]
section
variable {st : Stt} {mu : Mu} {Γ : G} {tf ti tj : TE} {R : BM} {A : Mat} {i j n : Nat} {b : Bool}
theorem ev_bm (hq : SqB n R) (h1 : i < n) (h2 : j < n) (hf : EV K st mu tf Γ (Is (encBM R))) (hi : EV K st mu ti Γ (Is (nD i))) (hj : EV K st mu tj Γ (Is (nD j))) : EV K st mu (tOp (rIx K) (tOp (rIx K) tf ti) tj) Γ (Is (.bl (bat R i j))) :=
  ev_opd (ev_opd hf hi (ro_ix SeqD.l (at_br (by rw [hq.1]; exact h1)))) hj (ro_ix SeqD.l (at_bc (by rw [hq.row h1]; exact h2)))
theorem Sq.row {n i : Nat} {W : Mat} (h : Sq n W) (hi : i < n) : (W.getD i []).length = n := by
  have hl : i < W.length := by rw [h.1]; exact hi
  rw [show W.getD i [] = W[i] by simp [List.getD, hl]]
  exact h.2 _ (List.getElem_mem _)
theorem ev_m2 (hq : Sq n A) (h1 : i < n) (h2 : j < n) (hf : EV K st mu tf Γ (Is (encM b A))) (hi : EV K st mu ti Γ (Is (nD i))) (hj : EV K st mu tj Γ (Is (nD j))) : EV K st mu (tOp (rIx K) (tOp (rIx K) tf ti) tj) Γ (Is (encO (at2 A i j))) :=
  ev_opd (ev_opd hf hi (ro_ix (seqD_mk _ _) (at_row (by rw [hq.1]; exact h1)))) hj (ro_ix (seqD_mk _ _) (at_cell (by rw [hq.row h1]; exact h2)))
end
def endB (A : Mat) (R : BM) (i p : Nat) : Bool := decide (p = i) || bat R i p
def endQ (A : Mat) (R : BM) (i j p q : Nat) : Bool := endB A R i p && decide (at2 A p q = none) && (decide (q = j) || bat R q j)
def endP (A : Mat) (R : BM) (hv : List Bool) (i j p : Nat) : Bool := endB A R i p && hv.getD p false && (decide (p = j) || bat R p j)
def isEnd (A : Mat) (R : BM) (hv : List Bool) (i j : Nat) : Bool := (List.range A.length).any fun p => endP A R hv i j p || (List.range A.length).any fun q => endQ A R i j p q
def R_l_is_endless (K : PySem.W.Frag) : RT := fun ds st mu P => ∃ (b : Bool) (n : Nat) (A : Mat) (R : BM) (hv : List Bool) (i j : Nat), n ≤ 100 ∧ Sq n A ∧ SqB n R ∧ hv.length = n ∧ i < n ∧ j < n ∧ ds = [encM b A, encBM R, .lst (hv.map .bl), nD i, nD j] ∧ st = none ∧ mu = [] ∧ P = Is (.bl (isEnd A R hv i j))
theorem int_eq {m n : Nat} : decide (V.int (m : Nat) = V.int (n : Nat)) = decide (m = n) := by
  by_cases h : m = n
  · subst h; simp
  · have : ¬ (V.int (m : Nat) = V.int (n : Nat)) := fun e => h (by injection e with e; omega)
    simp [h, this]
theorem d_l_is_endless (T : Tx K mg) (A : At K mg "_law_is_endless" s_l_is_endless)  : Def P w K mg base 1 "_law_is_endless" ["_law_rows", "_law_reached_here", "_law_heavy_here", "_law_i", "_law_j"] (R_l_is_endless K) := by
  obtain ⟨f, fd, F, hm⟩ := A.fn
  refine mk_def F hm (def_ok F sc_l_is_endless (fun ds st mu PP h => ?_) (by decide) fun cdv A outer s H E hr ds st mu PP h => ?_) fun _ _ _ _ _ _ us hl => match us, hl with | [_, _, _, _, _], _ => rfl
  · obtain ⟨b, n, A, R, hv, i, j, _, _, _, _, _, _, rfl, _⟩ := h
    rfl
  · obtain ⟨b, n, A, R, hv, i, j, hn, hq, hR, hh, hi, hj, rfl, rfl, rfl, rfl⟩ := h
    have hAn : A.length = n := hq.1
    refine ⟨_, (pss_cons (ps_for PassesOwn.never (by rfl) (pi_range1 (by rfl) T.range (pa_cons (pe_callB (k_len (K := K) (by rfl)) (by rfl) T.len (by decide +kernel) (pa_cons (pv 0) pa_nil)) pa_nil)) (pg_name (i := 5) sc_l_is_endless.nd rfl (by first | exact Or.inl rfl | exact Or.inr rfl)) (pss_cons (ps_set (i := 6) sc_l_is_endless.nd rfl (Or.inl rfl) (pe_or (pe_cmpR op_eq (pv 5) (pv 3) (nomark _)) (pe_one (pe_ix (k_ix (K := K) (by rfl)) (pe_ix (k_ix (K := K) (by rfl)) (pv 1) (pv 3) (fun _ _ => rfl)) (pv 5) (fun _ _ => rfl)))))
        (pss_cons (ps_if (PW.pt (pw_and (pt_val (pv 6)) (pw_and (pt_val (pe_ix (k_ix (K := K) (by rfl)) (pv 2) (pv 5) (fun _ _ => rfl))) (pw_and1 (PW.pt (pw_or (pt_cmpR op_eq (pv 5) (pv 4) (nomark _)) (pw_or1 (pt_val (pe_ix (k_ix (K := K) (by rfl)) (pe_ix (k_ix (K := K) (by rfl)) (pv 1) (pv 5) (fun _ _ => rfl)) (pv 4) (fun _ _ => rfl)))))))))) (pss_one (ps_ret pe_bl)) pss_nil)
        (pss_one (ps_for PassesOwn.never (by rfl) (pi_range1 (by rfl) T.range (pa_cons (pe_callB (k_len (K := K) (by rfl)) (by rfl) T.len (by decide +kernel) (pa_cons (pv 0) pa_nil)) pa_nil)) (pg_name (i := 7) sc_l_is_endless.nd rfl (by first | exact Or.inl rfl | exact Or.inr rfl)) (pss_one (ps_if (PW.pt (pw_and (pt_val (pv 6)) (pw_and (pt_cmpR (k_eqD (K := K) (by rfl) hr.units) (pe_ix (k_ix (K := K) (by rfl)) (pe_ix (k_ix (K := K) (by rfl)) (pv 0) (pv 5) (fun _ _ => rfl)) (pv 7) (fun _ _ => rfl)) pe_str (nomark _)) (pw_and1 (PW.pt (pw_or (pt_cmpR op_eq (pv 7) (pv 4) (nomark _)) (pw_or1 (pt_val (pe_ix (k_ix (K := K) (by rfl)) (pe_ix (k_ix (K := K) (by rfl)) (pv 1) (pv 7) (fun _ _ => rfl)) (pv 4) (fun _ _ => rfl)))))))))) (pss_one (ps_ret pe_bl)) pss_nil)))))))
        (pss_one (ps_ret pe_bl))), ?_⟩
    (try dsimp only [cxOf, Cx.nox, Cx.wish])
    have eL : ∀ (G0 : G) (own : Mu), G0[0]? = some (some (encM b A)) → EA K none ([] ++ own) (tCons (tCB (cLen K) (tCons (tVar 0) tNil)) tNil) G0 (Is [.int (n : Int)]) := fun G0 own h0 =>
      EA.isL (ea_cons (ev_cbd (ea_cons (ev_var h0) ea_nil) (rc_len (seqD_mk b _))) ea_nil) (by simp [hAn])
    have hend : ∀ p, p < n → (endP A R hv i j p || (List.range n).any fun q => endQ A R i j p q) = true → isEnd A R hv i j = true := fun p hp e => by
      unfold isEnd
      rw [hAn]
      exact List.any_eq_true.mpr ⟨p, List.mem_range.mpr hp, e⟩
    refine sj_seq (sj_forr (n := n) (eL _ _ rfl) (by omega) (fun p Γ own => ∃ x5 x6 x7 : Option D, Γ = [some (encM b A), some (encBM R), some (.lst (hv.map .bl)), some (nD i), some (nD j), x5, x6, x7] ∧ own = [] ∧ ∀ p', p' < p → (endP A R hv i j p' || (List.range n).any fun q => endQ A R i j p' q) = false) ⟨none, none, none, rfl, rfl, fun p' h => absurd h (Nat.not_lt_zero _)⟩ ?_ ?_)
    · rintro p Γ' own' hp ⟨x5, x6, x7, rfl, rfl, hno⟩
      refine sj_seq (sj_setd (d := .bl (endB A R i p)) (EV.is (ev_or2 (EV.is (ev_opd (ev_var rfl) (ev_var rfl) (ro_eq rfl)) (by rw [int_eq])) fun _ => ev_bm hR hi hp (ev_var rfl) (ev_var rfl) (ev_var rfl)) rfl) ?_)
      have hvp : atI (hv.map D.bl) (p : Int) = some (.bl (hv.getD p false)) := at_bc (by rw [hh]; exact hp)
      refine sj_seq (sj_ifd (b := endP A R hv i j p) (ET.is (et_and (a := endB A R i p) (b := hv.getD p false && (decide (p = j) || bat R p j)) (et_testd (ev_var rfl)) fun _ => et_and (et_testd (ev_opd (ev_var rfl) (ev_var rfl) (ro_ix SeqD.l hvp))) fun _ =>
        et_or (et_testd (EV.is (ev_opd (ev_var rfl) (ev_var rfl) (ro_eq rfl)) (by rw [int_eq]))) fun _ => et_testd (ev_bm hR hp hj (ev_var rfl) (ev_var rfl) (ev_var rfl))) (by unfold endP; rw [Bool.and_assoc])) (fun e => ?_) fun e => sj_next ?_)
      · refine sj_ret (EV.is ev_c ?_)
        rw [hend p hp (by rw [e]; rfl)]
      refine (sj_forr (n := n) (eL _ _ rfl) (by omega) (fun q Γ own => ∃ x7 : Option D, Γ = [some (encM b A), some (encBM R), some (.lst (hv.map .bl)), some (nD i), some (nD j), some (nD p), some (.bl (endB A R i p)), x7] ∧ own = [] ∧ ∀ q', q' < q → endQ A R i j p q' = false) ⟨x7, rfl, rfl, fun p' h => absurd h (Nat.not_lt_zero _)⟩ ?_ ?_)
      · rintro q Γ' own' hqn ⟨x7, rfl, rfl, hnq⟩
        refine sj_ifd (b := endQ A R i j p q) (ET.is (et_and (a := endB A R i p) (b := decide (at2 A p q = none) && (decide (q = j) || bat R q j)) (et_testd (ev_var rfl)) fun _ => et_and (et_testd (ev_opd (ev_m2 hq hp hqn (ev_var rfl) (ev_var rfl) (ev_var rfl)) ev_c (ro_eqD (ok_encO _) rfl (sh_encO _) (sh_encO none) (eqv_encO _ none)))) fun _ =>
          et_or (et_testd (EV.is (ev_opd (ev_var rfl) (ev_var rfl) (ro_eq rfl)) (by rw [int_eq]))) fun _ => et_testd (ev_bm hR hqn hj (ev_var rfl) (ev_var rfl) (ev_var rfl))) (by unfold endQ; rw [Bool.and_assoc])) (fun e2 => ?_) fun e2 => sj_next ⟨some (nD q), rfl, rfl, fun q' h' => ?_⟩
        · refine sj_ret (EV.is ev_c ?_)
          rw [hend p hp (by rw [Bool.or_eq_true]; exact .inr (List.any_eq_true.mpr ⟨q, List.mem_range.mpr hqn, e2⟩))]
        · by_cases h2 : q' = q
          · rw [h2]; exact e2
          · exact hnq q' (by omega)
      · rintro Γ' own' ⟨x7, rfl, rfl, hnq⟩
        refine ⟨some (nD p), some (.bl (endB A R i p)), x7, rfl, rfl, fun p' h' => ?_⟩
        by_cases h2 : p' = p
        · rw [h2, e, Bool.false_or]
          exact List.any_eq_false.mpr fun q' hq' => by rw [hnq q' (List.mem_range.mp hq')]; decide
        · exact hno p' (by omega)
    · rintro Γ' own' ⟨x5, x6, x7, rfl, rfl, hno⟩
      refine sj_ret (EV.is ev_c ?_)
      have e : isEnd A R hv i j = false := by
        unfold isEnd
        rw [hAn]
        exact List.any_eq_false.mpr fun p' hp' => by rw [hno p' (List.mem_range.mp hp')]; decide
      rw [e]
theorem r_l_is_endless {b : Bool} {n : Nat} {A : Mat} {R : BM} {hv : List Bool} {i j : Nat} (hn : n ≤ 100) (hq : Sq n A) (hR : SqB n R) (hh : hv.length = n) (hi : i < n) (hj : j < n) : R_l_is_endless K [encM b A, encBM R, .lst (hv.map .bl), nD i, nD j] none [] (Is (.bl (isEnd A R hv i j))) := ⟨b, n, A, R, hv, i, j, hn, hq, hR, hh, hi, hj, rfl, rfl, rfl, rfl⟩
/-- what an outcome is -/
structure OutOk (A : Mat) (p : Shp) : Prop where
  r : A.length = p.1
  c : ∀ row ∈ A, row.length = p.2
  z : p.1 ≤ 100
  z2 : p.2 ≤ 100
  s : ∀ row ∈ A, ∀ x ∈ row, SmO x
  g : ∀ row ∈ A, ∀ q, some q ∈ row → 0 ≤ q
def R_l_are_outcomes (K : PySem.W.Frag) : RT := fun ds st mu P => ∃ (A : Mat) (p : Shp), OutOk A p ∧ ds = [encM true A, encSh p] ∧ st = none ∧ mu = [] ∧ P = Is (.bl true)
theorem d_l_are_outcomes (T : Tx K mg) (A : At K mg "_law_are_outcomes" s_l_are_outcomes) (D_l_is_fraction : Def P w K mg base 1 "_law_is_fraction" ["_law_thing"] (R_l_is_fraction K)) (D_l_lowest : Def P w K mg base 1 "_law_lowest" ["_law_top", "_law_bottom"] (R_l_lowest K)) : Def P w K mg base 2 "_law_are_outcomes" ["_law_thing", "_law_shape_here"] (R_l_are_outcomes K) := by
  obtain ⟨f, fd, F, hm⟩ := A.fn
  refine mk_def F hm (def_ok F sc_l_are_outcomes (fun ds st mu PP h => ?_) (by decide) fun cdv A outer s H E hr ds st mu PP h => ?_) fun _ _ _ _ _ _ us hl => match us, hl with | [_, _], _ => rfl
  · obtain ⟨A, p, _, rfl, _⟩ := h
    rfl
  · obtain ⟨A, p, hA, rfl, rfl, rfl, rfl⟩ := h
    obtain ⟨r, c⟩ := p
    have hAr : A.length = r := hA.r
    have hz : r ≤ 100 := hA.z
    refine ⟨_, (pss_cons (ps_if (PW.pt (pw_or (pt_not (pt_val (pe_callB (k_isi (K := K) (by rfl)) (by rfl) T.isinstance (by decide +kernel) (pa_cons (pv 0) (pa_cons (pe_bltn (v := .ty "tuple") (by rfl) T.tuple (by decide +kernel) rfl) pa_nil))))) (pw_or1 (pt_cmpR op_ne (pe_callB (k_len (K := K) (by rfl)) (by rfl) T.len (by decide +kernel) (pa_cons (pv 0) pa_nil)) (pe_ix (k_ix (K := K) (by rfl)) (pv 1) pe_int (fun _ _ => rfl)) (nomark _))))) (pss_one (ps_ret pe_bl)) pss_nil)
        (pss_cons (ps_for PassesOwn.never (by rfl) (k_seq (K := K) (by rfl) (pv 0)) (pg_name (i := 2) sc_l_are_outcomes.nd rfl (by first | exact Or.inl rfl | exact Or.inr rfl)) (pss_cons (ps_if (PW.pt (pw_or (pt_not (pt_val (pe_callB (k_isi (K := K) (by rfl)) (by rfl) T.isinstance (by decide +kernel) (pa_cons (pv 2) (pa_cons (pe_bltn (v := .ty "tuple") (by rfl) T.tuple (by decide +kernel) rfl) pa_nil))))) (pw_or1 (pt_cmpR op_ne (pe_callB (k_len (K := K) (by rfl)) (by rfl) T.len (by decide +kernel) (pa_cons (pv 2) pa_nil)) (pe_ix (k_ix (K := K) (by rfl)) (pv 1) pe_int (fun _ _ => rfl)) (nomark _))))) (pss_one (ps_ret pe_bl)) pss_nil)
        (pss_one (ps_for PassesOwn.never (by rfl) (k_seq (K := K) (by rfl) (pv 2)) (pg_name (i := 3) sc_l_are_outcomes.nd rfl (by first | exact Or.inl rfl | exact Or.inr rfl)) (pss_one (ps_if (pt_not (PW.pt (pw_and (pt_val (pe_callB (k_isi (K := K) (by rfl)) (by rfl) T.isinstance (by decide +kernel) (pa_cons (pv 3) (pa_cons (pe_bltn (v := .ty "str") (by rfl) T.str (by decide +kernel) rfl) pa_nil)))) (pw_and1 (pt_cmpR op_eq (pv 3) pe_str (nomark _)))))) (pss_one (ps_if (PW.pt (pw_or (pt_not (pt_val (pe_callD D_l_is_fraction ⟨rfl, rfl, rfl, rfl, rfl⟩ (hr.mono (by decide)) (by rfl) (pa_cons (pv 3) pa_nil)))) (pw_or (pt_cmpR op_lt (pe_ix (k_ix (K := K) (by rfl)) (pv 3) pe_int (fun _ _ => rfl)) pe_int (nomark _)) (pw_or (pt_cmpR op_lt (pe_ix (k_ix (K := K) (by rfl)) (pv 3) pe_int (fun _ _ => rfl)) pe_int (nomark _)) (pw_or1 (pt_cmpR (k_neD (K := K) (by rfl) hr.units) (pe_callD D_l_lowest ⟨rfl, rfl, rfl, rfl, rfl⟩ (hr.mono (by decide)) (by rfl) (pa_cons (pe_ix (k_ix (K := K) (by rfl)) (pv 3) pe_int (fun _ _ => rfl)) (pa_cons (pe_ix (k_ix (K := K) (by rfl)) (pv 3) pe_int (fun _ _ => rfl)) pa_nil))) (pv 3) (nomark _))))))) (pss_one (ps_ret pe_bl)) pss_nil)) pss_nil))))))
        (pss_one (ps_ret pe_bl)))), ?_⟩
    (try dsimp only [cxOf, Cx.nox, Cx.wish])
    have nt : ∀ G0 : G, G0[0]? = some (some (encM true A)) → EV K none [] (tVar 0) G0 (Is (.tup (A.map (encR true)))) := fun G0 h => ev_var h
    refine sj_seq (sj_ifd (b := false) (ET.is (et_or (a := false) (b := false) (ET.is (et_not (et_testd (ev_cbd (ea_cons (ev_var rfl) (ea_cons ev_c ea_nil)) (rc_isi (d := .tup (A.map (encR true))) rfl rfl)))) rfl) fun _ => et_testd (EV.is (ev_opd (ev_cbd (ea_cons (ev_var rfl) ea_nil) (rc_len (seqD_mk true (A.map (encR true))))) (ev_opd (ev_var rfl) ev_c (ro_ix SeqD.t at_head)) (ro_ne rfl)) (by simp [hAr]))) rfl) (fun e => by cases e) fun _ => sj_next ?_)
    refine sj_seq (sj_fort A (encR true) true (ev_var rfl) (seqB_mk true _) (fun i Γ own => ∃ x2 x3 : Option D, Γ = [some (encM true A), some (encSh (r, c)), x2, x3] ∧ own = []) ⟨none, none, rfl, rfl⟩ ?_ ?_)
    · rintro i row Γ' own' hrow ⟨x2, x3, rfl, rfl⟩
      have hm := List.mem_of_getElem? hrow
      have hc : row.length = c := hA.c row hm
      have h1 : atI [nD r, nD c] (1 : Int) = some (nD c) := rfl
      refine sj_seq (sj_ifd (b := false) (ET.is (et_or (a := false) (b := false) (ET.is (et_not (et_testd (ev_cbd (ea_cons (ev_var rfl) (ea_cons ev_c ea_nil)) (rc_isi (d := .tup (row.map encO)) rfl rfl)))) rfl) fun _ => et_testd (EV.is (ev_opd (ev_cbd (ea_cons (ev_var rfl) ea_nil) (rc_len (seqD_mk true (row.map encO)))) (ev_opd (ev_var rfl) ev_c (ro_ix SeqD.t h1)) (ro_ne rfl)) (by simp [hc]))) rfl) (fun e => by cases e) fun _ => sj_next ?_)
      refine (sj_fort row encO true (ev_var rfl) (seqB_mk true _) (fun i Γ own => ∃ x3 : Option D, Γ = [some (encM true A), some (encSh (r, c)), some (encR true row), x3] ∧ own = []) ⟨x3, rfl, rfl⟩ ?_ ?_)
      · rintro j x Γ' own' hx ⟨x3, rfl, rfl⟩
        have hxm := List.mem_of_getElem? hx
        cases x with
        | none =>
          refine sj_ifd (b := false) (ET.is (et_not (a := true) (ET.is (et_and (a := true) (b := true) (et_testd (ev_cbd (ea_cons (ev_var rfl) (ea_cons ev_c ea_nil)) (rc_isi (d := .str "endless") rfl rfl))) fun _ => et_testd (EV.is (ev_opd (ev_var rfl) ev_c (ro_eq rfl)) (by simp))) rfl)) rfl) (fun e => by cases e) fun _ => sj_next ⟨_, rfl, rfl⟩
        | some q =>
          have hs : Sm q := hA.s row hm (some q) hxm
          have hg := hA.g row hm q hxm
          have a0 : atI [D.int q.num, D.int (q.den : Nat)] 0 = some (D.int q.num) := rfl
          have a1 : atI [D.int q.num, D.int (q.den : Nat)] 1 = some (D.int (q.den : Nat)) := rfl
          have hnum : 0 ≤ q.num := Rat.num_nonneg.mpr hg
          have hden : 0 < q.den := q.den_pos
          refine sj_ifd (b := true) (ET.is (et_not (a := false) (ET.is (et_and (a := false) (b := false) (et_testd (ev_cbd (ea_cons (ev_var rfl) (ea_cons ev_c ea_nil)) (rc_isi (d := encQ q) rfl rfl))) fun e => by cases e) rfl)) rfl) (fun _ => ?_) fun e => by cases e
          refine sj_ifd (b := false) (ET.is (et_or (a := false) (b := false) (ET.is (et_not (et_testd (ev_call (ea_cons (ev_var rfl) ea_nil) r_l_is_fraction))) rfl) fun _ => ET.is (et_or (a := false) (b := false) (et_testd (EV.is (ev_opd (ev_opd (ev_var rfl) ev_c (ro_ix SeqD.t a0)) ev_c ro_I0) (by simp; omega))) fun _ => ET.is (et_or (a := false) (b := false) (et_testd (EV.is (ev_opd (ev_opd (ev_var rfl) ev_c (ro_ix SeqD.t a1)) ev_c ro_I0) (by simp; omega))) fun _ =>
            et_testd (EV.is (ev_opd (ev_call (ea_cons (ev_opd (ev_var rfl) ev_c (ro_ix SeqD.t a0)) (ea_cons (ev_opd (ev_var rfl) ev_c (ro_ix SeqD.t a1)) ea_nil)) (r_l_lowest hden (B4_B9 hs.2))) (ev_var rfl) (ro_neD (ok_encQ _) (ok_encQ q) (sh_encQ _) (sh_encQ q) (eqv_encO (some _) (some q)))) (by
              rw [show mkRat q.num q.den = q from Rat.mkRat_self q]; simp))) rfl) rfl) rfl) (fun e => by cases e) fun _ => sj_next ⟨_, rfl, rfl⟩
      · rintro Γ' own' ⟨x3, rfl, rfl⟩
        exact ⟨_, _, rfl, rfl⟩
    · rintro Γ' own' ⟨x2, x3, rfl, rfl⟩
      exact sj_ret (EV.is ev_c rfl)
theorem r_l_are_outcomes {A : Mat} {p : Shp} (h : OutOk A p) : R_l_are_outcomes K [encM true A, encSh p] none [] (Is (.bl true)) := ⟨A, p, h, rfl, rfl, rfl, rfl⟩
end U
set_option maxHeartbeats 4000000
/-! G5: l_shrinks and its mirror (elimination on lines of fractions). -/
namespace U
open PySem PyProof.Rows L2 Evl RZ
local macro_rules | `(tactic| walk_at "u") => `(tactic| first
  | ((with_reducible apply ev_cT) <;> assumption)
  | with_reducible apply ev_c
  | ((with_reducible apply ev_var); rfl)
  | with_reducible apply ea_nil
  | ((with_reducible apply ea_cons) <;> (try walk_at "u"))
  | ((with_reducible apply ev_opd) <;> (try walk_at "u"))
  | with_reducible apply ro_I0
  | ((with_reducible apply ro_I) <;> (try walk_at "s"))
  | ((with_reducible apply ro_ix) <;> (try walk_at "s"))
  | ((with_reducible apply ro_eq); rfl)
  | ((with_reducible apply ro_ne); rfl)
  | ((with_reducible apply ev_un) <;> (try walk_at "u"))
  | ((with_reducible apply ev_tup) <;> (try walk_at "u"))
  | ((with_reducible apply ev_lst) <;> (try walk_at "u"))
  | ((with_reducible apply ev_cbd) <;> (try walk_at "u"))
  | ((with_reducible apply rc_len) <;> (try walk_at "s"))
  | with_reducible apply rc_abs
  | with_reducible apply rc_int
  | with_reducible apply rc_intb
  | ((with_reducible apply rc_list) <;> (try walk_at "s"))
  | ((with_reducible apply rc_tup) <;> (try walk_at "s"))
  | ((with_reducible apply rc_isi) <;> (try walk_at "s"))
  | ((with_reducible apply ev_call) <;> (try walk_at "u"))
  | ((with_reducible apply ev_and2) <;> (try walk_at "u"))
  | ((with_reducible apply ev_or2) <;> (try walk_at "u"))
  | ((with_reducible apply ev_notV) <;> (try walk_at "u"))
  | ((with_reducible apply ev_chain) <;> (try walk_at "u"))
  | ((with_reducible apply et_testd) <;> (try walk_at "u"))
  | ((with_reducible apply et_B) <;> (try walk_at "u"))
  | ((with_reducible apply et_and) <;> (try walk_at "u"))
  | ((with_reducible apply et_or) <;> (try walk_at "u"))
  | ((with_reducible apply et_not) <;> (try walk_at "u"))
  | ((with_reducible intro h_) <;> (try walk_at "u"))
  | exact len_ok rfl
  | decide)
local macro_rules | `(tactic| walk_at "s") => `(tactic| first
  | with_reducible assumption
  | exact SeqD.l
  | exact SeqD.t
  | exact seqB_l
  | exact seqB_t
  | with_reducible exact ok_encO _
  | with_reducible exact sh_encO _
  | with_reducible rfl
  | ((with_reducible refine Eq.trans ?_ rfl); rfl)
  | assumption
  | decide)
variable {P : Program} {w : World} {K : PySem.W.Frag} {mg : Str → Option Value} {base : Heap}
abbrev LM := List (List Rat)
def encLr (r : List Rat) : D := .lst (r.map encQ)
def lat (L : LM) (i j : Nat) : Rat := (L.getD i []).getD j 0
def eInit (n : Nat) (A : LM) : LM := (List.range n).map fun i => (List.range n).map (fun j => (if i = j then 1 else 0) - lat A i j) ++ [1]
def ePiv (n k : Nat) (L : LM) : List Nat := ((List.range (n - k)).filter fun m => decide (lat L (k + m) k ≠ 0)).map (k + ·)
def eSwap (L : LM) (k g : Nat) : LM := (L.set k (L.getD g [])).set g (L.getD k [])
def eNorm (L : LM) (k : Nat) : LM := L.set k ((L.getD k []).map fun x => x / lat L k k)
def eRow (n k : Nat) (L : LM) (i : Nat) : LM := if i = k then L else L.set i ((List.range (n + 1)).map fun j => lat L i j - lat L i k * lat L k j)
def eCol (n k : Nat) (L : LM) (g m : Nat) : LM := (List.range m).foldl (eRow n k) (eNorm (eSwap L k g) k)
def eStep (n : Nat) (L : LM) (k : Nat) : Option LM := match ePiv n k L with
  | [] => none
  | g :: _ => some (eCol n k L g n)
def eRun (n : Nat) (A : LM) : Nat → Option LM
  | 0 => some (eInit n A)
  | k + 1 => (eRun n A k).bind fun L => eStep n L k
def shrB (n : Nat) (A : LM) : Bool := match eRun n A n with
  | none => false
  | some L => L.all fun r => decide (0 < r.getD n 0)
def ShL (n : Nat) (L : LM) : Prop := L.length = n ∧ ∀ r ∈ L, r.length = n + 1
def AllSm (L : LM) : Prop := ∀ r ∈ L, ∀ x ∈ r, Sm x
structure ShrOk (n : Nat) (A : LM) : Prop where
  a : ∀ i j, i < n → j < n → Sm (lat A i j)
  c : ∀ k L g gs, k < n → eRun n A k = some L → ePiv n k L = g :: gs → AllSm L ∧ ∀ m, m ≤ n → AllSm (eCol n k L g m) ∧ ∀ i j, i < n → j < n + 1 → Sm (lat (eCol n k L g m) i k * lat (eCol n k L g m) k j)
theorem ShL.row {n i : Nat} {L : LM} (h : ShL n L) (hi : i < n) : (L.getD i []).length = n + 1 := by
  have hl : i < L.length := by rw [h.1]; exact hi
  rw [show L.getD i [] = L[i] by simp [List.getD, hl]]
  exact h.2 _ (List.getElem_mem _)
theorem ShL.mem {n i : Nat} {L : LM} (h : ShL n L) (hi : i < n) : L.getD i [] ∈ L := by
  have hl : i < L.length := by rw [h.1]; exact hi
  rw [show L.getD i [] = L[i] by simp [List.getD, hl]]
  exact List.getElem_mem _
theorem ShL.set {n i : Nat} {L : LM} {r : List Rat} (h : ShL n L) (hr : r.length = n + 1) : ShL n (L.set i r) := ⟨by simp [h.1], fun q hq => by
  rcases List.mem_or_eq_of_mem_set hq with hq | hq
  · exact h.2 q hq
  · rw [hq, hr]⟩
theorem ShL.init {n : Nat} {A : LM} : ShL n (eInit n A) := ⟨by simp [eInit], fun r hr => by
  obtain ⟨i, _, e⟩ := List.mem_map.mp hr
  rw [← e]
  simp⟩
theorem ShL.swap {n k g : Nat} {L : LM} (h : ShL n L) (hk : k < n) (hg : g < n) : ShL n (eSwap L k g) := (h.set (h.row hg)).set (h.row hk)
theorem ShL.norm {n k : Nat} {L : LM} (h : ShL n L) (hk : k < n) : ShL n (eNorm L k) := h.set (by rw [List.length_map, h.row hk])
theorem ShL.erow {n k i : Nat} {L : LM} (h : ShL n L) : ShL n (eRow n k L i) := by
  unfold eRow
  split
  · exact h
  · exact h.set (by simp)
theorem ShL.col {n k g m : Nat} {L : LM} (h : ShL n L) (hk : k < n) (hg : g < n) : ShL n (eCol n k L g m) := fold_inv m (fun x i _ hx => hx.erow) m _ (Nat.le_refl _) ((h.swap hk hg).norm hk)
theorem piv_lt {n k g : Nat} {L : LM} {gs : List Nat} (h : ePiv n k L = g :: gs) : g < n ∧ k ≤ g := by
  have hm : g ∈ ePiv n k L := by rw [h]; exact List.mem_cons_self ..
  unfold ePiv at hm
  obtain ⟨m, h1, e⟩ := List.mem_map.mp hm
  have := List.mem_range.mp (List.mem_filter.mp h1).1
  omega
theorem piv_ne {n k g : Nat} {L : LM} {gs : List Nat} (h : ePiv n k L = g :: gs) : lat L g k ≠ 0 := by
  have hm : g ∈ ePiv n k L := by rw [h]; exact List.mem_cons_self ..
  unfold ePiv at hm
  obtain ⟨m, h1, e⟩ := List.mem_map.mp hm
  have := (List.mem_filter.mp h1).2
  rw [← e]
  exact of_decide_eq_true this
theorem lat_mem {n i j : Nat} {L : LM} (h : ShL n L) (hi : i < n) (hj : j < n + 1) : lat L i j ∈ L.getD i [] := by
  have hl : j < (L.getD i []).length := by rw [h.row hi]; exact hj
  unfold lat
  generalize L.getD i [] = r at hl
  rw [show r.getD j 0 = r[j] by simp [List.getD, hl]]
  exact List.getElem_mem _
theorem at_lr {L : LM} {i : Nat} (h : i < L.length) : atI (L.map encLr) (i : Int) = some (encLr (L.getD i [])) := by
  rw [atI_natE, List.getElem?_map]
  simp [List.getD, h]
theorem at_lc {r : List Rat} {j : Nat} (h : j < r.length) : atI (r.map encQ) (j : Int) = some (encQ (r.getD j 0)) := by
  rw [atI_natE, List.getElem?_map]
  simp [List.getD, h]
section
variable {st : Stt} {mu : Mu} {Γ : G} {tf ti tj : TE} {L : LM} {d : D} {i j n : Nat}
theorem ev_l1 (hs : SeqD mu d (L.map encLr)) (hq : L.length = n) (h1 : i < n) (hf : EV K st mu tf Γ (Is d)) (hi : EV K st mu ti Γ (Is (nD i))) : EV K st mu (tOp (rIx K) tf ti) Γ (Is (encLr (L.getD i []))) :=
  ev_opd hf hi (ro_ix hs (at_lr (by rw [hq]; exact h1)))
theorem ev_l2 (hs : SeqD mu d (L.map encLr)) (hq : L.length = n) (h1 : i < n) (h2 : j < (L.getD i []).length) (hf : EV K st mu tf Γ (Is d)) (hi : EV K st mu ti Γ (Is (nD i))) (hj : EV K st mu tj Γ (Is (nD j))) : EV K st mu (tOp (rIx K) (tOp (rIx K) tf ti) tj) Γ (Is (encQ (lat L i j))) :=
  ev_opd (ev_l1 hs hq h1 hf hi) hj (ro_ix SeqD.l (at_lc h2))
end
theorem num_ne (q : Rat) : (!decide (V.int q.num = V.int 0)) = decide (q ≠ 0) := by
  by_cases h : q = 0
  · subst h; rfl
  · have : q.num ≠ 0 := fun e => h (Rat.num_eq_zero.mp e)
    have h2 : ¬ (V.int q.num = V.int 0) := fun e => this (by injection e)
    simp [h, h2]
theorem num_pos_iff (q : Rat) : 0 < q.num ↔ 0 < q := by
  have h1 := Rat.num_nonneg (q := q)
  have h2 := Rat.num_eq_zero (q := q)
  constructor
  · intro h
    refine Rat.lt_of_le_of_ne (h1.mp (by omega)) fun e => ?_
    rw [← e] at h
    cases h
  · intro h
    have a := h1.mpr (Rat.le_of_lt h)
    have b : q.num ≠ 0 := fun e => by
      rw [h2.mp e] at h
      exact Rat.lt_irrefl h
    omega
theorem encQ0 (q : Rat) : atI [D.int q.num, D.int (q.den : Nat)] 0 = some (D.int q.num) := rfl
theorem encQ1 (q : Rat) : atI [D.int q.num, D.int (q.den : Nat)] 1 = some (D.int (q.den : Nat)) := rfl
def R_l_shrinks (K : PySem.W.Frag) : RT := fun ds st mu P => ∃ (n : Nat) (A : LM), n ≤ 100 ∧ A.length = n ∧ (∀ r ∈ A, r.length = n) ∧ ShrOk n A ∧ ds = [.lst (A.map encLr)] ∧ st = none ∧ mu = [] ∧ P = Is (.bl (shrB n A))
theorem d_l_shrinks (T : Tx K mg) (A : At K mg "_law_shrinks" s_l_shrinks) (D_l_signed : Def P w K mg base 2 "_law_signed" ["_law_top", "_law_bottom"] (R_l_signed K)) (D_l_less : Def P w K mg base 3 "_law_less" ["_law_one", "_law_other"] (R_l_less K)) (D_l_times : Def P w K mg base 2 "_law_times" ["_law_one", "_law_other"] (R_l_times K)) : Def P w K mg base 4 "_law_shrinks" ["_law_rows"] (R_l_shrinks K) := by
  obtain ⟨f, fd, F, hm⟩ := A.fn
  refine mk_def F hm (def_ok F sc_l_shrinks (fun ds st mu PP h => ?_) (by decide) fun cdv A outer s H E hr ds st mu PP h => ?_) fun _ _ _ _ _ _ us hl => match us, hl with | [_], _ => rfl
  · obtain ⟨n, A, _, _, _, _, rfl, _⟩ := h
    rfl
  · obtain ⟨n, A, hn, hA, hAr, hok, rfl, rfl, rfl, rfl⟩ := h
    have hrow : ∀ i, i < n → (A.getD i []).length = n := fun i hi => by
      have hl : i < A.length := by rw [hA]; exact hi
      rw [show A.getD i [] = A[i] by simp [List.getD, hl]]
      exact hAr _ (List.getElem_mem _)
    refine ⟨_, (pss_cons (ps_set (i := 1) sc_l_shrinks.nd rfl (Or.inr rfl) (pe_callB (k_len (K := K) (by rfl)) (by rfl) T.len (by decide +kernel) (pa_cons (pv 0) pa_nil)))
        (pss_cons (ps_set (i := 2) sc_l_shrinks.nd rfl (Or.inr rfl) (pe_lst pa_nil))
        (pss_cons (ps_for PassesOwn.never (by rfl) (pi_range1 (by rfl) T.range (pa_cons (pv 1) pa_nil)) (pg_name (i := 3) sc_l_shrinks.nd rfl (by first | exact Or.inl rfl | exact Or.inr rfl)) (pss_one (ps_expr (pe_bm PySem.F.plainAttrs_list PySem.F.slot_list_append PySem.F.type_list_append mt_append (pv 2) (pa_cons (pe_op op_cat (pe_lc (own := [("_law_j", 8)]) (by rfl) sc_l_shrinks.nd (pi_range1 (by rfl) T.range (pa_cons (pv 1) pa_nil)) (blkOk_by (by kernel_rfl)) (fun _ _ _ _ _ => (pg_name (i := 8) sc_l_shrinks.nd rfl (by first | exact Or.inl rfl | exact Or.inr rfl))) (fun _ _ _ _ _ => pts_nil) (fun _ _ _ _ _ => (pe_callD D_l_less ⟨rfl, rfl, rfl, rfl, rfl⟩ (hr.mono (by decide)) (by rfl) (pa_cons (pe_tup (pa_cons (pe_callTy cl_int (by rfl) T.int (by decide +kernel) (pa_cons (pe_cmpR op_eq (pv 3) (pv 8) (nomark _)) pa_nil)) (pa_cons pe_int pa_nil))) (pa_cons (pe_ix (k_ix (K := K) (by rfl)) (pe_ix (k_ix (K := K) (by rfl)) (pv 0) (pv 3) (fun _ _ => rfl)) (pv 8) (fun _ _ => rfl)) pa_nil))))) (pe_lst (pa_cons (pe_tup (pa_cons pe_int (pa_cons pe_int pa_nil))) pa_nil))) pa_nil)))))
        (pss_cons (ps_for PassesOwn.never (by rfl) (pi_range1 (by rfl) T.range (pa_cons (pv 1) pa_nil)) (pg_name (i := 4) sc_l_shrinks.nd rfl (by first | exact Or.inl rfl | exact Or.inr rfl)) (pss_cons (ps_setLc (i := 5) (own := [("_law_i", 3)]) (by rfl) sc_l_shrinks.nd rfl rfl (sw_true rfl rfl rfl (by decide +kernel)) (pi_range2 (by rfl) T.range (pa_cons (pv 4) (pa_cons (pv 1) pa_nil))) (blkOk_by (by kernel_rfl)) (fun _ _ _ _ _ => (pg_name (i := 3) sc_l_shrinks.nd rfl (by first | exact Or.inl rfl | exact Or.inr rfl))) (fun _ _ _ _ _ => pts_one (pt_cmpR op_ne (pe_ix (k_ix (K := K) (by rfl)) (pe_ix (k_ix (K := K) (by rfl)) (pe_ix (k_ix (K := K) (by rfl)) (pv 2) (pv 3) (fun _ _ => rfl)) (pv 4) (fun _ _ => rfl)) pe_int (fun _ _ => rfl)) pe_int (nomark _))) (fun _ _ _ _ _ => (pv 3)))
        (pss_cons (ps_if (pt_cmpR op_eq (pe_callB (k_len (K := K) (by rfl)) (by rfl) T.len (by decide +kernel) (pa_cons (pv 5) pa_nil)) pe_int (nomark _)) (pss_one (ps_ret pe_bl)) pss_nil)
        (pss_cons (ps_asg (pe_tup (pa_cons (pe_ix (k_ix (K := K) (by rfl)) (pv 2) (pe_ix (k_ix (K := K) (by rfl)) (pv 5) pe_int (fun _ _ => rfl)) (fun _ _ => rfl)) (pa_cons (pe_ix (k_ix (K := K) (by rfl)) (pv 2) (pv 4) (fun _ _ => rfl)) pa_nil))) (k_gtup (K := K) (n := 2) (by rfl) (by rfl) (pgs_cons (pg_sub (pv 2) (pv 4) set_list) (pgs_cons (pg_sub (pv 2) (pe_ix (k_ix (K := K) (by rfl)) (pv 5) pe_int (fun _ _ => rfl)) set_list) pgs_nil))))
        (pss_cons (ps_set (i := 6) sc_l_shrinks.nd rfl (Or.inr rfl) (pe_ix (k_ix (K := K) (by rfl)) (pe_ix (k_ix (K := K) (by rfl)) (pv 2) (pv 4) (fun _ _ => rfl)) (pv 4) (fun _ _ => rfl)))
        (pss_cons (ps_asg (pe_lc (own := [("_law_number", 9)]) (by rfl) sc_l_shrinks.nd (k_seq (K := K) (by rfl) (pe_ix (k_ix (K := K) (by rfl)) (pv 2) (pv 4) (fun _ _ => rfl))) (blkOk_by (by kernel_rfl)) (fun _ _ _ _ _ => (pg_name (i := 9) sc_l_shrinks.nd rfl (by first | exact Or.inl rfl | exact Or.inr rfl))) (fun _ _ _ _ _ => pts_nil) (fun _ _ _ _ _ => (pe_callD D_l_signed ⟨rfl, rfl, rfl, rfl, rfl⟩ (hr.mono (by decide)) (by rfl) (pa_cons (pe_op op_mulA (pe_ix (k_ix (K := K) (by rfl)) (pv 9) pe_int (fun _ _ => rfl)) (pe_ix (k_ix (K := K) (by rfl)) (pv 6) pe_int (fun _ _ => rfl))) (pa_cons (pe_op op_mulA (pe_ix (k_ix (K := K) (by rfl)) (pv 9) pe_int (fun _ _ => rfl)) (pe_ix (k_ix (K := K) (by rfl)) (pv 6) pe_int (fun _ _ => rfl))) pa_nil))))) (pg_sub (pv 2) (pv 4) set_list))
        (pss_one (ps_for PassesOwn.never (by rfl) (pi_range1 (by rfl) T.range (pa_cons (pv 1) pa_nil)) (pg_name (i := 3) sc_l_shrinks.nd rfl (by first | exact Or.inl rfl | exact Or.inr rfl)) (pss_one (ps_if (pt_cmpR op_ne (pv 3) (pv 4) (nomark _)) (pss_cons (ps_set (i := 7) sc_l_shrinks.nd rfl (Or.inr rfl) (pe_ix (k_ix (K := K) (by rfl)) (pe_ix (k_ix (K := K) (by rfl)) (pv 2) (pv 3) (fun _ _ => rfl)) (pv 4) (fun _ _ => rfl)))
        (pss_one (ps_asg (pe_lc (own := [("_law_j", 8)]) (by rfl) sc_l_shrinks.nd (pi_range1 (by rfl) T.range (pa_cons (pe_op op_add (pv 1) pe_int) pa_nil)) (blkOk_by (by kernel_rfl)) (fun _ _ _ _ _ => (pg_name (i := 8) sc_l_shrinks.nd rfl (by first | exact Or.inl rfl | exact Or.inr rfl))) (fun _ _ _ _ _ => pts_nil) (fun _ _ _ _ _ => (pe_callD D_l_less ⟨rfl, rfl, rfl, rfl, rfl⟩ (hr.mono (by decide)) (by rfl) (pa_cons (pe_ix (k_ix (K := K) (by rfl)) (pe_ix (k_ix (K := K) (by rfl)) (pv 2) (pv 3) (fun _ _ => rfl)) (pv 8) (fun _ _ => rfl)) (pa_cons (pe_callD D_l_times ⟨rfl, rfl, rfl, rfl, rfl⟩ (hr.mono (by decide)) (by rfl) (pa_cons (pv 7) (pa_cons (pe_ix (k_ix (K := K) (by rfl)) (pe_ix (k_ix (K := K) (by rfl)) (pv 2) (pv 4) (fun _ _ => rfl)) (pv 8) (fun _ _ => rfl)) pa_nil))) pa_nil))))) (pg_sub (pv 2) (pv 3) set_list)))) pss_nil))))))))))
        (pss_one (ps_ret (pe_callB (k_all (K := K) (by rfl) rfl) (by rfl) T.all (by decide +kernel) (pa_cons (pe_lc (own := [("_law_line", 10)]) (by rfl) sc_l_shrinks.nd (k_seq (K := K) (by rfl) (pv 2)) (blkOk_by (by kernel_rfl)) (fun _ _ _ _ _ => (pg_name (i := 10) sc_l_shrinks.nd rfl (by first | exact Or.inl rfl | exact Or.inr rfl))) (fun _ _ _ _ _ => pts_nil) (fun _ _ _ _ _ => (pe_cmpR op_gt (pe_ix (k_ix (K := K) (by rfl)) (pe_ix (k_ix (K := K) (by rfl)) (pv 10) (pv 1) (fun _ _ => rfl)) pe_int (fun _ _ => rfl)) pe_int (nomark _)))) pa_nil)))))))), ?_⟩
    (try dsimp only [cxOf, Cx.nox, Cx.wish])
    refine sj_seq (sj_setd (d := nD n) (EV.is (ev_cbd (ea_cons (ev_var rfl) ea_nil) (rc_len SeqD.l)) (by simp [hA])) ?_)
    refine sj_seq (sj_newl fun l => ?_)
    refine sj_seq (sj_forr (n := n) (ea_cons (ev_var rfl) ea_nil) (by omega) (fun k Γ own => ∃ x3 : Option D, Γ = [some (.lst (A.map encLr)), some (nD n), some (.raw (.ref l)), x3, none, none, none, none, none, none, none] ∧ own = [(l, (List.range k).map fun i => encLr ((eInit n A).getD i []))]) ⟨none, rfl, rfl⟩ ?_ ?_)
    · rintro i Γ' own' hi ⟨x3, rfl, rfl⟩
      have er : (eInit n A).getD i [] = (List.range n).map (fun j => (if i = j then 1 else 0) - lat A i j) ++ [1] := by
        simp [eInit, List.getD, hi]
      refine sj_app (i := 2) (k := 0) (PV := Is (encLr ((eInit n A).getD i []))) rfl rfl (EV.is (ev_opd (ev_lcr (n := n) (g := fun j => encQ ((if i = j then 1 else 0) - lat A i j)) (ea_cons (ev_var rfl) ea_nil) (by simp) (by omega) fun j hj => ?_) (ev_lst (ea_cons (ev_tup (ea_cons ev_c (ea_cons ev_c ea_nil))) ea_nil)) (ro_cat (xs := (List.range n).map fun j => encQ ((if i = j then 1 else 0) - lat A i j)) (ys := [.tup [.int 1, .int 1]]) (by simp; omega))) ?_) (by simp; omega) ?_
      · refine ev_call (ea_cons (EV.is (ev_tup (ea_cons (ev_cbd (ea_cons (ev_opd (ev_var rfl) (ev_var rfl) (ro_eq rfl)) ea_nil) rc_intb) (ea_cons ev_c ea_nil)) (len_ok rfl)) ?_) (ea_cons (ev_l2 SeqD.l hA hi (by rw [hrow i hi]; exact hj) (ev_var rfl) (ev_var rfl) (ev_var rfl)) ea_nil)) (r_l_less (a := if i = j then 1 else 0) ?_ (hok.a i j hi hj))
        · rw [int_eq]
          by_cases e : i = j
          · subst e; simp; rfl
          · simp [e]; rfl
        · by_cases e : i = j
          · rw [if_pos e]; exact ⟨one_B4, one_B4⟩
          · rw [if_neg e]; exact ⟨Nat.lt_trans Nat.zero_lt_one one_B4, one_B4⟩
      · rw [er]
        unfold encLr
        rw [List.map_append, List.map_map]
        rfl
      · rintro d rfl
        exact ⟨some (nD i), rfl, by rw [List.range_succ, List.map_append]; rfl⟩
    rintro Γ' own' ⟨x3, rfl, rfl⟩
    have e0 : (List.range n).map (fun i => encLr ((eInit n A).getD i [])) = (eInit n A).map encLr := by
      apply List.ext_getElem?
      intro i
      have hl := (ShL.init (n := n) (A := A)).1
      rw [List.getElem?_map, List.getElem?_map]
      by_cases hi : i < n
      · rw [List.getElem?_range hi, List.getElem?_eq_getElem (by omega)]
        simp [List.getD, hl, hi]
      · rw [List.getElem?_eq_none (by simp; omega), List.getElem?_eq_none (by omega)]
        rfl
    rw [e0]
    refine sj_seq (sj_forr (n := n) (ea_cons (ev_var rfl) ea_nil) (by omega) (fun k Γ own => ∃ (x3 x4 x5 x6 x7 : Option D) (L : LM), Γ = [some (.lst (A.map encLr)), some (nD n), some (.raw (.ref l)), x3, x4, x5, x6, x7, none, none, none] ∧ own = [(l, L.map encLr)] ∧ eRun n A k = some L ∧ ShL n L) ⟨x3, none, none, none, none, eInit n A, rfl, rfl, rfl, ShL.init⟩ ?_ ?_)
    · rintro k Γ' own' hk ⟨x3, x4, x5, x6, x7, L, rfl, rfl, hL, hs⟩
      have hsd : ∀ M : LM, SeqD ([] ++ [(l, M.map encLr)]) (.raw (.ref l)) (M.map encLr) := fun M => SeqD.m (List.mem_cons_self ..)
      refine sj_seq (sj_setd (d := .lst ((ePiv n k L).map nD)) (EV.is (ev_lcf (c := fun m => decide (lat L (k + m) k ≠ 0)) (f := fun m => .int ((k + m : Nat) : Int)) (it_rng2 (a := k) (b := n) (ea_cons (ev_var rfl) (ea_cons (ev_var rfl) ea_nil))) (fun p hp => by cases hp) (by simp) (by omega) (fun m hm => ?_) fun m hm _ => ?_) ?_) ?_)
      · refine et_testd (EV.is (ev_opd (ev_opd (ev_l2 (hsd L) hs.1 (i := k + m) (j := k) (by omega) (by rw [hs.row (by omega)]; omega) (ev_var rfl) (ev_var rfl) (ev_var rfl)) ev_c (ro_ix SeqD.t (encQ0 _))) ev_c (ro_ne rfl)) (by rw [num_ne]))
      · exact ev_var rfl
      · unfold ePiv
        rw [List.map_map]
        rfl
      cases hp : ePiv n k L with
      | nil =>
        refine sj_seq (sj_ifd (b := true) (ET.is (et_testd (ev_opd (ev_cbd (ea_cons (ev_var rfl) ea_nil) (rc_len SeqD.l)) ev_c (ro_eq rfl))) (by simp)) (fun _ => sj_ret (EV.is ev_c ?_)) fun e => by cases e)
        have hno : ∀ m, k < m → eRun n A m = none := fun m hm => by
          induction m with
          | zero => omega
          | succ m ih =>
            show (eRun n A m).bind _ = none
            by_cases e : k = m
            · subst e
              rw [hL]
              show eStep n L k = none
              unfold eStep
              rw [hp]
            · rw [ih (by omega)]
              rfl
        unfold shrB
        rw [hno n hk]
      | cons g gs =>
        obtain ⟨hg, hkg⟩ := piv_lt hp
        have hgn := piv_ne hp
        obtain ⟨aL, hcol⟩ := hok.c k L g gs hk hL hp
        refine sj_seq (sj_ifd (b := false) (ET.is (et_testd (ev_opd (ev_cbd (ea_cons (ev_var rfl) ea_nil) (rc_len SeqD.l)) ev_c (ro_eq rfl))) (by simp; omega)) (fun e => by cases e) fun _ => sj_next ?_)
        have hg0 : atI ((g :: gs).map nD) (0 : Int) = some (nD g) := at_head
        refine sj_seq (sj_swap (k := 0) (m := k) (n := g) (x := encLr (L.getD g [])) (y := encLr (L.getD k [])) (ev_tup (ea_cons (ev_l1 (hsd L) hs.1 hg (ev_var rfl) (ev_opd (ev_var rfl) ev_c (ro_ix SeqD.l hg0))) (ea_cons (ev_l1 (hsd L) hs.1 hk (ev_var rfl) (ev_var rfl)) ea_nil)) (len_ok rfl)) (ev_var rfl) (ev_var rfl) rfl (by simp [hs.1, hk]) (by simp [hs.1, hg]) (ev_var rfl) (ev_opd (ev_var rfl) ev_c (ro_ix SeqD.l hg0)) ?_)
        have e1 : ((L.map encLr).set k (encLr (L.getD g []))).set g (encLr (L.getD k [])) = (eSwap L k g).map encLr := by
          unfold eSwap
          rw [List.map_set, List.map_set]
        show SJ _ _ _ [(l, ((L.map encLr).set k (encLr (L.getD g []))).set g (encLr (L.getD k [])))] _
        rw [e1]
        have h1 := hs.swap hk hg
        have aS : AllSm (eSwap L k g) := fun r hr x hx => by
          unfold eSwap at hr
          rcases List.mem_or_eq_of_mem_set hr with hr | hr
          · rcases List.mem_or_eq_of_mem_set hr with hr | hr
            · exact aL r hr x hx
            · rw [hr] at hx
              exact aL _ (hs.mem hg) x hx
          · rw [hr] at hx
            exact aL _ (hs.mem hk) x hx
        have hne : lat (eSwap L k g) k k ≠ 0 := by
          have hgl : g < L.length := by rw [hs.1]; exact hg
          have hkl : k < L.length := by rw [hs.1]; exact hk
          have e : (eSwap L k g).getD k [] = L.getD g [] := by
            unfold eSwap
            by_cases e : g = k
            · subst e
              simp [List.getD, hkl]
            · simp [List.getD, List.getElem?_set, e, hkl]
          unfold lat at hgn ⊢
          rw [e]
          exact hgn
        have eC : eCol n k L g 0 = eNorm (eSwap L k g) k := rfl
        generalize hM : eSwap L k g = M at h1 aS hne eC
        have hkk : k < (M.getD k []).length := by rw [h1.row hk]; omega
        refine sj_seq (sj_setd (d := encQ (lat M k k)) (ev_l2 (hsd M) h1.1 hk hkk (ev_var rfl) (ev_var rfl) (ev_var rfl)) ?_)
        have sH : Sm (lat M k k) := aS _ (h1.mem hk) _ (lat_mem h1 hk (by omega))
        refine sj_seq (sj_setix (k := 0) (i := 2) (m := k) (ds := M.map encLr) (PV := Is (encLr ((M.getD k []).map fun x => x / lat M k k))) rfl rfl (EV.is (ev_lct (M.getD k []) encQ (fun x => encQ (x / lat M k k)) false (ev_l1 (hsd M) h1.1 hk (ev_var rfl) (ev_var rfl)) seqB_l (by simp) (by rw [h1.row hk]; omega) fun i x hx => ?_) (by simp [encLr])) (ev_var rfl) (by simp [h1.1, hk]) ?_)
        · have sx : Sm x := aS _ (h1.mem hk) x (List.mem_of_getElem? hx)
          exact ev_call (ea_cons (ev_opd (ev_opd (ev_var rfl) ev_c (ro_ix SeqD.t (encQ0 x))) (ev_opd (ev_var rfl) ev_c (ro_ix SeqD.t (encQ1 _))) (ro_I (mul_okN sx.1 sH.2))) (ea_cons (ev_opd (ev_opd (ev_var rfl) ev_c (ro_ix SeqD.t (encQ1 x))) (ev_opd (ev_var rfl) ev_c (ro_ix SeqD.t (encQ0 _))) (ro_I (mul_ok (by rw [Int.natAbs_natCast]; exact sx.2) sH.1))) ea_nil)) (r_l_signed sx sH hne)
        rintro d rfl
        have e2 : (M.map encLr).set k (encLr ((M.getD k []).map fun x => x / lat M k k)) = (eCol n k L g 0).map encLr := by
          rw [eC]
          unfold eNorm
          rw [List.map_set]
        show SJ _ _ _ [(l, (M.map encLr).set k (encLr ((M.getD k []).map fun x => x / lat M k k)))] _
        rw [e2]
        refine (sj_forr (n := n) (ea_cons (ev_var rfl) ea_nil) (by omega) (fun m Γ own => ∃ (x3 x7 : Option D), Γ = [some (.lst (A.map encLr)), some (nD n), some (.raw (.ref l)), x3, some (nD k), some (.lst ((g :: gs).map nD)), some (encQ (lat M k k)), x7, none, none, none] ∧ own = [(l, (eCol n k L g m).map encLr)]) ⟨x3, x7, rfl, rfl⟩ ?_ ?_)
        · rintro i Γ' own' hi ⟨x3, x7, rfl, rfl⟩
          have hc := hs.col (m := i) hk hg
          obtain ⟨aC, pC⟩ := hcol i (by omega)
          have eN : eCol n k L g (i + 1) = eRow n k (eCol n k L g i) i := foldl_range _ _ _
          generalize eCol n k L g i = C at hc aC pC eN
          refine sj_ifd (b := decide (i ≠ k)) (ET.is (et_testd (ev_opd (ev_var rfl) (ev_var rfl) (ro_ne rfl))) (by rw [int_eq]; simp)) (fun e => ?_) fun e => sj_next ⟨some (nD i), x7, rfl, ?_⟩
          · have hik : i ≠ k := of_decide_eq_true e
            have r1 := hc.row hi
            have r2 := hc.row hk
            refine sj_seq (sj_setd (d := encQ (lat C i k)) (ev_l2 (hsd C) hc.1 hi (by omega) (ev_var rfl) (ev_var rfl) (ev_var rfl)) ?_)
            refine sj_setix (k := 0) (i := 2) (m := i) (ds := C.map encLr) (PV := Is (encLr ((List.range (n + 1)).map fun j => lat C i j - lat C i k * lat C k j))) rfl rfl (EV.is (ev_lcr (n := n + 1) (g := fun j => encQ (lat C i j - lat C i k * lat C k j)) (EA.isL (ea_cons (ev_opd (ev_var rfl) ev_c ro_I0) ea_nil) (by simp)) (by simp) (by omega) fun j hj => ?_) (by simp [encLr])) (ev_var rfl) (by simp [hc.1, hi]) ?_
            · have s1 : Sm (lat C i j) := aC _ (hc.mem hi) _ (lat_mem hc hi hj)
              have s2 : Sm (lat C i k) := aC _ (hc.mem hi) _ (lat_mem hc hi (by omega))
              have s3 : Sm (lat C k j) := aC _ (hc.mem hk) _ (lat_mem hc hk hj)
              exact ev_call (ea_cons (ev_l2 (hsd C) hc.1 hi (by omega) (ev_var rfl) (ev_var rfl) (ev_var rfl)) (ea_cons (ev_call (ea_cons (ev_var rfl) (ea_cons (ev_l2 (hsd C) hc.1 hk (by omega) (ev_var rfl) (ev_var rfl) (ev_var rfl)) ea_nil)) (r_l_times s2 s3)) ea_nil)) (r_l_less s1 (pC i j hi hj))
            · rintro d rfl
              refine ⟨some (nD i), some (encQ (lat C i k)), rfl, ?_⟩
              rw [eN]
              unfold eRow
              rw [if_neg hik, List.map_set]
              rfl
          · have hik : i = k := by simpa using e
            rw [eN]
            unfold eRow
            rw [if_pos hik]
        · rintro Γ' own' ⟨x3, x7, rfl, rfl⟩
          refine ⟨x3, _, _, _, x7, eCol n k L g n, rfl, rfl, ?_, hs.col hk hg⟩
          show (eRun n A k).bind _ = _
          rw [hL]
          show eStep n L k = _
          unfold eStep
          rw [hp]
    · rintro Γ' own' ⟨x3, x4, x5, x6, x7, L, rfl, rfl, hL, hs⟩
      refine sj_frz (k := 0) (i := 2) rfl rfl (sj_ret (EV.is (ev_cbd (ea_cons (EV.is (ev_lct L encLr (fun r => .bl (decide (0 < r.getD n 0))) false (ev_var rfl) seqB_l (by simp) (by rw [hs.1]; omega) fun i r hr => ?_) (e := .lst ((L.map fun r => decide (0 < r.getD n 0)).map .bl)) (by rw [List.map_map]; rfl)) ea_nil) rc_all) ?_))
      · have hr' : r.length = n + 1 := hs.2 r (List.mem_of_getElem? hr)
        refine EV.is (ev_opd (ev_opd (ev_opd (ev_var rfl) (ev_var rfl) (ro_ix SeqD.l (at_lc (j := n) (by omega)))) ev_c (ro_ix SeqD.t (encQ0 _))) ev_c ro_I0) ?_
        rw [show decide (0 < (r.getD n 0).num) = decide (0 < r.getD n 0) from by rw [decide_eq_decide]; exact num_pos_iff _]
      · unfold shrB
        rw [hL, List.all_map]
        rfl
theorem r_l_shrinks {n : Nat} {A : LM} (hn : n ≤ 100) (hA : A.length = n) (hr : ∀ r ∈ A, r.length = n) (hok : ShrOk n A) : R_l_shrinks K [.lst (A.map encLr)] none [] (Is (.bl (shrB n A))) := ⟨n, A, hn, hA, hr, hok, rfl, rfl, rfl, rfl⟩
end U
set_option maxHeartbeats 4000000
/-! G6: l_heavy, l_is_star. -/
namespace U
open PySem PyProof.Rows L2 Evl RZ
local macro_rules | `(tactic| walk_at "u") => `(tactic| first
  | ((with_reducible apply ev_cT) <;> assumption)
  | with_reducible apply ev_c
  | ((with_reducible apply ev_var); rfl)
  | with_reducible apply ea_nil
  | ((with_reducible apply ea_cons) <;> (try walk_at "u"))
  | ((with_reducible apply ev_opd) <;> (try walk_at "u"))
  | with_reducible apply ro_I0
  | ((with_reducible apply ro_I) <;> (try walk_at "s"))
  | ((with_reducible apply ro_ix) <;> (try walk_at "s"))
  | ((with_reducible apply ro_eq); rfl)
  | ((with_reducible apply ro_ne); rfl)
  | ((with_reducible apply ev_un) <;> (try walk_at "u"))
  | ((with_reducible apply ev_tup) <;> (try walk_at "u"))
  | ((with_reducible apply ev_lst) <;> (try walk_at "u"))
  | ((with_reducible apply ev_cbd) <;> (try walk_at "u"))
  | ((with_reducible apply rc_len) <;> (try walk_at "s"))
  | with_reducible apply rc_abs
  | with_reducible apply rc_int
  | with_reducible apply rc_intb
  | ((with_reducible apply rc_list) <;> (try walk_at "s"))
  | ((with_reducible apply rc_tup) <;> (try walk_at "s"))
  | ((with_reducible apply rc_isi) <;> (try walk_at "s"))
  | ((with_reducible apply ev_call) <;> (try walk_at "u"))
  | ((with_reducible apply ev_and2) <;> (try walk_at "u"))
  | ((with_reducible apply ev_or2) <;> (try walk_at "u"))
  | ((with_reducible apply ev_notV) <;> (try walk_at "u"))
  | ((with_reducible apply ev_chain) <;> (try walk_at "u"))
  | ((with_reducible apply et_testd) <;> (try walk_at "u"))
  | ((with_reducible apply et_B) <;> (try walk_at "u"))
  | ((with_reducible apply et_and) <;> (try walk_at "u"))
  | ((with_reducible apply et_or) <;> (try walk_at "u"))
  | ((with_reducible apply et_not) <;> (try walk_at "u"))
  | ((with_reducible intro h_) <;> (try walk_at "u"))
  | exact len_ok rfl
  | decide)
local macro_rules | `(tactic| walk_at "s") => `(tactic| first
  | with_reducible assumption
  | exact SeqD.l
  | exact SeqD.t
  | exact seqB_l
  | exact seqB_t
  | with_reducible exact ok_encO _
  | with_reducible exact sh_encO _
  | with_reducible rfl
  | ((with_reducible refine Eq.trans ?_ rfl); rfl)
  | assumption
  | decide)
variable {P : Program} {w : World} {K : PySem.W.Frag} {mg : Str → Option Value} {base : Heap}
theorem k_inL {X : Cx} {K : PySem.W.Frag} (h : X.K = K) (hu : X.A.units + 70 < cLine) : OpR X (compareOp .In) (rInD K) := by subst h; exact op_inD (by omega)
theorem ro_inL {st : Stt} {mu : Mu} {x : D} {ds : List D} (hx : okD x = true) (hy : okDs ds = true) (sx : SeqAt.shaped (py x) = true) (sy : SeqAt.shaped (py (.lst ds)) = true) {b : Bool} (e : ((pys ds).any fun z => PyData.eqv z (py x)) = b) : RO K st mu (rInD K) x (.lst ds) (Is (.bl b)) :=
  fun H0 H vx vy i s m rx ry Q q => ⟨py x, pys ds, (rx.mono i).dp hx, (ry.mono i).dp (d := .lst ds) hy, sx, sy, by rw [e]; exact q _ _ H0 H (Gr.refl i) s rfl (.raw _)⟩
theorem ok_row (r : List Oc) : okDs (r.map encO) = true := by
  induction r with
  | nil => rfl
  | cons x r ih => show (okD (encO x) && okDs (r.map encO)) = true; rw [ok_encO, ih]; rfl
theorem lay_row (r : List Oc) : PyData.canLayAll0 (pys (r.map encO)) = true := by
  induction r with
  | nil => rfl
  | cons x r ih => show ((py (encO x)).canLay0 && PyData.canLayAll0 (pys (r.map encO))) = true; rw [lay_encO, ih]; rfl
theorem depth_row (r : List Oc) : PyData.depthAll (pys (r.map encO)) ≤ 1 := by
  induction r with
  | nil => exact Nat.zero_le _
  | cons x r ih =>
    have := depth_encO x
    show max (py (encO x)).depth (PyData.depthAll (pys (r.map encO))) ≤ 1
    omega
theorem sh_row (r : List Oc) : SeqAt.shaped (py (.lst (r.map encO))) = true := shaped_of (d := .list (pys (r.map encO))) (by rw [PyData.canLay0]; exact lay_row r) (n := 2) (by
  have := depth_row r
  rw [PyData.depth]
  omega)
theorem any_row (r : List Oc) (o : Oc) : ((pys (r.map encO)).any fun z => PyData.eqv z (py (encO o))) = r.any fun x => decide (x = o) := by
  induction r with
  | nil => rfl
  | cons x r ih =>
    show (PyData.eqv (py (encO x)) (py (encO o)) || (pys (r.map encO)).any _) = _
    rw [ih, eqv_encO]
    rfl
def pieceL (A : Mat) (R : BM) (p : Nat) : List Nat := (List.range A.length).filter fun k => decide (k = p) || (bat R p k && bat R k p)
def innerM (A : Mat) (C : List Nat) : Mat := C.map fun i => C.map fun j => at2 A i j
def innerQ (A : Mat) (C : List Nat) : LM := C.map fun i => C.map fun j => (at2 A i j).getD 0
def heavyB (A : Mat) (R : BM) (p : Nat) : Bool := bat R p p && ((innerM A (pieceL A R p)).any (fun r => r.any fun x => decide (x = none)) || !shrB (pieceL A R p).length (innerQ A (pieceL A R p)))
def HvOk (A : Mat) (R : BM) (p : Nat) : Prop := bat R p p = true → (∀ i ∈ pieceL A R p, ∀ j ∈ pieceL A R p, at2 A i j ≠ none) → ShrOk (pieceL A R p).length (innerQ A (pieceL A R p))
def R_l_heavy (K : PySem.W.Frag) : RT := fun ds st mu P => ∃ (b : Bool) (n : Nat) (A : Mat) (R : BM) (p : Nat), n ≤ 100 ∧ Sq n A ∧ SqB n R ∧ p < n ∧ HvOk A R p ∧ ds = [encM b A, encBM R, nD p] ∧ st = none ∧ mu = [] ∧ P = Is (.bl (heavyB A R p))
theorem inner_fin {A : Mat} {C : List Nat} (h : ∀ i ∈ C, ∀ j ∈ C, at2 A i j ≠ none) : (innerM A C).map (encR false) = (innerQ A C).map encLr := by
  unfold innerM innerQ
  rw [List.map_map, List.map_map]
  apply List.map_congr_left
  intro i hi
  show D.lst ((C.map fun j => at2 A i j).map encO) = D.lst ((C.map fun j => (at2 A i j).getD 0).map encQ)
  rw [List.map_map, List.map_map]
  congr 1
  apply List.map_congr_left
  intro j hj
  show encO (at2 A i j) = encQ ((at2 A i j).getD 0)
  cases h2 : at2 A i j with
  | none => exact absurd h2 (h i hi j hj)
  | some q => rfl
theorem d_l_heavy (T : Tx K mg) (A : At K mg "_law_heavy" s_l_heavy) (D_l_shrinks : Def P w K mg base 4 "_law_shrinks" ["_law_rows"] (R_l_shrinks K)) : Def P w K mg base 5 "_law_heavy" ["_law_rows", "_law_reached_here", "_law_place"] (R_l_heavy K) := by
  obtain ⟨f, fd, F, hm⟩ := A.fn
  refine mk_def F hm (def_ok F sc_l_heavy (fun ds st mu PP h => ?_) (by decide) fun cdv A outer s H E hr ds st mu PP h => ?_) fun _ _ _ _ _ _ us hl => match us, hl with | [_, _, _], _ => rfl
  · obtain ⟨b, n, A, R, p, _, _, _, _, _, rfl, _⟩ := h
    rfl
  · obtain ⟨b, n, A, R, p, hn, hq, hR, hp, hok, rfl, rfl, rfl, rfl⟩ := h
    have hAn : A.length = n := hq.1
    refine ⟨_, (pss_cons (ps_set (i := 3) sc_l_heavy.nd rfl (Or.inr rfl) (pe_lc (own := [("_law_k", 5)]) (by rfl) sc_l_heavy.nd (pi_range1 (by rfl) T.range (pa_cons (pe_callB (k_len (K := K) (by rfl)) (by rfl) T.len (by decide +kernel) (pa_cons (pv 0) pa_nil)) pa_nil)) (blkOk_by (by kernel_rfl)) (fun _ _ _ _ _ => (pg_name (i := 5) sc_l_heavy.nd rfl (by first | exact Or.inl rfl | exact Or.inr rfl))) (fun _ _ _ _ _ => pts_one (PW.pt (pw_or (pt_cmpR op_eq (pv 5) (pv 2) (nomark _)) (pw_or1 (PW.pt (pw_and (pt_val (pe_ix (k_ix (K := K) (by rfl)) (pe_ix (k_ix (K := K) (by rfl)) (pv 1) (pv 2) (fun _ _ => rfl)) (pv 5) (fun _ _ => rfl))) (pw_and1 (pt_val (pe_ix (k_ix (K := K) (by rfl)) (pe_ix (k_ix (K := K) (by rfl)) (pv 1) (pv 5) (fun _ _ => rfl)) (pv 2) (fun _ _ => rfl)))))))))) (fun _ _ _ _ _ => (pv 5))))
        (pss_cons (ps_setLc (i := 4) (own := [("_law_i", 6)]) (by rfl) sc_l_heavy.nd rfl rfl (sw_true rfl rfl rfl (by decide +kernel)) (k_seq (K := K) (by rfl) (pv 3)) (blkOk_by (by kernel_rfl)) (fun _ _ _ _ _ => (pg_name (i := 6) sc_l_heavy.nd rfl (by first | exact Or.inl rfl | exact Or.inr rfl))) (fun _ _ _ _ _ => pts_nil) (fun _ _ _ _ _ => (pe_lc (own := [("_law_j", 7)]) (by rfl) sc_l_heavy.nd (k_seq (K := K) (by rfl) (pv 3)) (blkOk_by (by kernel_rfl)) (fun _ _ _ _ _ => (pg_name (i := 7) sc_l_heavy.nd rfl (by first | exact Or.inl rfl | exact Or.inr rfl))) (fun _ _ _ _ _ => pts_nil) (fun _ _ _ _ _ => (pe_ix (k_ix (K := K) (by rfl)) (pe_ix (k_ix (K := K) (by rfl)) (pv 0) (pv 6) (fun _ _ => rfl)) (pv 7) (fun _ _ => rfl))))))
        (pss_cons (ps_if (pt_not (pt_val (pe_ix (k_ix (K := K) (by rfl)) (pe_ix (k_ix (K := K) (by rfl)) (pv 1) (pv 2) (fun _ _ => rfl)) (pv 2) (fun _ _ => rfl)))) (pss_one (ps_ret pe_bl)) pss_nil)
        (pss_one (ps_ret (pe_or (pe_callB (k_any (K := K) (by rfl) rfl) (by rfl) T.any (by decide +kernel) (pa_cons (pe_lc (own := [("_law_row_here", 8)]) (by rfl) sc_l_heavy.nd (k_seq (K := K) (by rfl) (pv 4)) (blkOk_by (by kernel_rfl)) (fun _ _ _ _ _ => (pg_name (i := 8) sc_l_heavy.nd rfl (by first | exact Or.inl rfl | exact Or.inr rfl))) (fun _ _ _ _ _ => pts_nil) (fun _ _ _ _ _ => (pe_cmpR (k_inL (K := K) (by rfl) (hu_70 hr)) pe_str (pv 8) (by rfl)))) pa_nil)) (pe_one (pe_not (pe_callD D_l_shrinks ⟨rfl, rfl, rfl, rfl, rfl⟩ (hr.mono (by decide)) (by rfl) (pa_cons (pv 4) pa_nil)))))))))), ?_⟩
    (try dsimp only [cxOf, Cx.nox, Cx.wish])
    have hC : ∀ k ∈ pieceL A R p, k < n := fun k hk => by
      have := List.mem_range.mp (List.mem_filter.mp hk).1
      omega
    have hCl : (pieceL A R p).length ≤ n := by
      have := List.length_filter_le (fun k => decide (k = p) || (bat R p k && bat R k p)) (List.range A.length)
      rw [List.length_range] at this
      unfold pieceL
      omega
    refine sj_seq (sj_setd (d := .lst ((pieceL A R p).map nD)) (EV.is (ev_lcf (n := n) (c := fun k => decide (k = p) || (bat R p k && bat R k p)) (f := nD) (it_rng (EA.isL (ea_cons (ev_cbd (ea_cons (ev_var rfl) ea_nil) (rc_len (seqD_mk b _))) ea_nil) (by simp [hAn]))) (fun p hp => by cases hp) (by simp) (by omega) (fun k hk => ?_) fun k hk _ => ev_var rfl) (by unfold pieceL; rw [hAn])) ?_)
    · exact et_or (et_testd (EV.is (ev_opd (ev_var rfl) (ev_var rfl) (ro_eq rfl)) (by rw [int_eq]))) fun _ => et_and (et_testd (ev_bm hR hp hk (ev_var rfl) (ev_var rfl) (ev_var rfl))) fun _ => et_testd (ev_bm hR hk hp (ev_var rfl) (ev_var rfl) (ev_var rfl))
    generalize hCe : pieceL A R p = C at hC hCl
    refine sj_seq (sj_setd (d := .lst ((innerM A C).map (encR false))) (EV.is (ev_lct C nD (fun i => .lst (C.map fun j => encO (at2 A i j))) false (ev_var rfl) seqB_l (by simp) (by omega) fun _ i hi => ev_lct C nD (fun j => encO (at2 A i j)) false (ev_var rfl) seqB_l (by simp) (by omega) fun _ j hj =>
      ev_m2 hq (hC i (List.mem_of_getElem? hi)) (hC j (List.mem_of_getElem? hj)) (ev_var rfl) (ev_var rfl) (ev_var rfl)) ?_) ?_)
    · unfold innerM
      rw [List.map_map]
      congr 1
      apply List.map_congr_left
      intro i _
      show _ = D.lst ((C.map fun j => at2 A i j).map encO)
      rw [List.map_map]
      rfl
    refine sj_seq (sj_ifd (b := !bat R p p) (et_not (et_testd (ev_bm hR hp hp (ev_var rfl) (ev_var rfl) (ev_var rfl)))) (fun e => sj_ret (EV.is ev_c ?_)) fun e => sj_next ?_)
    · have e1 : bat R p p = false := by simpa using e
      unfold heavyB
      rw [e1]
      rfl
    have e1 : bat R p p = true := by simpa using e
    refine sj_ret (EV.is (ev_or2 (a := (innerM A C).any (fun r => r.any fun x => decide (x = none))) (b := !shrB C.length (innerQ A C)) (EV.is (ev_cbd (ea_cons (EV.is (ev_lct (innerM A C) (encR false) (fun r => .bl (r.any fun x => decide (x = none))) false (ev_var rfl) seqB_l (by simp) (by simp [innerM]; omega) fun _ r hr => ?_) (e := .lst (((innerM A C).map fun r => r.any fun x => decide (x = none)).map .bl)) (by rw [List.map_map]; rfl)) ea_nil) rc_any) (by rw [List.any_map]; rfl)) fun ea => ?_) ?_)
    · exact ev_opd ev_c (ev_var rfl) (ro_inL (x := .str "endless") rfl (ok_row r) (sh_encO none) (sh_row r) (any_row r none))
    · have hfin : ∀ i ∈ C, ∀ j ∈ C, at2 A i j ≠ none := fun i hi j hj e2 => by
        have := List.any_eq_false.mp ea (C.map fun j => at2 A i j) (List.mem_map.mpr ⟨i, hi, rfl⟩)
        apply this
        exact List.any_eq_true.mpr ⟨none, List.mem_map.mpr ⟨j, hj, e2⟩, by simp⟩
      have hs : ShrOk C.length (innerQ A C) := by
        have := hok e1
        rw [hCe] at this
        exact this hfin
      refine ev_notV (ev_call (ea_cons (EV.is (ev_var rfl) (e := .lst ((innerQ A C).map encLr)) (by rw [inner_fin hfin])) ea_nil) (r_l_shrinks (n := C.length) (by omega) (by simp [innerQ]) (fun r hr => ?_) hs))
      obtain ⟨i, _, e⟩ := List.mem_map.mp hr
      rw [← e, List.length_map]
    · unfold heavyB
      rw [e1, hCe]
      rfl
theorem r_l_heavy {b : Bool} {n : Nat} {A : Mat} {R : BM} {p : Nat} (hn : n ≤ 100) (hq : Sq n A) (hR : SqB n R) (hp : p < n) (hok : HvOk A R p) : R_l_heavy K [encM b A, encBM R, nD p] none [] (Is (.bl (heavyB A R p))) := ⟨b, n, A, R, p, hn, hq, hR, hp, hok, rfl, rfl, rfl, rfl⟩
/-! ### is it the star -/
def due (A S : Mat) (i j : Nat) : Nat → Oc
  | 0 => at2 A i j
  | k + 1 => oadd (due A S i j k) (omul (at2 A i k) (at2 S k j))
def heavies (A : Mat) : List Bool := (List.range A.length).map fun p => heavyB A (reachB A) p
structure IsStar (n : Nat) (A S : Mat) : Prop where
  a : Sq n A
  s : Sq n S
  h : ∀ p, p < n → HvOk A (reachB A) p
  e : ∀ i j, i < n → j < n → decide (at2 S i j = none) = isEnd A (reachB A) (heavies A) i j
  z : ∀ i j, i < n → j < n → decide (at2 S i j = some 0) = !bat (reachB A) i j
  d : ∀ i j, i < n → j < n → at2 S i j ≠ none → at2 S i j = due A S i j n
  sa : ∀ i j, i < n → j < n → SmO (at2 A i j)
  ss : ∀ i j, i < n → j < n → SmO (at2 S i j)
  sp : ∀ i j k, i < n → j < n → k < n → SmO (omul (at2 A i k) (at2 S k j))
  sd : ∀ i j k, i < n → j < n → k ≤ n → SmO (due A S i j k)
theorem Sq.reach {n : Nat} {A : Mat} (h : Sq n A) : SqB n (reachB A) := by
  have := h.nz.wall n (Nat.le_refl _)
  unfold reachB
  rw [h.1]
  exact this
def R_l_is_star (K : PySem.W.Frag) : RT := fun ds st mu P => ∃ (b b2 : Bool) (n : Nat) (A S : Mat), n ≤ 100 ∧ IsStar n A S ∧ ds = [encM b A, encM b2 S] ∧ st = none ∧ mu = [] ∧ P = Is (.bl true)
theorem d_l_is_star (T : Tx K mg) (A : At K mg "_law_is_star" s_l_is_star) (D_l_reached : Def P w K mg base 1 "_law_reached" ["_law_rows"] (R_l_reached K)) (D_l_heavy : Def P w K mg base 5 "_law_heavy" ["_law_rows", "_law_reached_here", "_law_place"] (R_l_heavy K)) (D_l_is_endless : Def P w K mg base 1 "_law_is_endless" ["_law_rows", "_law_reached_here", "_law_heavy_here", "_law_i", "_law_j"] (R_l_is_endless K)) (D_l_sum : Def P w K mg base 3 "_law_sum" ["_law_one", "_law_other"] (R_l_sum K)) (D_l_product : Def P w K mg base 3 "_law_product" ["_law_one", "_law_other"] (R_l_product K)) : Def P w K mg base 6 "_law_is_star" ["_law_rows", "_law_told"] (R_l_is_star K) := by
  obtain ⟨f, fd, F, hm⟩ := A.fn
  refine mk_def F hm (def_ok F sc_l_is_star (fun ds st mu PP h => ?_) (by decide) fun cdv A outer s H E hr ds st mu PP h => ?_) fun _ _ _ _ _ _ us hl => match us, hl with | [_, _], _ => rfl
  · obtain ⟨b, b2, n, A, S, _, _, rfl, _⟩ := h
    rfl
  · obtain ⟨b, b2, n, A, S, hn, hs, rfl, rfl, rfl, rfl⟩ := h
    have hAn : A.length = n := hs.a.1
    have hR := hs.a.reach
    refine ⟨_, (pss_cons (ps_set (i := 2) sc_l_is_star.nd rfl (Or.inr rfl) (pe_callD D_l_reached ⟨rfl, rfl, rfl, rfl, rfl⟩ (hr.mono (by decide)) (by rfl) (pa_cons (pv 0) pa_nil)))
        (pss_cons (ps_setLc (i := 3) (own := [("_law_place", 8)]) (by rfl) sc_l_is_star.nd rfl rfl (sw_true rfl rfl rfl (by decide +kernel)) (pi_range1 (by rfl) T.range (pa_cons (pe_callB (k_len (K := K) (by rfl)) (by rfl) T.len (by decide +kernel) (pa_cons (pv 0) pa_nil)) pa_nil)) (blkOk_by (by kernel_rfl)) (fun _ _ _ _ _ => (pg_name (i := 8) sc_l_is_star.nd rfl (by first | exact Or.inl rfl | exact Or.inr rfl))) (fun _ _ _ _ _ => pts_nil) (fun _ _ _ _ _ => (pe_callD D_l_heavy ⟨rfl, rfl, rfl, rfl, rfl⟩ (hr.mono (by decide)) (by rfl) (pa_cons (pv 0) (pa_cons (pv 2) (pa_cons (pv 8) pa_nil))))))
        (pss_cons (ps_for PassesOwn.never (by rfl) (pi_range1 (by rfl) T.range (pa_cons (pe_callB (k_len (K := K) (by rfl)) (by rfl) T.len (by decide +kernel) (pa_cons (pv 0) pa_nil)) pa_nil)) (pg_name (i := 4) sc_l_is_star.nd rfl (by first | exact Or.inl rfl | exact Or.inr rfl)) (pss_one (ps_for PassesOwn.never (by rfl) (pi_range1 (by rfl) T.range (pa_cons (pe_callB (k_len (K := K) (by rfl)) (by rfl) T.len (by decide +kernel) (pa_cons (pv 0) pa_nil)) pa_nil)) (pg_name (i := 5) sc_l_is_star.nd rfl (by first | exact Or.inl rfl | exact Or.inr rfl)) (pss_cons (ps_if (pt_cmpR op_ne (pe_cmpR (k_eqD (K := K) (by rfl) hr.units) (pe_ix (k_ix (K := K) (by rfl)) (pe_ix (k_ix (K := K) (by rfl)) (pv 1) (pv 4) (fun _ _ => rfl)) (pv 5) (fun _ _ => rfl)) pe_str (nomark _)) (pe_callD D_l_is_endless ⟨rfl, rfl, rfl, rfl, rfl⟩ (hr.mono (by decide)) (by rfl) (pa_cons (pv 0) (pa_cons (pv 2) (pa_cons (pv 3) (pa_cons (pv 4) (pa_cons (pv 5) pa_nil)))))) (nomark _)) (pss_one (ps_ret pe_bl)) pss_nil)
        (pss_cons (ps_if (pt_cmpR op_eq (pe_cmpR (k_eqD (K := K) (by rfl) hr.units) (pe_ix (k_ix (K := K) (by rfl)) (pe_ix (k_ix (K := K) (by rfl)) (pv 1) (pv 4) (fun _ _ => rfl)) (pv 5) (fun _ _ => rfl)) (pe_tup (pa_cons pe_int (pa_cons pe_int pa_nil))) (nomark _)) (pe_ix (k_ix (K := K) (by rfl)) (pe_ix (k_ix (K := K) (by rfl)) (pv 2) (pv 4) (fun _ _ => rfl)) (pv 5) (fun _ _ => rfl)) (nomark _)) (pss_one (ps_ret pe_bl)) pss_nil)
        (pss_cons (ps_set (i := 6) sc_l_is_star.nd rfl (Or.inl rfl) (pe_ix (k_ix (K := K) (by rfl)) (pe_ix (k_ix (K := K) (by rfl)) (pv 0) (pv 4) (fun _ _ => rfl)) (pv 5) (fun _ _ => rfl)))
        (pss_cons (ps_for PassesOwn.never (by rfl) (pi_range1 (by rfl) T.range (pa_cons (pe_callB (k_len (K := K) (by rfl)) (by rfl) T.len (by decide +kernel) (pa_cons (pv 0) pa_nil)) pa_nil)) (pg_name (i := 7) sc_l_is_star.nd rfl (by first | exact Or.inl rfl | exact Or.inr rfl)) (pss_one (ps_set (i := 6) sc_l_is_star.nd rfl (Or.inl rfl) (pe_callD D_l_sum ⟨rfl, rfl, rfl, rfl, rfl⟩ (hr.mono (by decide)) (by rfl) (pa_cons (pv 6) (pa_cons (pe_callD D_l_product ⟨rfl, rfl, rfl, rfl, rfl⟩ (hr.mono (by decide)) (by rfl) (pa_cons (pe_ix (k_ix (K := K) (by rfl)) (pe_ix (k_ix (K := K) (by rfl)) (pv 0) (pv 4) (fun _ _ => rfl)) (pv 7) (fun _ _ => rfl)) (pa_cons (pe_ix (k_ix (K := K) (by rfl)) (pe_ix (k_ix (K := K) (by rfl)) (pv 1) (pv 7) (fun _ _ => rfl)) (pv 5) (fun _ _ => rfl)) pa_nil))) pa_nil))))))
        (pss_one (ps_if (PW.pt (pw_and (pt_cmpR (k_neD (K := K) (by rfl) hr.units) (pe_ix (k_ix (K := K) (by rfl)) (pe_ix (k_ix (K := K) (by rfl)) (pv 1) (pv 4) (fun _ _ => rfl)) (pv 5) (fun _ _ => rfl)) pe_str (nomark _)) (pw_and1 (pt_cmpR (k_neD (K := K) (by rfl) hr.units) (pe_ix (k_ix (K := K) (by rfl)) (pe_ix (k_ix (K := K) (by rfl)) (pv 1) (pv 4) (fun _ _ => rfl)) (pv 5) (fun _ _ => rfl)) (pv 6) (nomark _))))) (pss_one (ps_ret pe_bl)) pss_nil)))))))))
        (pss_one (ps_ret pe_bl))))), ?_⟩
    (try dsimp only [cxOf, Cx.nox, Cx.wish])
    have eL : ∀ (G0 : G) (own : Mu), G0[0]? = some (some (encM b A)) → EA K none ([] ++ own) (tCons (tCB (cLen K) (tCons (tVar 0) tNil)) tNil) G0 (Is [.int (n : Int)]) := fun G0 own h0 =>
      EA.isL (ea_cons (ev_cbd (ea_cons (ev_var h0) ea_nil) (rc_len (seqD_mk b _))) ea_nil) (by simp [hAn])
    refine sj_seq (sj_setd (d := encBM (reachB A)) (ev_call (ea_cons (ev_var rfl) ea_nil) (r_l_reached hn hs.a)) ?_)
    refine sj_seq (sj_setd (d := .lst ((heavies A).map .bl)) (EV.is (ev_lcr (n := n) (g := fun p => .bl (heavyB A (reachB A) p)) (eL _ _ rfl) (by simp) (by omega) fun p hp => ev_call (ea_cons (ev_var rfl) (ea_cons (ev_var rfl) (ea_cons (ev_var rfl) ea_nil))) (r_l_heavy hn hs.a hR hp (hs.h p hp))) (by unfold heavies; rw [hAn, List.map_map]; rfl)) ?_)
    refine sj_seq (sj_forr (n := n) (eL _ _ rfl) (by omega) (fun i Γ own => ∃ x4 x5 x6 x7 : Option D, Γ = [some (encM b A), some (encM b2 S), some (encBM (reachB A)), some (.lst ((heavies A).map .bl)), x4, x5, x6, x7, none] ∧ own = []) ⟨none, none, none, none, rfl, rfl⟩ ?_ ?_)
    · rintro i Γ' own' hi ⟨x4, x5, x6, x7, rfl, rfl⟩
      refine (sj_forr (n := n) (eL _ _ rfl) (by omega) (fun j Γ own => ∃ x5 x6 x7 : Option D, Γ = [some (encM b A), some (encM b2 S), some (encBM (reachB A)), some (.lst ((heavies A).map .bl)), some (nD i), x5, x6, x7, none] ∧ own = []) ⟨x5, x6, x7, rfl, rfl⟩ ?_ ?_)
      · rintro j Γ' own' hj ⟨x5, x6, x7, rfl, rfl⟩
        have te := hs.e i j hi hj
        have tz := hs.z i j hi hj
        have td := hs.d i j hi hj
        have ts := hs.s
        generalize hx : at2 S i j = x at te tz td
        have rd : ∀ (G0 : G), G0[1]? = some (some (encM b2 S)) → G0[4]? = some (some (nD i)) → G0[5]? = some (some (nD j)) → EV K none [] (tOp (rIx K) (tOp (rIx K) (tVar 1) (tVar 4)) (tVar 5)) G0 (Is (encO x)) := fun G0 h1 h2 h3 => by
          rw [← hx]
          exact ev_m2 ts hi hj (ev_var h1) (ev_var h2) (ev_var h3)
        refine sj_seq (sj_ifd (b := false) (ET.is (et_testd (ev_opd (ev_opd (rd _ rfl rfl rfl) ev_c (ro_eqD (ok_encO _) rfl (sh_encO _) (sh_encO none) (eqv_encO _ none))) (ev_call (ea_cons (ev_var rfl) (ea_cons (ev_var rfl) (ea_cons (ev_var rfl) (ea_cons (ev_var rfl) (ea_cons (ev_var rfl) ea_nil))))) (r_l_is_endless hn hs.a hR (by simp [heavies, hAn]) hi hj)) (ro_ne rfl))) (by rw [te]; simp)) (fun e => by cases e) fun _ => sj_next ?_)
        refine sj_seq (sj_ifd (b := false) (ET.is (et_testd (ev_opd (ev_opd (rd _ rfl rfl rfl) (ev_tup (ea_cons ev_c (ea_cons ev_c ea_nil))) (ro_eqD (ok_encO _) rfl (sh_encO _) (sh_encO (some 0)) (eqv_encO _ (some 0)))) (ev_bm hR hi hj (ev_var rfl) (ev_var rfl) (ev_var rfl)) (ro_eq rfl))) (by rw [tz]; simp)) (fun e => by cases e) fun _ => sj_next ?_)
        refine sj_seq (sj_setd (d := encO (due A S i j 0)) (ev_m2 hs.a hi hj (ev_var rfl) (ev_var rfl) (ev_var rfl)) ?_)
        refine sj_seq (sj_forr (n := n) (eL _ _ rfl) (by omega) (fun k Γ own => ∃ x7 : Option D, Γ = [some (encM b A), some (encM b2 S), some (encBM (reachB A)), some (.lst ((heavies A).map .bl)), some (nD i), some (nD j), some (encO (due A S i j k)), x7, none] ∧ own = []) ⟨x7, rfl, rfl⟩ ?_ ?_)
        · rintro k Γ' own' hk ⟨x7, rfl, rfl⟩
          exact sj_setd (d := encO (due A S i j (k + 1))) (ev_call (ea_cons (ev_var rfl) (ea_cons (ev_call (ea_cons (ev_m2 hs.a hi hk (ev_var rfl) (ev_var rfl) (ev_var rfl)) (ea_cons (ev_m2 hs.s hk hj (ev_var rfl) (ev_var rfl) (ev_var rfl)) ea_nil)) (r_l_product (hs.sa i k hi hk) (hs.ss k j hk hj))) ea_nil)) (r_l_sum (hs.sd i j k hi hj (by omega)) (hs.sp i j k hi hj hk))) ⟨_, rfl, rfl⟩
        · rintro Γ' own' ⟨x7, rfl, rfl⟩
          refine sj_ifd (b := false) (ET.is (et_and (et_testd (ev_opd (rd _ rfl rfl rfl) ev_c (ro_neD (ok_encO _) rfl (sh_encO _) (sh_encO none) (eqv_encO _ none)))) fun _ => et_testd (ev_opd (rd _ rfl rfl rfl) (ev_var rfl) (ro_neD (ok_encO _) (ok_encO _) (sh_encO _) (sh_encO _) (eqv_encO _ _)))) ?_) (fun e => by cases e) fun _ => sj_next ⟨_, _, _, rfl, rfl⟩
          by_cases hx0 : x = none
          · simp [hx0]
          · rw [td hx0]
            simp
      · rintro Γ' own' ⟨x5, x6, x7, rfl, rfl⟩
        exact ⟨_, _, _, _, rfl, rfl⟩
    · rintro Γ' own' ⟨x4, x5, x6, x7, rfl, rfl⟩
      exact sj_ret (EV.is ev_c rfl)
theorem r_l_is_star {b b2 : Bool} {n : Nat} {A S : Mat} (hn : n ≤ 100) (h : IsStar n A S) : R_l_is_star K [encM b A, encM b2 S] none [] (Is (.bl true)) := ⟨b, b2, n, A, S, hn, h, rfl, rfl, rfl, rfl⟩
end U
set_option maxHeartbeats 4000000
/-! G7: defs that draw from the law's state; l_pick. -/
namespace U
open PySem PyProof.Rows L2 Evl RZ
local macro_rules | `(tactic| walk_at "u") => `(tactic| first
  | ((with_reducible apply ev_cT) <;> assumption)
  | with_reducible apply ev_c
  | ((with_reducible apply ev_var); rfl)
  | with_reducible apply ea_nil
  | ((with_reducible apply ea_cons) <;> (try walk_at "u"))
  | ((with_reducible apply ev_opd) <;> (try walk_at "u"))
  | with_reducible apply ro_I0
  | ((with_reducible apply ro_I) <;> (try walk_at "s"))
  | ((with_reducible apply ro_ix) <;> (try walk_at "s"))
  | ((with_reducible apply ro_eq); rfl)
  | ((with_reducible apply ro_ne); rfl)
  | ((with_reducible apply ev_un) <;> (try walk_at "u"))
  | ((with_reducible apply ev_tup) <;> (try walk_at "u"))
  | ((with_reducible apply ev_lst) <;> (try walk_at "u"))
  | ((with_reducible apply ev_cbd) <;> (try walk_at "u"))
  | ((with_reducible apply rc_len) <;> (try walk_at "s"))
  | with_reducible apply rc_abs
  | with_reducible apply rc_int
  | with_reducible apply rc_intb
  | ((with_reducible apply rc_list) <;> (try walk_at "s"))
  | ((with_reducible apply rc_tup) <;> (try walk_at "s"))
  | ((with_reducible apply rc_isi) <;> (try walk_at "s"))
  | ((with_reducible apply ev_call) <;> (try walk_at "u"))
  | ((with_reducible apply ev_and2) <;> (try walk_at "u"))
  | ((with_reducible apply ev_or2) <;> (try walk_at "u"))
  | ((with_reducible apply ev_notV) <;> (try walk_at "u"))
  | ((with_reducible apply ev_chain) <;> (try walk_at "u"))
  | ((with_reducible apply et_testd) <;> (try walk_at "u"))
  | ((with_reducible apply et_B) <;> (try walk_at "u"))
  | ((with_reducible apply et_and) <;> (try walk_at "u"))
  | ((with_reducible apply et_or) <;> (try walk_at "u"))
  | ((with_reducible apply et_not) <;> (try walk_at "u"))
  | ((with_reducible intro h_) <;> (try walk_at "u"))
  | exact len_ok rfl
  | decide)
local macro_rules | `(tactic| walk_at "s") => `(tactic| first
  | with_reducible assumption
  | exact SeqD.l
  | exact SeqD.t
  | exact seqB_l
  | exact seqB_t
  | with_reducible exact ok_encO _
  | with_reducible exact sh_encO _
  | with_reducible rfl
  | ((with_reducible refine Eq.trans ?_ rfl); rfl)
  | assumption
  | decide)
variable {P : Program} {w : World} {K : PySem.W.Frag} {mg : Str → Option Value} {base : Heap}
/-- the state as own lists -/
def StOwn (a c : Addr) (own : Mu) : Prop := ∃ (ns : List Int) (i n : Int), own = [(a, [.raw (.ref c), .int i, .int n]), (c, ns.map D.int)] ∧ (∀ x ∈ ns, 0 ≤ x) ∧ ns ≠ [] ∧ ns.length ≤ 63 ∧ 0 ≤ i ∧ 0 ≤ n
theorem StOwn.ok {a c : Addr} {own : Mu} {B H1 H' : Hp} (ne : a ≠ c) (h : StOwn a c own) (o : OwnOk K none B H1 H' own) : StOk (some (StV.draw a c)) H1 H' ∧ (∃ x, H' a = some x) ∧ ∃ x, H' c = some x := by
  obtain ⟨ns, i, n, rfl, h1, h2, h3, h4, h5⟩ := h
  obtain ⟨vs, q1, q2⟩ := o.h (a, [.raw (.ref c), .int i, .int n]) (by simp)
  obtain ⟨ws, q3, q4⟩ := o.h (c, ns.map D.int) (by simp)
  have e1 : vs = [.ref c, .int i, .int n] := RpAll.raws (K := K) (H := H1) (xs := [.ref c, .int i, .int n]) q2
  have e2 : ws = ns.map V.int := ints_of q4
  subst e1 e2
  exact ⟨⟨o.z (a, [.raw (.ref c), .int i, .int n]) (by simp), o.z (c, ns.map D.int) (by simp), ns, i, n, ⟨q1, q3, ne, h1, h2, h3, h4, h5⟩⟩, ⟨_, q1⟩, _, q3⟩
theorem def_okS {x qual : Str} {params : Arguments} {body : List Stmt} {scope : Scope} {dvs : List V} {kws : List (Str × V)} {f : Addr} {fd : FuncData} {N ps : List Str} {k : Nat} {R : List D → Stt → Mu → (D → Prop) → Prop} (F : FunD K x qual params body scope dvs kws f fd) (S : FnScope N ps scope) (hl : ∀ ds st mu PP, R ds st mu PP → ds.length = ps.length) (hN : ps.length ≤ N.length)
    (hbody : ∀ (cdv : Value) (A : Around) (outer : List Env) (s : Shared) (H : Hp) (E : XK), Room k (A.deeper (envOfC qual scope s.heap.objs.size f cdv)) → ∀ ds st mu PP, R ds st mu PP →
      ∃ t a c, st = some (StV.draw a c) ∧ PSs (cxOf CX0 P w K mg base N qual scope f cdv A outer s H E).nox body t ∧ ∀ own, StOwn a c own → SJ ⟨K, none, [], PP, fun _ _ => False, fun _ _ => False, fun _ own' => StOwn a c own'⟩ t (st0 N ds) own (fun _ _ => False)) : FnOk P w K mg base CX0 (k + 1) f fd ps (spG K R) := by
  refine F.ok S (fun vs H Q E h => ?_) (fun cdv A outer s H vs Q E hr h => ?_)
  · obtain ⟨H0, ds, st, mu, PP, i, s, m, r, hR, _⟩ := h
    rw [r.length]
    exact hl ds st mu PP hR
  · obtain ⟨H0, ds, st, mu, PP, i, so, m, r, hR, q⟩ := h
    obtain ⟨t, a, c, rfl, ht, hj⟩ := hbody cdv A outer s H E hr ds st mu PP hR
    have hd := hl ds _ mu PP hR
    obtain ⟨za, zc, ns, ii, n, z⟩ := so
    let B : Hp := fun x => if x = a ∨ x = c then none else H x
    have hB : ∀ x o, B x = some o → H x = some o := fun x o h => by
      have h' : (if x = a ∨ x = c then none else H x) = some o := h
      split at h'
      · cases h'
      · exact h'
    have nB : ∀ x, x ≠ a → x ≠ c → B x = H x := fun x h1 h2 => if_neg fun h => h.elim h1 h2
    have own0 : OwnOk K none B H0 H [(a, [.raw (.ref c), .int ii, .int n]), (c, ns.map D.int)] := by
      refine ⟨by simpa using z.ne, fun p hp => ?_, fun p hp => ?_, fun p hp => by simp [Sx], fun p hp => ?_⟩
      · rcases List.mem_cons.mp hp with e | hp
        · subst e; exact if_pos (.inl rfl)
        · rw [List.mem_singleton.mp hp]; exact if_pos (.inr rfl)
      · rcases List.mem_cons.mp hp with e | hp
        · subst e; exact za
        · rw [List.mem_singleton.mp hp]; exact zc
      · rcases List.mem_cons.mp hp with e | hp
        · subst e
          exact ⟨_, z.hd, RpAll.ofRaws [.ref c, .int ii, .int n]⟩
        · rw [List.mem_singleton.mp hp]
          refine ⟨_, z.cl, ?_⟩
          have := RpAll.ofRaws (K := K) (H := H0) (ns.map V.int)
          rwa [List.map_map] at this
    refine ⟨t, ht.nox, hj _ ⟨ns, ii, n, rfl, z.pos, z.some_, z.few, z.i0, z.n0⟩ H0 B H0 (start N vs) H ⟨⟨Ex.refl _, fun x o h => ⟨o, hB x o h, fun _ => rfl⟩, i, fun _ _ _ h => h⟩, trivial, (fun _ h => by cases h), (fun _ h => by cases h), En.start r (by omega), own0⟩ _ (fun _ _ _ _ _ z => z.elim) (fun _ _ _ _ _ z => z.elim) (fun _ _ _ _ _ z => z.elim) fun v d own' H1 H' g s' p hw o r' => ?_⟩
    obtain ⟨sk, ⟨xa, ha⟩, xc, hc⟩ := hw.ok z.ne o
    refine q v d H1 H' ⟨g.e0, fun x o1 h => ?_, g.i, fun x o1 h h0 => ?_⟩ sk p r'
    · by_cases e1 : x = a
      · subst e1; exact ⟨xa, ha, fun n => absurd (by simp [Sx]) n⟩
      · by_cases e2 : x = c
        · subst e2; exact ⟨xc, hc, fun n => absurd (by simp [Sx]) n⟩
        · obtain ⟨o', h1, h2⟩ := g.e x o1 (by rw [nB x e1 e2]; exact h)
          exact ⟨o', h1, fun _ => h2 (by simp [Sx])⟩
    · by_cases e1 : x = a
      · subst e1; exact sk.1
      · by_cases e2 : x = c
        · subst e2; exact sk.2.1
        · exact g.p x o1 (by rw [nB x e1 e2]; exact h) h0
def Pk (m : Nat) : D → Prop := fun d => ∃ k, k < m ∧ d = nD k
def R_l_pick (K : PySem.W.Frag) : RT := fun ds st mu P => ∃ (a c : Addr) (m : Nat), 0 < m ∧ m < 1000 ∧ ds = [.raw (.ref a), nD m] ∧ st = some (StV.draw a c) ∧ mu = [] ∧ P = Pk m
theorem mod_nat {x : Int} {m : Nat} (hm : 0 < m) : Pk m (.int (x % (m : Int))) := by
  have h1 := Int.emod_nonneg x (show (m : Int) ≠ 0 by omega)
  have h2 := Int.emod_lt_of_pos x (show (0 : Int) < m by omega)
  refine ⟨(x % m).toNat, by omega, ?_⟩
  show D.int (x % (m : Int)) = D.int ((x % (m : Int)).toNat : Int)
  rw [show ((x % (m : Int)).toNat : Int) = x % m by omega]
theorem mul_small {i j : Int} (h1 : 0 ≤ j) (h2 : j < 4294967296) : IntMulOk i j := IntMulOk.of_right (intBits_le_64 (by omega) (by omega))
theorem mul_smallL {i j : Int} (h1 : 0 ≤ i) (h2 : i < 4294967296) : IntMulOk i j := IntMulOk.of_left (intBits_le_64 (by omega) (by omega))
theorem div_small {i j : Int} (h1 : 0 < j) (h2 : j < 4294967296) : CDivW i j := wide_div (b := 32) h1 (by omega) (by decide) (by decide)
theorem d_l_pick (T : Tx K mg) (A : At K mg "_law_pick" s_l_pick)  : Def P w K mg base 1 "_law_pick" ["_law_state", "_law_many"] (R_l_pick K) := by
  obtain ⟨f, fd, F, hm⟩ := A.fn
  refine mk_def F hm (def_okS F sc_l_pick (fun ds st mu PP h => ?_) (by decide) fun cdv A outer s H E hr ds st mu PP h => ?_) fun _ _ _ _ _ _ us hl => match us, hl with | [_, _], _ => rfl
  · obtain ⟨a, c, m, _, _, rfl, _⟩ := h
    rfl
  · obtain ⟨a, c, m, h0, h1, rfl, rfl, rfl, rfl⟩ := h
    refine ⟨_, _, _, rfl, (pss_cons (ps_set (i := 2) sc_l_pick.nd rfl (Or.inl rfl) (pe_ix (k_ix (K := K) (by rfl)) (pv 0) pe_int (fun _ _ => rfl)))
        (pss_cons (ps_set (i := 3) sc_l_pick.nd rfl (Or.inl rfl) (pe_op op_mod (pe_callTy cl_int (by rfl) T.int (by decide +kernel) (pa_cons (pe_ix (k_ix (K := K) (by rfl)) (pv 0) pe_int (fun _ _ => rfl)) pa_nil)) (pe_callB (k_len (K := K) (by rfl)) (by rfl) T.len (by decide +kernel) (pa_cons (pv 2) pa_nil))))
        (pss_cons (ps_augS (pv 0) pe_int (k_get (K := K) (by rfl)) pe_int ip_add set_list)
        (pss_cons (ps_set (i := 4) sc_l_pick.nd rfl (Or.inl rfl) (pe_ix (k_ix (K := K) (by rfl)) (pv 2) (pv 3) (fun _ _ => rfl)))
        (pss_cons (ps_if (pt_cmpR op_ge (pv 4) (pe_op op_pow pe_int pe_int) (nomark _)) (pss_cons (ps_asg (pe_op op_fdivW (pv 4) (pv 1)) (pg_sub (pv 2) (pv 3) set_list))
        (pss_one (ps_ret (pe_op op_mod (pe_callTy cl_int (by rfl) T.int (by decide +kernel) (pa_cons (pv 4) pa_nil)) (pv 1))))) pss_nil)
        (pss_cons (ps_augS (pv 0) pe_int (k_get (K := K) (by rfl)) pe_int ip_add set_list)
        (pss_cons (ps_set (i := 5) sc_l_pick.nd rfl (Or.inl rfl) (pe_op op_mod (pe_callTy cl_int (by rfl) T.int (by decide +kernel) (pa_cons (pe_op op_mulA (pe_op op_add (pe_op op_add (pv 4) (pe_op op_mulA pe_int (pe_ix (k_ix (K := K) (by rfl)) (pv 0) pe_int (fun _ _ => rfl)))) pe_int) pe_int) pa_nil)) pe_int))
        (pss_cons (ps_set (i := 5) sc_l_pick.nd rfl (Or.inl rfl) (pe_op op_mod (pe_callTy cl_int (by rfl) T.int (by decide +kernel) (pa_cons (pe_op op_mulA (pv 5) (pe_op op_add (pe_op op_fdivW (pv 5) pe_int) pe_int)) pa_nil)) pe_int))
        (pss_cons (ps_set (i := 5) sc_l_pick.nd rfl (Or.inl rfl) (pe_op op_mod (pe_callTy cl_int (by rfl) T.int (by decide +kernel) (pa_cons (pe_op op_mulA (pv 5) (pe_op op_add (pe_op op_fdivW (pv 5) pe_int) pe_int)) pa_nil)) pe_int))
        (pss_one (ps_ret (pe_op op_mod (pe_callTy cl_int (by rfl) T.int (by decide +kernel) (pa_cons (pe_op op_fdivW (pv 5) pe_int) pa_nil)) (pv 1))))))))))))), ?_⟩
    (try dsimp only [cxOf, Cx.nox, Cx.wish])
    rintro own ⟨ns, i, n, rfl, hpos, hne, hlen, hi, hn⟩
    have hlp : 0 < ns.length := List.length_pos_iff.mpr hne
    let j := i.toNat % ns.length
    have hj : j < ns.length := Nat.mod_lt _ hlp
    have ej : i % (ns.length : Int) = (j : Int) := by
      show i % (ns.length : Int) = ((i.toNat % ns.length : Nat) : Int)
      rw [Int.natCast_emod, Int.toNat_of_nonneg hi]
    have hx : 0 ≤ ns[j] := hpos _ (List.getElem_mem _)
    have hx1 : atI (ns.map D.int) (j : Int) = some (.int ns[j]) := by
      rw [atI_natE, List.getElem?_map, List.getElem?_eq_getElem hj]
      rfl
    generalize ns[j] = x at hx hx1
    refine sj_seq (sj_setd (d := .raw (.ref c)) (ev_opd (ev_var rfl) ev_c (ro_ix (SeqD.m (List.mem_cons_self ..)) at_head)) ?_)
    refine sj_seq (sj_setd (d := nD j) (EV.is (ev_opd (ev_cbd (ea_cons (ev_opd (ev_var rfl) ev_c (ro_ix (i := 1) (SeqD.m (List.mem_cons_self ..)) (atI_of (j := 1) rfl))) ea_nil) rc_int) (ev_cbd (ea_cons (ev_var rfl) ea_nil) (rc_len (SeqD.m (List.mem_cons_of_mem _ (List.mem_cons_self ..))))) (ro_I (by simp; omega))) (by simp [ej])) ?_)
    refine sj_seq (sj_augix (l := a) (m := 1) (k := 0) (x := i) (y := 1) (ev_var rfl) ev_c rfl rfl ev_c ?_)
    refine sj_seq (sj_setd (d := .int x) (ev_opd (ev_var rfl) (ev_var rfl) (ro_ix (SeqD.m (List.mem_cons_of_mem _ (List.mem_cons_self ..))) hx1)) ?_)
    refine sj_seq (sj_if (PB := fun _ => True) (et_test (EV.imp (ev_opd (ev_var rfl) (ev_opd ev_c ev_c (ro_I ⟨by decide, by decide, by decide⟩)) ro_I0) fun d e => ⟨_, e, trivial⟩)) (fun _ => ?_) fun _ => sj_next ?_)
    · refine sj_seq (sj_setix (l := c) (i := 2) (k := 1) (m := j) (PV := Is (.int (x / (m : Int)))) rfl rfl (ev_opd (ev_var rfl) (ev_var rfl) (ro_I (div_small (by omega) (by omega)))) (ev_var rfl) (by simpa using hj) ?_)
      rintro d rfl
      refine sj_ret (EV.imp (ev_opd (ev_cbd (ea_cons (ev_var rfl) ea_nil) rc_int) (ev_var rfl) (ro_I (by omega))) fun d e => by rw [e]; exact mod_nat h0) fun d _ => ⟨ns.set j (x / (m : Int)), i + 1, n, ?_, fun y hy => ?_, by simpa using hne, by simpa using hlen, by omega, hn⟩
      · show [_, (c, (ns.map D.int).set j (.int (x / (m : Int))))] = _
        rw [List.map_set]
        rfl
      · rcases List.mem_or_eq_of_mem_set hy with hy | hy
        · exact hpos y hy
        · rw [hy]
          exact Int.ediv_nonneg hx (by omega)
    · refine sj_seq (sj_augix (l := a) (m := 2) (k := 0) (x := n) (y := 1) (ev_var rfl) ev_c rfl rfl ev_c ?_)
      have big : ∀ y : Int, 0 ≤ y % 2147483647 ∧ y % 2147483647 < 2147483647 := fun y => ⟨Int.emod_nonneg _ (by decide), Int.emod_lt_of_pos _ (by decide)⟩
      refine sj_seq (sj_setd (d := .int (((x + 7919 * (n + 1) + 1) * 48271) % 2147483647)) (ev_opd (ev_cbd (ea_cons (ev_opd (ev_opd (ev_opd (ev_var rfl) (ev_opd ev_c (ev_opd (ev_var rfl) ev_c (ro_ix (i := 2) (SeqD.m (List.mem_cons_self ..)) (atI_of (j := 2) rfl))) (ro_I (mul_smallL (by decide) (by decide)))) ro_I0) ev_c ro_I0) ev_c (ro_I (mul_small (by decide) (by decide)))) ea_nil) rc_int) ev_c (ro_I (by decide))) ?_)
      obtain ⟨b1, b2⟩ := big ((x + 7919 * (n + 1) + 1) * 48271)
      generalize ((x + 7919 * (n + 1) + 1) * 48271) % 2147483647 = y at b1 b2
      refine sj_seq (sj_setd (d := .int ((y * (y / 1009 + 69621)) % 2147483647)) (ev_opd (ev_cbd (ea_cons (ev_opd (ev_var rfl) (ev_opd (ev_opd (ev_var rfl) ev_c (ro_I (div_small (by decide) (by decide)))) ev_c ro_I0) (ro_I (mul_smallL b1 (by omega)))) ea_nil) rc_int) ev_c (ro_I (by decide))) ?_)
      obtain ⟨b3, b4⟩ := big (y * (y / 1009 + 69621))
      generalize (y * (y / 1009 + 69621)) % 2147483647 = z at b3 b4
      refine sj_seq (sj_setd (d := .int ((z * (z / 2003 + 40692)) % 2147483399)) (ev_opd (ev_cbd (ea_cons (ev_opd (ev_var rfl) (ev_opd (ev_opd (ev_var rfl) ev_c (ro_I (div_small (by decide) (by decide)))) ev_c ro_I0) (ro_I (mul_smallL b3 (by omega)))) ea_nil) rc_int) ev_c (ro_I (by decide))) ?_)
      exact sj_ret (EV.imp (ev_opd (ev_cbd (ea_cons (ev_opd (ev_var rfl) ev_c (ro_I (div_small (by decide) (by decide)))) ea_nil) rc_int) (ev_var rfl) (ro_I (by omega))) fun d e => by rw [e]; exact mod_nat h0) fun d _ => ⟨ns, i + 1, n + 1, rfl, hpos, hne, hlen, by omega, by omega⟩
theorem r_l_pick {a c : Addr} {m : Nat} (h0 : 0 < m) (h1 : m < 1000) : R_l_pick K [.raw (.ref a), nD m] (some (StV.draw a c)) [] (Pk m) := ⟨a, c, m, h0, h1, rfl, rfl, rfl, rfl⟩
end U
set_option maxHeartbeats 4000000
/-! G8: l_vector, l_cell, l_row, l_square. -/
namespace U
open PySem PyProof.Rows L2 Evl RZ
local macro_rules | `(tactic| walk_at "u") => `(tactic| first
  | ((with_reducible apply ev_cT) <;> assumption)
  | with_reducible apply ev_c
  | ((with_reducible apply ev_var); rfl)
  | with_reducible apply ea_nil
  | ((with_reducible apply ea_cons) <;> (try walk_at "u"))
  | ((with_reducible apply ev_opd) <;> (try walk_at "u"))
  | with_reducible apply ro_I0
  | ((with_reducible apply ro_I) <;> (try walk_at "s"))
  | ((with_reducible apply ro_ix) <;> (try walk_at "s"))
  | ((with_reducible apply ro_eq); rfl)
  | ((with_reducible apply ro_ne); rfl)
  | ((with_reducible apply ev_un) <;> (try walk_at "u"))
  | ((with_reducible apply ev_tup) <;> (try walk_at "u"))
  | ((with_reducible apply ev_lst) <;> (try walk_at "u"))
  | ((with_reducible apply ev_cbd) <;> (try walk_at "u"))
  | ((with_reducible apply rc_len) <;> (try walk_at "s"))
  | with_reducible apply rc_abs
  | with_reducible apply rc_int
  | with_reducible apply rc_intb
  | ((with_reducible apply rc_list) <;> (try walk_at "s"))
  | ((with_reducible apply rc_tup) <;> (try walk_at "s"))
  | ((with_reducible apply rc_isi) <;> (try walk_at "s"))
  | ((with_reducible apply ev_call) <;> (try walk_at "u"))
  | ((with_reducible apply ev_and2) <;> (try walk_at "u"))
  | ((with_reducible apply ev_or2) <;> (try walk_at "u"))
  | ((with_reducible apply ev_notV) <;> (try walk_at "u"))
  | ((with_reducible apply ev_chain) <;> (try walk_at "u"))
  | ((with_reducible apply et_testd) <;> (try walk_at "u"))
  | ((with_reducible apply et_B) <;> (try walk_at "u"))
  | ((with_reducible apply et_and) <;> (try walk_at "u"))
  | ((with_reducible apply et_or) <;> (try walk_at "u"))
  | ((with_reducible apply et_not) <;> (try walk_at "u"))
  | ((with_reducible intro h_) <;> (try walk_at "u"))
  | exact len_ok rfl
  | decide)
local macro_rules | `(tactic| walk_at "s") => `(tactic| first
  | with_reducible assumption
  | exact SeqD.l
  | exact SeqD.t
  | exact seqB_l
  | exact seqB_t
  | with_reducible exact ok_encO _
  | with_reducible exact sh_encO _
  | with_reducible rfl
  | ((with_reducible refine Eq.trans ?_ rfl); rfl)
  | assumption
  | decide)
variable {P : Program} {w : World} {K : PySem.W.Frag} {mg : Str → Option Value} {base : Heap}
def IntP (p : Int → Prop) : D → Prop := fun d => ∃ x, d = .int x ∧ p x
section
variable {st : Stt} {mu : Mu} {Γ : G} {ta tb te : TE} {p q : Int → Prop} {j : Int}
theorem EV.intP {m : Nat} (h : EV K st mu te Γ (Pk m)) : EV K st mu te Γ (IntP fun x => 0 ≤ x ∧ x < (m : Int)) := h.imp fun d ⟨k, hk, e⟩ => ⟨(k : Nat), e, by omega, by omega⟩
theorem ev_opI {C : Int → Int → Prop} {f : Int → Int → Int} (ha : EV K st mu ta Γ (IntP p)) (hb : EV K st mu tb Γ (Is (.int j))) (hC : ∀ x, p x → C x j) (h : ∀ x, p x → q (f x j)) : EV K st mu (tOp (rI C fun i j => .int (f i j)) ta tb) Γ (IntP q) :=
  ev_op ha hb fun x y ⟨x', e, px⟩ ey => by
    subst e ey
    intro H0 H vx vy i s m rx ry Q qq
    exact ro_I (hC x' px) H0 H vx vy i s m rx ry Q fun v d H1 H' g s' e r => qq v d H1 H' g s' ⟨_, e, h x' px⟩ r
theorem ev_opI0 {f : Int → Int → Int} (ha : EV K st mu ta Γ (IntP p)) (hb : EV K st mu tb Γ (Is (.int j))) (h : ∀ x, p x → q (f x j)) : EV K st mu (tOp (rI0 fun i j => .int (f i j)) ta tb) Γ (IntP q) :=
  ev_op ha hb fun x y ⟨x', e, px⟩ ey => by
    subst e ey
    intro H0 H vx vy i s m rx ry Q qq
    exact ro_I0 H0 H vx vy i s m rx ry Q fun v d H1 H' g s' e r => qq v d H1 H' g s' ⟨_, e, h x' px⟩ r
theorem ev_opI0r {f : Int → Int → Int} (ha : EV K st mu ta Γ (Is (.int j))) (hb : EV K st mu tb Γ (IntP p)) (h : ∀ x, p x → q (f j x)) : EV K st mu (tOp (rI0 fun i j => .int (f i j)) ta tb) Γ (IntP q) :=
  ev_op ha hb fun x y ex ⟨y', e, py⟩ => by
    subst ex e
    intro H0 H vx vy i s m rx ry Q qq
    exact ro_I0 H0 H vx vy i s m rx ry Q fun v d H1 H' g s' e r => qq v d H1 H' g s' ⟨_, e, h y' py⟩ r
/-- pick(state, m) -/
theorem ev_pick {a c : Addr} {m : Nat} {E : XK} {t1 t2 : TE} (h1 : EV K (some (StV.draw a c)) mu t1 Γ (Is (.raw (.ref a)))) (h2 : EV K (some (StV.draw a c)) mu t2 Γ (Is (nD m))) (h0 : 0 < m) (hm : m < 1000) : EV K (some (StV.draw a c)) mu (tCall (spG K (R_l_pick K)) [] E (tCons t1 (tCons t2 tNil))) Γ (Pk m) :=
  ev_callS [] (ea_cons h1 (ea_cons h2 ea_nil)) (fun p hp => by cases hp) (r_l_pick h0 hm)
end
abbrev zD (x : Int) : D := .int x
def BsOk (bs : List Nat) : Prop := bs.length ≤ 3 ∧ ∀ b ∈ bs, 1 ≤ b ∧ b ≤ 4
/-- x is t / b, told in twelfths -/
def Twelfth (most : Nat) (b : Nat) (x : Int) : Prop := ∃ t : Int, -(most : Int) ≤ t ∧ t ≤ most ∧ x * b = 12 * t
def VecOk (most : Nat) (bs : List Nat) (xs : List Int) : Prop := xs.length = bs.length ∧ ∀ (i : Nat) (x : Int) (b : Nat), xs[i]? = some x → bs[i]? = some b → Twelfth most b x
def VecP (most : Nat) (bs : List Nat) : D → Prop := fun d => ∃ xs, VecOk most bs xs ∧ d = .lst (xs.map zD)
theorem ints_all {p : Nat → Int → Prop} : ∀ {es : List D} {n : Nat}, es.length = n → (∀ i e, es[i]? = some e → ∃ x, e = .int x ∧ p i x) → ∃ xs : List Int, es = xs.map zD ∧ xs.length = n ∧ ∀ i x, xs[i]? = some x → p i x := by
  intro es n hl h
  refine ⟨es.map fun e => match e with | .raw (.int x) => x | _ => 0, ?_, by simp [hl], fun i x hx => ?_⟩
  · rw [List.map_map]
    apply List.ext_getElem?
    intro i
    rw [List.getElem?_map]
    cases q : es[i]? with
    | none => rfl
    | some e =>
      obtain ⟨x, rfl, _⟩ := h i e q
      rfl
  · rw [List.getElem?_map] at hx
    cases q : es[i]? with
    | none => rw [q] at hx; cases hx
    | some e =>
      obtain ⟨y, rfl, py⟩ := h i e q
      rw [q] at hx
      have : y = x := Option.some.inj hx
      rw [← this]
      exact py
def R_l_vector (K : PySem.W.Frag) : RT := fun ds st mu P => ∃ (a c : Addr) (bs : List Nat) (most : Nat), BsOk bs ∧ most ≤ 3 ∧ ds = [.raw (.ref a), .lst (bs.map nD), nD most] ∧ st = some (StV.draw a c) ∧ mu = [] ∧ P = VecP most bs
theorem mul_ok_small {i j : Int} (h1 : -100 ≤ i) (h2 : i ≤ 100) : IntMulOk i j := IntMulOk.of_left (intBits_le_64 (by omega) (by omega))
theorem twelfth_div {most b : Nat} {x : Int} (hb : 1 ≤ b) (hb4 : b ≤ 4) (h1 : -(most : Int) ≤ x) (h2 : x ≤ most) : Twelfth most b (x * 12 / (b : Int)) := by
  refine ⟨x, h1, h2, ?_⟩
  have h4 : b = 1 ∨ b = 2 ∨ b = 3 ∨ b = 4 := by omega
  rcases h4 with e | e | e | e <;> subst e <;> omega
theorem d_l_vector (T : Tx K mg) (A : At K mg "_law_vector" s_l_vector) (D_l_pick : Def P w K mg base 1 "_law_pick" ["_law_state", "_law_many"] (R_l_pick K)) : Def P w K mg base 2 "_law_vector" ["_law_state", "_law_bottoms", "_law_most"] (R_l_vector K) := by
  obtain ⟨f, fd, F, hm⟩ := A.fn
  refine mk_def F hm (def_ok F sc_l_vector (fun ds st mu PP h => ?_) (by decide) fun cdv A outer s H E hr ds st mu PP h => ?_) fun _ _ _ _ _ _ us hl => match us, hl with | [_, _, _], _ => rfl
  · obtain ⟨a, c, bs, most, _, _, rfl, _⟩ := h
    rfl
  · obtain ⟨a, c, bs, most, hb, hm, rfl, rfl, rfl, rfl⟩ := h
    refine ⟨_, (pss_one (ps_ret (pe_lc (own := [("_law_bottom", 3)]) (by rfl) sc_l_vector.nd (k_seq (K := K) (by rfl) (pv 1)) (blkOk_by (by kernel_rfl)) (fun _ _ _ _ _ => (pg_name (i := 3) sc_l_vector.nd rfl (by first | exact Or.inl rfl | exact Or.inr rfl))) (fun _ _ _ _ _ => pts_nil) (fun _ _ _ _ _ => (pe_op op_fdivW (pe_op op_mulA (pe_op op_sub (pe_callD D_l_pick ⟨rfl, rfl, rfl, rfl, rfl⟩ (hr.mono (by decide)) (by rfl) (pa_cons (pv 0) (pa_cons (pe_op op_add (pe_op op_mulA pe_int (pv 2)) pe_int) pa_nil))) (pv 2)) pe_int) (pv 3)))))), ?_⟩
    (try dsimp only [cxOf, Cx.nox, Cx.wish])
    refine sj_ret (EV.imp (ev_lc (mu' := []) (it_seqP (mu' := []) (WP := fun n t => n = bs.length ∧ t = tSet 3 fun i => (bs.map nD)[i]?) false (ev_var rfl) (fun p hp => by cases hp) fun d e => ⟨bs.map nD, by rw [e]; exact seqB_l, by simp, rfl⟩) (fun p hp => by cases hp) (by simp) (fun n t h => by have := hb.1; omega) (fun n t i d => ∃ x, d = .int x ∧ ∀ b, bs[i]? = some b → Twelfth most b x) fun n t i h hi => ?_) fun d ⟨n, t, es, hw, e, hl, hp⟩ => ?_)
    · obtain ⟨hn, ht⟩ := h
      subst hn ht
      have q : bs[i]? = some bs[i] := List.getElem?_eq_getElem hi
      have hbi := hb.2 bs[i] (List.getElem_mem _)
      show EV K _ _ _ (List.set _ 3 ((bs.map nD)[i]?)) _
      rw [List.getElem?_map, q]
      generalize bs[i] = b at q hbi
      refine EV.imp (ev_opI (p := fun x => ∃ y : Int, -(most : Int) ≤ y ∧ y ≤ most ∧ x = y * 12) (q := fun x => Twelfth most b x) (ev_opI (p := fun x => -(most : Int) ≤ x ∧ x ≤ most) (ev_opI0 (EV.intP (m := 2 * most + 1) (ev_pick (ev_var rfl) (EV.is (ev_opd (ev_opd ev_c (ev_var rfl) (ro_I (mul_smallL (by decide) (by decide)))) ev_c ro_I0) (by simp [nD])) (by omega) (by omega))) (ev_var rfl) fun x hx => by omega) ev_c (fun x hx => mul_ok_small (by omega) (by omega)) fun x hx => ⟨x, hx.1, hx.2, rfl⟩) (ev_var rfl) (fun x hx => div_small (by omega) (by omega)) fun x ⟨y, h1, h2, e⟩ => by rw [e]; exact twelfth_div hbi.1 hbi.2 h1 h2) fun d ⟨x, e, hx⟩ => ⟨x, e, fun b' e' => by
        cases e'
        exact hx⟩
    · subst e
      obtain ⟨xs, e1, e2, e3⟩ := ints_all (p := fun i x => ∀ b, bs[i]? = some b → Twelfth most b x) hl hp
      subst e1
      exact ⟨xs, ⟨by rw [e2, hw.1], fun i x b hx hb => e3 i x hx b hb⟩, rfl⟩
theorem r_l_vector {a c : Addr} {bs : List Nat} {most : Nat} (h : BsOk bs) (hm : most ≤ 3) : R_l_vector K [.raw (.ref a), .lst (bs.map nD), nD most] (some (StV.draw a c)) [] (VecP most bs) := ⟨a, c, bs, most, h, hm, rfl, rfl, rfl, rfl⟩
end U
set_option maxHeartbeats 4000000
/-! G9: l_cell, l_row, l_square. -/
namespace U
open PySem PyProof.Rows L2 Evl RZ
local macro_rules | `(tactic| walk_at "u") => `(tactic| first
  | ((with_reducible apply ev_cT) <;> assumption)
  | with_reducible apply ev_c
  | ((with_reducible apply ev_var); rfl)
  | with_reducible apply ea_nil
  | ((with_reducible apply ea_cons) <;> (try walk_at "u"))
  | ((with_reducible apply ev_opd) <;> (try walk_at "u"))
  | with_reducible apply ro_I0
  | ((with_reducible apply ro_I) <;> (try walk_at "s"))
  | ((with_reducible apply ro_ix) <;> (try walk_at "s"))
  | ((with_reducible apply ro_eq); rfl)
  | ((with_reducible apply ro_ne); rfl)
  | ((with_reducible apply ev_un) <;> (try walk_at "u"))
  | ((with_reducible apply ev_tup) <;> (try walk_at "u"))
  | ((with_reducible apply ev_lst) <;> (try walk_at "u"))
  | ((with_reducible apply ev_cbd) <;> (try walk_at "u"))
  | ((with_reducible apply rc_len) <;> (try walk_at "s"))
  | with_reducible apply rc_abs
  | with_reducible apply rc_int
  | with_reducible apply rc_intb
  | ((with_reducible apply rc_list) <;> (try walk_at "s"))
  | ((with_reducible apply rc_tup) <;> (try walk_at "s"))
  | ((with_reducible apply rc_isi) <;> (try walk_at "s"))
  | ((with_reducible apply ev_call) <;> (try walk_at "u"))
  | ((with_reducible apply ev_and2) <;> (try walk_at "u"))
  | ((with_reducible apply ev_or2) <;> (try walk_at "u"))
  | ((with_reducible apply ev_notV) <;> (try walk_at "u"))
  | ((with_reducible apply ev_chain) <;> (try walk_at "u"))
  | ((with_reducible apply et_testd) <;> (try walk_at "u"))
  | ((with_reducible apply et_B) <;> (try walk_at "u"))
  | ((with_reducible apply et_and) <;> (try walk_at "u"))
  | ((with_reducible apply et_or) <;> (try walk_at "u"))
  | ((with_reducible apply et_not) <;> (try walk_at "u"))
  | ((with_reducible intro h_) <;> (try walk_at "u"))
  | exact len_ok rfl
  | decide)
local macro_rules | `(tactic| walk_at "s") => `(tactic| first
  | with_reducible assumption
  | exact SeqD.l
  | exact SeqD.t
  | exact seqB_l
  | exact seqB_t
  | with_reducible exact ok_encO _
  | with_reducible exact sh_encO _
  | with_reducible rfl
  | ((with_reducible refine Eq.trans ?_ rfl); rfl)
  | assumption
  | decide)
variable {P : Program} {w : World} {K : PySem.W.Frag} {mg : Str → Option Value} {base : Heap}
theorem list_all {α : Type} {enc : α → D} : ∀ {es : List D} {n : Nat} {p : Nat → α → Prop}, es.length = n → (∀ (i : Nat) (e : D), es[i]? = some e → ∃ x, e = enc x ∧ p i x) → ∃ xs : List α, es = xs.map enc ∧ xs.length = n ∧ ∀ (i : Nat) (x : α), xs[i]? = some x → p i x
  | [], n, p, hl, h => ⟨[], rfl, by simpa using hl, fun i x hx => by simp at hx⟩
  | e :: es, n, p, hl, h => by
    obtain ⟨x, e1, p1⟩ := h 0 e rfl
    obtain ⟨xs, e2, l2, p2⟩ := list_all (enc := enc) (es := es) (n := n - 1) (p := fun i => p (i + 1)) (by simp at hl; omega) fun i e' h' => h (i + 1) e' (by simpa using h')
    refine ⟨x :: xs, by rw [e1, e2]; rfl, by simp at hl ⊢; omega, fun i y hy => ?_⟩
    cases i with
    | zero =>
      have : x = y := by simpa using hy
      rw [← this]
      exact p1
    | succ i => exact p2 i y (by simpa using hy)
/-- [e for i in range(n)], the items told by p -/
theorem ev_lcrP {st : Stt} {mu : Mu} {Γ : G} {te : TE} {α : Type} {vs : List Nat} {j n : Nat} {tA : TA} (enc : α → D) (p : Nat → α → Prop) (h : EA K st mu tA Γ (Is [.int (n : Int)])) (hj : j ∈ vs) (hz : n ≤ 50000) (he : ∀ i, i < n → EV K st mu te ((wipeG Γ vs).set j (some (.int (i : Nat)))) (fun d => ∃ x, d = enc x ∧ p i x)) :
    EV K st mu (tLc (iRng1 tA) (gName j) tYes te vs) Γ (fun d => ∃ xs : List α, d = .lst (xs.map enc) ∧ xs.length = n ∧ ∀ (i : Nat) (x : α), xs[i]? = some x → p i x) :=
  (ev_lc (it_rng h) (fun p hp => by cases hp) (fun k hk => by rw [List.mem_singleton.mp hk]; exact hj) (fun n' t w => by rw [w.1]; exact hz) (fun _ _ i d => ∃ x, d = enc x ∧ p i x) fun n' t i w hi => by rw [w.2]; exact he i (by rw [← w.1]; exact hi)).imp fun d ⟨n', t, es, w, e, hl, hp⟩ => by
    obtain ⟨xs, e1, e2, e3⟩ := list_all (enc := enc) (p := p) hl hp
    exact ⟨xs, by rw [e, e1], by rw [e2, w.1], e3⟩
/-- [e for x in ys], the items told by p -/
theorem ev_lcsP {st : Stt} {mu : Mu} {Γ : G} {te tl : TE} {α β : Type} {vs : List Nat} {j : Nat} {d : D} (ys : List β) (encY : β → D) (enc : α → D) (p : Nat → α → Prop) (b : Bool) (h : EV K st mu tl Γ (Is d)) (hs : seqB [] b d (ys.map encY)) (hj : j ∈ vs) (hz : ys.length ≤ 50000)
    (he : ∀ (i : Nat) (y : β), ys[i]? = some y → EV K st mu te ((wipeG Γ vs).set j (some (encY y))) (fun d => ∃ x, d = enc x ∧ p i x)) :
    EV K st mu (tLc (iSeq K tl) (gName j) tYes te vs) Γ (fun d => ∃ xs : List α, d = .lst (xs.map enc) ∧ xs.length = ys.length ∧ ∀ (i : Nat) (x : α), xs[i]? = some x → p i x) :=
  (ev_lc (it_seq b h hs) (fun p hp => by cases hp) (fun k hk => by rw [List.mem_singleton.mp hk]; exact hj) (fun n' t w => by rw [w.1]; simpa using hz) (fun _ _ i d => ∃ x, d = enc x ∧ p i x) fun n' t i w hi => by
    rw [w.2]
    have hi' : i < ys.length := by rw [w.1] at hi; simpa using hi
    show EV K st mu te ((wipeG Γ vs).set j ((ys.map encY)[i]?)) _
    rw [List.getElem?_map, List.getElem?_eq_getElem hi']
    exact he i ys[i] (List.getElem?_eq_getElem hi')).imp fun d ⟨n', t, es, w, e, hl, hp⟩ => by
    obtain ⟨xs, e1, e2, e3⟩ := list_all (enc := enc) (p := p) hl hp
    exact ⟨xs, by rw [e, e1], by rw [e2, w.1]; simp, e3⟩
/-- a call whose promise is stronger than what is wanted -/
theorem ev_callW {st : Stt} {mu : Mu} {Γ : G} {P : D → Prop} {R : List D → Stt → Mu → (D → Prop) → Prop} {E : XK} {ta : TA} {PL : List D → Prop} (h : EA K st mu ta Γ PL) (hr : ∀ ds, PL ds → ∃ st' mu' P', (st' = none ∨ st' = st) ∧ (∀ p ∈ mu', p ∈ mu) ∧ R ds st' mu' P' ∧ ∀ d, P' d → P d) :
    EV K st mu (tCall (spG K R) [] E ta) Γ P := fun σ H0 H i s m n Q q =>
  h σ H0 H i s m n _ fun vs ds H1 H2 g1 s1 p rr => by
    obtain ⟨st', mu', P', hs, hm, hR, hk⟩ := hr ds p
    rw [List.append_nil]
    rcases hs with e | e
    · subst e
      exact ⟨H1, ds, none, mu', P', g1.i, trivial, ((m.gr g1).sub hm).none_, rr, hR, fun v d H3 H4 g2 _ p2 r2 => q v d H3 H4 (g1.trans g2.wide) (s1.gr g2) (hk d p2) r2⟩
    · subst e
      exact ⟨H1, ds, _, mu', P', g1.i, s1, (m.gr g1).sub hm, rr, hR, fun v d H3 H4 g2 s2 p2 r2 => q v d H3 H4 (g1.trans g2) s2 (hk d p2) r2⟩
/-! ### cells as they are drawn -/
abbrev Cl := Option (List Int)
def encCl : Cl → D
  | none => .non
  | some xs => .lst (xs.map zD)
def ClOk (nb : Nat) : Cl → Prop
  | none => True
  | some xs => xs.length = nb ∧ ∀ x ∈ xs, ∃ b, 1 ≤ b ∧ b ≤ 4 ∧ Twelfth 3 b x
def ClP (nb : Nat) : D → Prop := fun d => ∃ o, d = encCl o ∧ ClOk nb o
theorem VecOk.cl {most nb : Nat} {bs : List Nat} {xs : List Int} (hm : most ≤ 3) (hl : bs.length = nb) (hb : ∀ b ∈ bs, 1 ≤ b ∧ b ≤ 4) (h : VecOk most bs xs) : ClOk nb (some xs) := by
  refine ⟨by rw [h.1, hl], fun x hx => ?_⟩
  obtain ⟨i, hi⟩ := List.mem_iff_getElem?.mp hx
  have hlt : i < bs.length := by
    have := (List.getElem?_eq_some_iff.mp hi).1
    rw [h.1] at this
    exact this
  have hbi := hb bs[i] (List.getElem_mem _)
  obtain ⟨t, h1, h2, h3⟩ := h.2 i x bs[i] hi (List.getElem?_eq_getElem hlt)
  exact ⟨bs[i], hbi.1, hbi.2, t, by omega, by omega, h3⟩
abbrev encHs (hs : List (List Int)) : D := .lst (hs.map fun h => .lst (h.map zD))
structure HsOk (bs : List Nat) (hs : List (List Int)) (sh : List Int) : Prop where
  b : BsOk bs
  l : hs.length = 4
  h : ∀ h ∈ hs, VecOk 1 bs h
  s : VecOk 1 bs sh
def R_l_cell (K : PySem.W.Frag) : RT := fun ds st mu P => ∃ (a c : Addr) (bs : List Nat) (hs : List (List Int)) (sh : List Int) (i j : Nat), HsOk bs hs sh ∧ i < 4 ∧ j < 4 ∧ ds = [.raw (.ref a), .lst (bs.map nD), encHs hs, .lst (sh.map zD), nD i, nD j] ∧ st = some (StV.draw a c) ∧ mu = [] ∧ P = ClP bs.length
theorem at_z {xs : List Int} {k : Nat} (h : k < xs.length) : atI (xs.map zD) (k : Int) = some (zD (xs.getD k 0)) := by
  rw [atI_natE, List.getElem?_map]
  simp [List.getD, h]
theorem at_h {hs : List (List Int)} {k : Nat} (h : k < hs.length) : atI (hs.map fun h => D.lst (h.map zD)) (k : Int) = some (.lst ((hs.getD k []).map zD)) := by
  rw [atI_natE, List.getElem?_map]
  simp [List.getD, h]
theorem VecOk.at {most k : Nat} {bs : List Nat} {xs : List Int} (h : VecOk most bs xs) (hk : k < bs.length) : Twelfth most (bs.getD k 0) (xs.getD k 0) := by
  have hx : k < xs.length := by rw [h.1]; exact hk
  rw [show bs.getD k 0 = bs[k] by simp [List.getD, hk], show xs.getD k 0 = xs[k] by simp [List.getD, hx]]
  exact h.2 k _ _ (List.getElem?_eq_getElem hx) (List.getElem?_eq_getElem hk)
theorem HsOk.at {bs : List Nat} {hs : List (List Int)} {sh : List Int} (h : HsOk bs hs sh) {i : Nat} (hi : i < 4) : VecOk 1 bs (hs.getD i []) := by
  have hl : i < hs.length := by rw [h.l]; exact hi
  rw [show hs.getD i [] = hs[i] by simp [List.getD, hl]]
  exact h.h _ (List.getElem_mem _)
theorem d_l_cell (T : Tx K mg) (A : At K mg "_law_cell" s_l_cell) (D_l_pick : Def P w K mg base 1 "_law_pick" ["_law_state", "_law_many"] (R_l_pick K)) (D_l_vector : Def P w K mg base 2 "_law_vector" ["_law_state", "_law_bottoms", "_law_most"] (R_l_vector K)) : Def P w K mg base 3 "_law_cell" ["_law_state", "_law_bottoms", "_law_heights", "_law_shift", "_law_i", "_law_j"] (R_l_cell K) := by
  obtain ⟨f, fd, F, hm⟩ := A.fn
  refine mk_def F hm (def_ok F sc_l_cell (fun ds st mu PP h => ?_) (by decide) fun cdv A outer s H E hr ds st mu PP h => ?_) fun _ _ _ _ _ _ us hl => match us, hl with | [_, _, _, _, _, _], _ => rfl
  · obtain ⟨a, c, bs, hs, sh, i, j, _, _, _, rfl, _⟩ := h
    rfl
  · obtain ⟨a, c, bs, hs, sh, i, j, hh, hi, hj, rfl, rfl, rfl, rfl⟩ := h
    have hb3 := hh.b.1
    refine ⟨_, (pss_cons (ps_set (i := 6) sc_l_cell.nd rfl (Or.inl rfl) (pe_callD D_l_pick ⟨rfl, rfl, rfl, rfl, rfl⟩ (hr.mono (by decide)) (by rfl) (pa_cons (pv 0) (pa_cons pe_int pa_nil))))
        (pss_cons (ps_if (pt_cmpR op_lt (pv 6) pe_int (nomark _)) (pss_one (ps_ret pe_non)) pss_nil)
        (pss_cons (ps_if (pt_cmpR op_eq (pv 6) pe_int (nomark _)) (pss_one (ps_ret (pe_callD D_l_vector ⟨rfl, rfl, rfl, rfl, rfl⟩ (hr.mono (by decide)) (by rfl) (pa_cons (pv 0) (pa_cons (pe_lc (own := [("_law_bottom", 7)]) (by rfl) sc_l_cell.nd (k_seq (K := K) (by rfl) (pv 1)) (blkOk_by (by kernel_rfl)) (fun _ _ _ _ _ => (pg_name (i := 7) sc_l_cell.nd rfl (by first | exact Or.inl rfl | exact Or.inr rfl))) (fun _ _ _ _ _ => pts_nil) (fun _ _ _ _ _ => (pe_op op_add pe_int (pe_callD D_l_pick ⟨rfl, rfl, rfl, rfl, rfl⟩ (hr.mono (by decide)) (by rfl) (pa_cons (pv 0) (pa_cons pe_int pa_nil)))))) (pa_cons pe_int pa_nil)))))) pss_nil)
        (pss_one (ps_ret (pe_lc (own := [("_law_base", 8)]) (by rfl) sc_l_cell.nd (pi_range1 (by rfl) T.range (pa_cons (pe_callB (k_len (K := K) (by rfl)) (by rfl) T.len (by decide +kernel) (pa_cons (pv 1) pa_nil)) pa_nil)) (blkOk_by (by kernel_rfl)) (fun _ _ _ _ _ => (pg_name (i := 8) sc_l_cell.nd rfl (by first | exact Or.inl rfl | exact Or.inr rfl))) (fun _ _ _ _ _ => pts_nil) (fun _ _ _ _ _ => (pe_op op_add (pe_op op_sub (pe_ix (k_ix (K := K) (by rfl)) (pe_ix (k_ix (K := K) (by rfl)) (pv 2) (pv 4) (fun _ _ => rfl)) (pv 8) (fun _ _ => rfl)) (pe_ix (k_ix (K := K) (by rfl)) (pe_ix (k_ix (K := K) (by rfl)) (pv 2) (pv 5) (fun _ _ => rfl)) (pv 8) (fun _ _ => rfl))) (pe_ix (k_ix (K := K) (by rfl)) (pv 3) (pv 8) (fun _ _ => rfl)))))))))), ?_⟩
    (try dsimp only [cxOf, Cx.nox, Cx.wish])
    refine sj_seq (sj_set (ev_pick (m := 16) (ev_var rfl) ev_c (by decide) (by decide)) fun d hd => ?_)
    obtain ⟨k, hk, rfl⟩ := hd
    refine sj_seq (sj_if (PB := fun _ => True) (et_test (EV.imp (ev_opd (ev_var rfl) ev_c ro_I0) fun d e => ⟨_, e, trivial⟩)) (fun _ => ?_) fun _ => sj_next ?_)
    · exact sj_ret (EV.imp ev_c fun d e => ⟨none, e, trivial⟩)
    refine sj_seq (sj_if (PB := fun _ => True) (et_test (EV.imp (ev_opd (ev_var rfl) ev_c (ro_eq rfl)) fun d e => ⟨_, e, trivial⟩)) (fun _ => ?_) fun _ => sj_next ?_)
    · have hbs : ∀ (G0 : G), G0 = wipeG [some (.raw (.ref a)), some (.lst (bs.map nD)), some (encHs hs), some (.lst (sh.map zD)), some (nD i), some (nD j), some (nD k), none, none] [] → EV K (some (StV.draw a c)) [] (tLc (iSeq K (tVar 1)) (gName 7) tYes (tOp (rI0 fun i j => .int (i + j)) (tC (.int 1)) (tCall (spG K (R_l_pick K)) [] E0 (tCons (tVar 0) (tCons (tC (.int 4)) tNil)))) [7]) G0 (fun d => ∃ bs' : List Nat, d = .lst (bs'.map nD) ∧ bs'.length = bs.length ∧ ∀ (i : Nat) (x : Nat), bs'[i]? = some x → 1 ≤ x ∧ x ≤ 4) := fun G0 e => by
        subst e
        refine ev_lcsP bs nD nD (fun _ b => 1 ≤ b ∧ b ≤ 4) false (ev_var rfl) seqB_l (by simp) (by omega) fun i y hy => ?_
        refine EV.imp (ev_opI0r (p := fun x => 0 ≤ x ∧ x < 4) (q := fun x => 1 ≤ x ∧ x ≤ 4) ev_c (EV.intP (m := 4) (ev_pick (ev_var rfl) ev_c (by decide) (by decide))) fun x hx => by omega) fun d ⟨x, e, h1, h2⟩ => ⟨x.toNat, ?_, by omega, by omega⟩
        rw [e]
        show D.int x = D.int (x.toNat : Int)
        rw [Int.toNat_of_nonneg (by omega)]
      refine sj_ret (ev_callW (PL := fun l => ∃ bs' : List Nat, bs'.length = bs.length ∧ (∀ b ∈ bs', 1 ≤ b ∧ b ≤ 4) ∧ l = [.raw (.ref a), .lst (bs'.map nD), nD 3]) (ea_consP (PL := fun l => ∃ bs' : List Nat, bs'.length = bs.length ∧ (∀ b ∈ bs', 1 ≤ b ∧ b ≤ 4) ∧ l = [.lst (bs'.map nD), nD 3]) (ev_var rfl) (ea_consP (hbs _ rfl) (ea_cons ev_c ea_nil) fun d l hd hl => ?_) fun d l hd hl => ?_) fun l hl => ?_)
      · obtain ⟨xs, e1, e2, e3⟩ := hd
        refine ⟨xs, e2, fun x hx => ?_, by rw [e1, hl]; rfl⟩
        obtain ⟨i', hi'⟩ := List.mem_iff_getElem?.mp hx
        exact e3 i' x hi'
      · obtain ⟨xs, e1, e2, e3⟩ := hl
        exact ⟨xs, e1, e2, by rw [hd, e3]⟩
      · obtain ⟨bs', e1, e2, e3⟩ := hl
        refine ⟨some (StV.draw a c), [], VecP 3 bs', .inr rfl, (fun p hp => by cases hp), ?_, fun d ⟨xs, hv, e⟩ => ⟨some xs, e, hv.cl (by omega) e1 e2⟩⟩
        rw [e3]
        exact r_l_vector ⟨by omega, e2⟩ (by omega)
    · have v1 := hh.at hi
      have v2 := hh.at hj
      have v3 := hh.s
      refine sj_ret (EV.imp (ev_lcr (n := bs.length) (g := fun k => zD ((hs.getD i []).getD k 0 - (hs.getD j []).getD k 0 + sh.getD k 0)) (EA.isL (ea_cons (ev_cbd (ea_cons (ev_var rfl) ea_nil) (rc_len SeqD.l)) ea_nil) (by simp)) (by simp) (by omega) fun k hk => ?_) fun d e => ⟨some ((List.range bs.length).map fun k => (hs.getD i []).getD k 0 - (hs.getD j []).getD k 0 + sh.getD k 0), by rw [e]; simp [encCl, List.map_map], by simp, fun x hx => ?_⟩)
      · have l1 : k < (hs.getD i []).length := by rw [v1.1]; exact hk
        have l2 : k < (hs.getD j []).length := by rw [v2.1]; exact hk
        have l3 : k < sh.length := by rw [v3.1]; exact hk
        exact ev_opd (ev_opd (ev_opd (ev_opd (ev_var rfl) (ev_var rfl) (ro_ix SeqD.l (at_h (by rw [hh.l]; exact hi)))) (ev_var rfl) (ro_ix SeqD.l (at_z l1))) (ev_opd (ev_opd (ev_var rfl) (ev_var rfl) (ro_ix SeqD.l (at_h (by rw [hh.l]; exact hj)))) (ev_var rfl) (ro_ix SeqD.l (at_z l2))) ro_I0) (ev_opd (ev_var rfl) (ev_var rfl) (ro_ix SeqD.l (at_z l3))) ro_I0
      · obtain ⟨k, hk, e⟩ := List.mem_map.mp hx
        have hk := List.mem_range.mp hk
        obtain ⟨t1, a1, a2, a3⟩ := v1.at hk
        obtain ⟨t2, c1, c2, c3⟩ := v2.at hk
        obtain ⟨t3, d1, d2, d3⟩ := v3.at hk
        have hb := hh.b.2 (bs.getD k 0) (by rw [show bs.getD k 0 = bs[k] by simp [List.getD, hk]]; exact List.getElem_mem _)
        refine ⟨bs.getD k 0, hb.1, hb.2, t1 - t2 + t3, by omega, by omega, ?_⟩
        rw [← e, Int.add_mul, Int.sub_mul, a3, c3, d3]
        omega
theorem r_l_cell {a c : Addr} {bs : List Nat} {hs : List (List Int)} {sh : List Int} {i j : Nat} (h : HsOk bs hs sh) (hi : i < 4) (hj : j < 4) : R_l_cell K [.raw (.ref a), .lst (bs.map nD), encHs hs, .lst (sh.map zD), nD i, nD j] (some (StV.draw a c)) [] (ClP bs.length) := ⟨a, c, bs, hs, sh, i, j, h, hi, hj, rfl, rfl, rfl, rfl⟩
abbrev encCr (r : List Cl) : D := .lst (r.map encCl)
def R_l_row (K : PySem.W.Frag) : RT := fun ds st mu P => ∃ (a c : Addr) (bs : List Nat) (hs : List (List Int)) (sh : List Int) (i n : Nat), HsOk bs hs sh ∧ i < 4 ∧ n ≤ 4 ∧ ds = [.raw (.ref a), .lst (bs.map nD), encHs hs, .lst (sh.map zD), nD i, nD n] ∧ st = some (StV.draw a c) ∧ mu = [] ∧
  P = fun d => ∃ r : List Cl, d = encCr r ∧ r.length = n ∧ ∀ x ∈ r, ClOk bs.length x
theorem d_l_row (T : Tx K mg) (A : At K mg "_law_row" s_l_row) (D_l_cell : Def P w K mg base 3 "_law_cell" ["_law_state", "_law_bottoms", "_law_heights", "_law_shift", "_law_i", "_law_j"] (R_l_cell K)) : Def P w K mg base 4 "_law_row" ["_law_state", "_law_bottoms", "_law_heights", "_law_shift", "_law_i", "_law_columns"] (R_l_row K) := by
  obtain ⟨f, fd, F, hm⟩ := A.fn
  refine mk_def F hm (def_ok F sc_l_row (fun ds st mu PP h => ?_) (by decide) fun cdv A outer s H E hr ds st mu PP h => ?_) fun _ _ _ _ _ _ us hl => match us, hl with | [_, _, _, _, _, _], _ => rfl
  · obtain ⟨a, c, bs, hs, sh, i, n, _, _, _, rfl, _⟩ := h
    rfl
  · obtain ⟨a, c, bs, hs, sh, i, n, hh, hi, hn, rfl, rfl, rfl, rfl⟩ := h
    refine ⟨_, (pss_one (ps_ret (pe_lc (own := [("_law_j", 6)]) (by rfl) sc_l_row.nd (pi_range1 (by rfl) T.range (pa_cons (pv 5) pa_nil)) (blkOk_by (by kernel_rfl)) (fun _ _ _ _ _ => (pg_name (i := 6) sc_l_row.nd rfl (by first | exact Or.inl rfl | exact Or.inr rfl))) (fun _ _ _ _ _ => pts_nil) (fun _ _ _ _ _ => (pe_callD D_l_cell ⟨rfl, rfl, rfl, rfl, rfl⟩ (hr.mono (by decide)) (by rfl) (pa_cons (pv 0) (pa_cons (pv 1) (pa_cons (pv 2) (pa_cons (pv 3) (pa_cons (pv 4) (pa_cons (pv 6) pa_nil))))))))))), ?_⟩
    (try dsimp only [cxOf, Cx.nox, Cx.wish])
    refine sj_ret (EV.imp (ev_lcrP encCl (fun _ x => ClOk bs.length x) (ea_cons (ev_var rfl) ea_nil) (by simp) (by omega) fun j hj => ?_) fun d ⟨r, e1, e2, e3⟩ => ⟨r, e1, e2, fun x hx => ?_⟩)
    · exact ev_callS [] (ea_cons (ev_var rfl) (ea_cons (ev_var rfl) (ea_cons (ev_var rfl) (ea_cons (ev_var rfl) (ea_cons (ev_var rfl) (ea_cons (ev_var rfl) ea_nil)))))) (fun p hp => by cases hp) (r_l_cell hh hi (by omega))
    · obtain ⟨k, hk⟩ := List.mem_iff_getElem?.mp hx
      exact e3 k x hk
theorem r_l_row {a c : Addr} {bs : List Nat} {hs : List (List Int)} {sh : List Int} {i n : Nat} (h : HsOk bs hs sh) (hi : i < 4) (hn : n ≤ 4) : R_l_row K [.raw (.ref a), .lst (bs.map nD), encHs hs, .lst (sh.map zD), nD i, nD n] (some (StV.draw a c)) [] (fun d => ∃ r : List Cl, d = encCr r ∧ r.length = n ∧ ∀ x ∈ r, ClOk bs.length x) := ⟨a, c, bs, hs, sh, i, n, h, hi, hn, rfl, rfl, rfl, rfl⟩
/-- a square of cells -/
structure SqCl (nb n : Nat) (rows : List (List Cl)) : Prop where
  l : rows.length = n
  r : ∀ r ∈ rows, r.length = n
  c : ∀ r ∈ rows, ∀ x ∈ r, ClOk nb x
abbrev encCm (rows : List (List Cl)) : D := .lst (rows.map encCr)
def R_l_square (K : PySem.W.Frag) : RT := fun ds st mu P => ∃ (a c : Addr) (bs : List Nat) (n : Nat), BsOk bs ∧ n ≤ 4 ∧ ds = [.raw (.ref a), .lst (bs.map nD), nD n] ∧ st = some (StV.draw a c) ∧ mu = [] ∧ P = fun d => ∃ rows, d = encCm rows ∧ SqCl bs.length n rows
theorem zeros_ok {bs : List Nat} {most : Nat} : VecOk most bs (List.replicate bs.length 0) := ⟨by simp, fun i x b hx hb => by
  have := List.mem_of_getElem? hx
  rw [List.eq_of_mem_replicate this]
  exact ⟨0, by omega, by omega, by omega⟩⟩
theorem d_l_square (T : Tx K mg) (A : At K mg "_law_square" s_l_square) (D_l_vector : Def P w K mg base 2 "_law_vector" ["_law_state", "_law_bottoms", "_law_most"] (R_l_vector K)) (D_l_row : Def P w K mg base 4 "_law_row" ["_law_state", "_law_bottoms", "_law_heights", "_law_shift", "_law_i", "_law_columns"] (R_l_row K)) : Def P w K mg base 5 "_law_square" ["_law_state", "_law_bottoms", "_law_size"] (R_l_square K) := by
  obtain ⟨f, fd, F, hm⟩ := A.fn
  refine mk_def F hm (def_ok F sc_l_square (fun ds st mu PP h => ?_) (by decide) fun cdv A outer s H E hr ds st mu PP h => ?_) fun _ _ _ _ _ _ us hl => match us, hl with | [_, _, _], _ => rfl
  · obtain ⟨a, c, bs, n, _, _, rfl, _⟩ := h
    rfl
  · obtain ⟨a, c, bs, n, hb, hn, rfl, rfl, rfl, rfl⟩ := h
    have hb3 := hb.1
    refine ⟨_, (pss_cons (ps_set (i := 3) sc_l_square.nd rfl (Or.inr rfl) (pe_lc (own := [("_law_place", 4)]) (by rfl) sc_l_square.nd (pi_range1 (by rfl) T.range (pa_cons pe_int pa_nil)) (blkOk_by (by kernel_rfl)) (fun _ _ _ _ _ => (pg_name (i := 4) sc_l_square.nd rfl (by first | exact Or.inl rfl | exact Or.inr rfl))) (fun _ _ _ _ _ => pts_nil) (fun _ _ _ _ _ => (pe_callD D_l_vector ⟨rfl, rfl, rfl, rfl, rfl⟩ (hr.mono (by decide)) (by rfl) (pa_cons (pv 0) (pa_cons (pv 1) (pa_cons pe_int pa_nil)))))))
        (pss_one (ps_ret (pe_lc (own := [("_law_i", 5)]) (by rfl) sc_l_square.nd (pi_range1 (by rfl) T.range (pa_cons (pv 2) pa_nil)) (blkOk_by (by kernel_rfl)) (fun _ _ _ _ _ => (pg_name (i := 5) sc_l_square.nd rfl (by first | exact Or.inl rfl | exact Or.inr rfl))) (fun _ _ _ _ _ => pts_nil) (fun _ _ _ _ _ => (pe_callD D_l_row ⟨rfl, rfl, rfl, rfl, rfl⟩ (hr.mono (by decide)) (by rfl) (pa_cons (pv 0) (pa_cons (pv 1) (pa_cons (pv 3) (pa_cons (pe_op op_rep (pe_lst (pa_cons pe_int pa_nil)) (pe_callB (k_len (K := K) (by rfl)) (by rfl) T.len (by decide +kernel) (pa_cons (pv 1) pa_nil))) (pa_cons (pv 5) (pa_cons (pv 2) pa_nil)))))))))))), ?_⟩
    (try dsimp only [cxOf, Cx.nox, Cx.wish])
    refine sj_seq (sj_set (ev_lcrP (n := 4) (fun h : List Int => .lst (h.map zD)) (fun _ h => VecOk 1 bs h) (ea_cons ev_c ea_nil) (by simp) (by omega) fun j hj => ?_) fun d hd => ?_)
    · exact EV.imp (ev_callS [] (ea_cons (ev_var rfl) (ea_cons (ev_var rfl) (ea_cons ev_c ea_nil))) (fun p hp => by cases hp) (r_l_vector (most := 1) hb (by omega))) fun d ⟨xs, h1, h2⟩ => ⟨xs, h2, h1⟩
    obtain ⟨hs, rfl, hl, hv⟩ := hd
    have hh : HsOk bs hs (List.replicate bs.length 0) := ⟨hb, hl, fun h hm => by
      obtain ⟨k, hk⟩ := List.mem_iff_getElem?.mp hm
      exact hv k h hk, zeros_ok⟩
    refine sj_ret (EV.imp (ev_lcrP (n := n) encCr (fun _ r => r.length = n ∧ ∀ x ∈ r, ClOk bs.length x) (ea_cons (ev_var rfl) ea_nil) (by simp) (by omega) fun i hi => ?_) fun d ⟨rows, e1, e2, e3⟩ => ⟨rows, e1, e2, fun r hr => ?_, fun r hr => ?_⟩)
    · exact ev_callS [] (ea_cons (ev_var rfl) (ea_cons (ev_var rfl) (ea_cons (ev_var rfl) (ea_cons (EV.is (ev_opd (ev_lst (ea_cons ev_c ea_nil)) (ev_cbd (ea_cons (ev_var rfl) ea_nil) (rc_len SeqD.l)) (ro_rep (by simp; omega))) (by simp)) (ea_cons (ev_var rfl) (ea_cons (ev_var rfl) ea_nil)))))) (fun p hp => by cases hp) (r_l_row hh (by omega) hn)
    · obtain ⟨k, hk⟩ := List.mem_iff_getElem?.mp hr
      exact (e3 k r hk).1
    · obtain ⟨k, hk⟩ := List.mem_iff_getElem?.mp hr
      exact (e3 k r hk).2
theorem r_l_square {a c : Addr} {bs : List Nat} {n : Nat} (h : BsOk bs) (hn : n ≤ 4) : R_l_square K [.raw (.ref a), .lst (bs.map nD), nD n] (some (StV.draw a c)) [] (fun d => ∃ rows, d = encCm rows ∧ SqCl bs.length n rows) := ⟨a, c, bs, n, h, hn, rfl, rfl, rfl, rfl⟩
end U
set_option maxHeartbeats 4000000
/-! G10: slices; l_words, l_shape. -/
namespace U
open PySem PyProof.Rows L2 Evl RZ
local macro_rules | `(tactic| walk_at "u") => `(tactic| first
  | ((with_reducible apply ev_cT) <;> assumption)
  | with_reducible apply ev_c
  | ((with_reducible apply ev_var); rfl)
  | with_reducible apply ea_nil
  | ((with_reducible apply ea_cons) <;> (try walk_at "u"))
  | ((with_reducible apply ev_opd) <;> (try walk_at "u"))
  | with_reducible apply ro_I0
  | ((with_reducible apply ro_I) <;> (try walk_at "s"))
  | ((with_reducible apply ro_ix) <;> (try walk_at "s"))
  | ((with_reducible apply ro_eq); rfl)
  | ((with_reducible apply ro_ne); rfl)
  | ((with_reducible apply ev_un) <;> (try walk_at "u"))
  | ((with_reducible apply ev_tup) <;> (try walk_at "u"))
  | ((with_reducible apply ev_lst) <;> (try walk_at "u"))
  | ((with_reducible apply ev_cbd) <;> (try walk_at "u"))
  | ((with_reducible apply rc_len) <;> (try walk_at "s"))
  | with_reducible apply rc_abs
  | with_reducible apply rc_int
  | with_reducible apply rc_intb
  | ((with_reducible apply rc_list) <;> (try walk_at "s"))
  | ((with_reducible apply rc_tup) <;> (try walk_at "s"))
  | ((with_reducible apply rc_isi) <;> (try walk_at "s"))
  | ((with_reducible apply ev_call) <;> (try walk_at "u"))
  | ((with_reducible apply ev_and2) <;> (try walk_at "u"))
  | ((with_reducible apply ev_or2) <;> (try walk_at "u"))
  | ((with_reducible apply ev_notV) <;> (try walk_at "u"))
  | ((with_reducible apply ev_chain) <;> (try walk_at "u"))
  | ((with_reducible apply et_testd) <;> (try walk_at "u"))
  | ((with_reducible apply et_B) <;> (try walk_at "u"))
  | ((with_reducible apply et_and) <;> (try walk_at "u"))
  | ((with_reducible apply et_or) <;> (try walk_at "u"))
  | ((with_reducible apply et_not) <;> (try walk_at "u"))
  | ((with_reducible intro h_) <;> (try walk_at "u"))
  | exact len_ok rfl
  | decide)
local macro_rules | `(tactic| walk_at "s") => `(tactic| first
  | with_reducible assumption
  | exact SeqD.l
  | exact SeqD.t
  | exact seqB_l
  | exact seqB_t
  | with_reducible exact ok_encO _
  | with_reducible exact sh_encO _
  | with_reducible rfl
  | ((with_reducible refine Eq.trans ?_ rfl); rfl)
  | assumption
  | decide)
variable {P : Program} {w : World} {K : PySem.W.Frag} {mg : Str → Option Value} {base : Heap}
section
variable {st : Stt} {mu : Mu} {Γ : G} {te tl th : TE}
/-- t[k:] -/
theorem ev_sl1 {ds : List D} {k : Nat} (h : EV K st mu te Γ (Is (.tup ds))) (hl : EV K st mu tl Γ (Is (.int (k : Nat)))) (hk : 0 < k) (hn : 0 < ds.length) : EV K st mu (tSl (rSlT K) te (tPart tl) tNoPart) Γ (Is (.tup (ds.drop k))) := fun σ H0 H i s m n Q q =>
  h σ H0 H i s m n _ fun v d H1 H2 g1 s1 e r => hl σ H1 H2 g1.i s1 (m.gr g1) (n.mono g1.e0) _ fun v2 d2 H3 H4 g2 s2 e2 r2 => by
    subst e e2
    cases r2
    refine ⟨_, rfl, ?_⟩
    obtain ⟨a, vs, rfl, ha, ra⟩ := (r.mono g2.e0).tupI
    have hl := ra.length
    refine ⟨a, vs, rfl, ex_t g2.i ha, fun hw => ?_, fun p hp => ?_⟩
    · rw [HT.sIx_nat] at hw
      omega
    · have e3 : cutV vs (some (k : Int)) none = vs.drop k := by
        unfold cutV
        rw [HT.sIx_nat, HT.sIx_none]
        by_cases h3 : k ≤ vs.length
        · rw [Nat.min_eq_left h3, List.take_of_length_le (by simp)]
        · rw [Nat.min_eq_right (by omega), List.drop_of_length_le (Nat.le_refl _), List.drop_of_length_le (show vs.length ≤ k by omega)]
          simp
      rw [e3]
      have g := Gr.new (S := Sx st) g2.i (o := .tup (vs.drop k)) hp
      exact q _ _ _ _ ((g1.trans g2).trans g) (StOk.gr s2 (Gr.new g2.i hp)) rfl (.tup (SqT.of upd_same) ((ra.drop k).mono g.e0))
/-- t[1:m] -/
theorem ev_sl2 {ds : List D} {m : Nat} (h : EV K st mu te Γ (Is (.tup ds))) (hl : EV K st mu tl Γ (Is (.int (1 : Nat)))) (hh : EV K st mu th Γ (Is (.int (m : Nat)))) (hm : 1 ≤ m) (hm2 : m ≤ ds.length) (hn : 0 < ds.length) : EV K st mu (tSl (rSlT K) te (tPart tl) (tPart th)) Γ (Is (.tup ((ds.drop 1).take (m - 1)))) := fun σ H0 H i s mm n Q q =>
  h σ H0 H i s mm n _ fun v d H1 H2 g1 s1 e r => hl σ H1 H2 g1.i s1 (mm.gr g1) (n.mono g1.e0) _ fun v2 d2 H3 H4 g2 s2 e2 r2 => by
    subst e e2
    cases r2
    refine ⟨_, rfl, hh σ H3 H4 g2.i s2 ((mm.gr g1).gr g2) (n.mono (g1.e0.trans g2.e0)) _ fun v3 d3 H5 H6 g3 s3 e3 r3 => ?_⟩
    subst e3
    cases r3
    refine ⟨_, rfl, ?_⟩
    obtain ⟨a, vs, rfl, ha, ra⟩ := (r.mono (g2.e0.trans g3.e0)).tupI
    have hl := ra.length
    refine ⟨a, vs, rfl, ex_t g3.i ha, fun hw => ?_, fun p hp => ?_⟩
    · rw [HT.sIx_nat] at hw
      omega
    · have e3 : cutV vs (some ((1 : Nat) : Int)) (some (m : Int)) = (vs.drop 1).take (m - 1) := by
        unfold cutV
        rw [HT.sIx_nat, HT.sIx_nat, Nat.min_eq_left (by omega), Nat.min_eq_left (by omega)]
      rw [e3]
      have g := Gr.new (S := Sx st) g3.i (o := .tup ((vs.drop 1).take (m - 1))) hp
      exact q _ _ _ _ (((g1.trans g2).trans g3).trans g) (StOk.gr s3 (Gr.new g3.i hp)) rfl (.tup (SqT.of upd_same) (((ra.drop 1).take (m - 1)).mono g.e0))
end
/-! ### shapes of steps -/
def shapeOf (s : Stp) (sh : List Shp) : Option Shp := match s with
  | .turned a => some ((shp sh a).2, (shp sh a).1)
  | .star a => if (shp sh a).1 = (shp sh a).2 then some (shp sh a) else none
  | .piece _ _ _ r c => some (r, c)
  | .plus a b => if shp sh a = shp sh b then some (shp sh a) else none
  | .times a b => if (shp sh a).2 = (shp sh b).1 then some ((shp sh a).1, (shp sh b).2) else none
  | .beside a b => if (shp sh a).1 = (shp sh b).1 then some ((shp sh a).1, (shp sh a).2 + (shp sh b).2) else none
  | .above a b => if (shp sh a).2 = (shp sh b).2 then some ((shp sh a).1 + (shp sh b).1, (shp sh a).2) else none
def encSo : Option Shp → D
  | none => .non
  | some p => encSh p
def R_l_shape (K : PySem.W.Frag) : RT := fun ds st mu P => ∃ (s : Stp) (sh : List Shp) (l : Addr), (∀ a ∈ parts s, a < sh.length) ∧ ds = [encS s, .raw (.ref l)] ∧ st = none ∧ mu = [(l, sh.map encSh)] ∧ P = Is (encSo (shapeOf s sh))
theorem isW_of (s : Stp) (z : Str) : decide (V.str (wordS s) = V.str z) = isW z s := dec_word s z
theorem eqv_sh (p q : Shp) : PyData.eqv (py (encSh p)) (py (encSh q)) = decide (p = q) := by
  obtain ⟨a, b⟩ := p
  obtain ⟨c, d⟩ := q
  have h : PyData.eqv (.tuple [.int (a : Nat), .int (b : Nat)]) (.tuple [.int (c : Nat), .int (d : Nat)]) = (((a : Int) == c) && ((b : Int) == d)) := by
    simp [PyData.eqv, PyData.eqvAll]
  refine Eq.trans h ?_
  by_cases h1 : a = c
  · by_cases h2 : b = d
    · simp [h1, h2]
    · have : ¬ (b : Int) = d := by omega
      simp [h1, h2, this]
  · have : ¬ (a : Int) = c := by omega
    simp [h1, this]
local macro_rules | `(tactic| walk_at "s") => `(tactic| first | exact seqD_mk _ _ | exact SeqD.m (List.mem_cons_self ..) | (apply at_shp; assumption))
theorem d_l_shape (T : Tx K mg) (A : At K mg "_law_shape" s_l_shape)  : Def P w K mg base 1 "_law_shape" ["_law_step_here", "_law_shapes"] (R_l_shape K) := by
  obtain ⟨f, fd, F, hm⟩ := A.fn
  refine mk_def F hm (def_ok F sc_l_shape (fun ds st mu PP h => ?_) (by decide) fun cdv A outer s H E hr ds st mu PP h => ?_) fun _ _ _ _ _ _ us hl => match us, hl with | [_, _], _ => rfl
  · obtain ⟨s, sh, l, _, rfl, _⟩ := h
    rfl
  · obtain ⟨st, sh, l, hp, rfl, rfl, rfl, rfl⟩ := h
    refine ⟨_, (pss_cons (ps_asg (pe_ix (k_ix (K := K) (by rfl)) (pv 1) (pe_ix (k_ix (K := K) (by rfl)) (pv 0) pe_int (fun _ _ => rfl)) (fun _ _ => rfl)) (k_gtup (K := K) (n := 2) (by rfl) (by rfl) (pgs_cons (pg_name (i := 2) sc_l_shape.nd rfl (by first | exact Or.inl rfl | exact Or.inr rfl)) (pgs_cons (pg_name (i := 3) sc_l_shape.nd rfl (by first | exact Or.inl rfl | exact Or.inr rfl)) pgs_nil))))
        (pss_cons (ps_if (pt_cmpR op_eq (pe_ix (k_ix (K := K) (by rfl)) (pv 0) pe_int (fun _ _ => rfl)) pe_str (nomark _)) (pss_one (ps_ret (pe_tup (pa_cons (pv 3) (pa_cons (pv 2) pa_nil))))) pss_nil)
        (pss_cons (ps_if (pt_cmpR op_eq (pe_ix (k_ix (K := K) (by rfl)) (pv 0) pe_int (fun _ _ => rfl)) pe_str (nomark _)) (pss_one (ps_ret (pe_ifExp (pt_cmpR op_eq (pv 2) (pv 3) (nomark _)) (pe_tup (pa_cons (pv 2) (pa_cons (pv 3) pa_nil))) pe_non))) pss_nil)
        (pss_cons (ps_if (pt_cmpR op_eq (pe_ix (k_ix (K := K) (by rfl)) (pv 0) pe_int (fun _ _ => rfl)) pe_str (nomark _)) (pss_one (ps_ret (pe_slice (k_sl (K := K) (by rfl)) (pv 0) (po_some pe_int) po_none))) pss_nil)
        (pss_cons (ps_set (i := 4) sc_l_shape.nd rfl (Or.inl rfl) (pe_ix (k_ix (K := K) (by rfl)) (pv 1) (pe_ix (k_ix (K := K) (by rfl)) (pv 0) pe_int (fun _ _ => rfl)) (fun _ _ => rfl)))
        (pss_cons (ps_if (pt_cmpR op_eq (pe_ix (k_ix (K := K) (by rfl)) (pv 0) pe_int (fun _ _ => rfl)) pe_str (nomark _)) (pss_one (ps_ret (pe_ifExp (pt_cmpR (k_eqD (K := K) (by rfl) hr.units) (pe_tup (pa_cons (pv 2) (pa_cons (pv 3) pa_nil))) (pv 4) (nomark _)) (pe_tup (pa_cons (pv 2) (pa_cons (pv 3) pa_nil))) pe_non))) pss_nil)
        (pss_cons (ps_if (pt_cmpR op_eq (pe_ix (k_ix (K := K) (by rfl)) (pv 0) pe_int (fun _ _ => rfl)) pe_str (nomark _)) (pss_one (ps_ret (pe_ifExp (pt_cmpR op_eq (pv 3) (pe_ix (k_ix (K := K) (by rfl)) (pv 4) pe_int (fun _ _ => rfl)) (nomark _)) (pe_tup (pa_cons (pv 2) (pa_cons (pe_ix (k_ix (K := K) (by rfl)) (pv 4) pe_int (fun _ _ => rfl)) pa_nil))) pe_non))) pss_nil)
        (pss_cons (ps_if (pt_cmpR op_eq (pe_ix (k_ix (K := K) (by rfl)) (pv 0) pe_int (fun _ _ => rfl)) pe_str (nomark _)) (pss_one (ps_ret (pe_ifExp (pt_cmpR op_eq (pv 2) (pe_ix (k_ix (K := K) (by rfl)) (pv 4) pe_int (fun _ _ => rfl)) (nomark _)) (pe_tup (pa_cons (pv 2) (pa_cons (pe_op op_add (pv 3) (pe_ix (k_ix (K := K) (by rfl)) (pv 4) pe_int (fun _ _ => rfl))) pa_nil))) pe_non))) pss_nil)
        (pss_one (ps_ret (pe_ifExp (pt_cmpR op_eq (pv 3) (pe_ix (k_ix (K := K) (by rfl)) (pv 4) pe_int (fun _ _ => rfl)) (nomark _)) (pe_tup (pa_cons (pe_op op_add (pv 2) (pe_ix (k_ix (K := K) (by rfl)) (pv 4) pe_int (fun _ _ => rfl))) (pa_cons (pv 3) pa_nil))) pe_non))))))))))), ?_⟩
    (try dsimp only [cxOf, Cx.nox, Cx.wish])
    have no : ∀ {c : Cn} {G0 : G} {tt : TT} {t : TS} {NX : G → Mu → Prop}, ET c.K c.st (c.bor ++ []) tt G0 (Is false) → NX G0 [] → SJ c (tIfS tt t tNext) G0 [] NX := fun h k => sj_ifd (b := false) h (fun e => by cases e) fun _ => sj_next k
    cases st with
    | turned a =>
      have ha : a < sh.length := hp a (by simp [parts])
      refine sj_seq (sj_un2 (EV.imp (P := Is (encSh (shp sh a))) (by walk_at "u") fun d e => ⟨_, _, e, ?_⟩))
      refine sj_seq (sj_ifd (b := true) (ET.is (by walk_at "u") (by decide +kernel)) (fun _ => sj_ret (EV.is (by walk_at "u") ?_)) fun e => by cases e)
      rfl
    | star a =>
      have ha : a < sh.length := hp a (by simp [parts])
      refine sj_seq (sj_un2 (EV.imp (P := Is (encSh (shp sh a))) (by walk_at "u") fun d e => ⟨_, _, e, ?_⟩))
      refine sj_seq (no (ET.is (by walk_at "u") (by decide +kernel)) ?_)
      refine sj_seq (sj_ifd (b := true) (ET.is (by walk_at "u") (by decide +kernel)) (fun _ => sj_ret (ev_if (b := decide ((shp sh a).1 = (shp sh a).2)) (ET.is (by walk_at "u") (by rw [int_eq])) (fun e => ?_) fun e => ?_)) fun e => by cases e)
      · have e' := of_decide_eq_true e
        refine EV.is (by walk_at "u") ?_
        simp only [shapeOf, e', if_true, encSo, encSh]
      · have e' := of_decide_eq_false e
        refine EV.is (by walk_at "u") ?_
        simp only [shapeOf, e', if_false, encSo]
    | piece a i j r c =>
      have ha : a < sh.length := hp a (by simp [parts])
      refine sj_seq (sj_un2 (EV.imp (P := Is (encSh (shp sh a))) (by walk_at "u") fun d e => ⟨_, _, e, ?_⟩))
      refine sj_seq (no (ET.is (by walk_at "u") (by decide +kernel)) ?_)
      refine sj_seq (no (ET.is (by walk_at "u") (by decide +kernel)) ?_)
      refine sj_seq (sj_ifd (b := true) (ET.is (by walk_at "u") (by decide +kernel)) (fun _ => sj_ret (EV.is (ev_sl1 (k := 4) (ev_var rfl) ev_c (by decide) (by simp)) rfl)) fun e => by cases e)
    | plus a b =>
      have ha : a < sh.length := hp a (by simp [parts])
      have hb : b < sh.length := hp b (by simp [parts])
      refine sj_seq (sj_un2 (EV.imp (P := Is (encSh (shp sh a))) (by walk_at "u") fun d e => ⟨_, _, e, ?_⟩))
      refine sj_seq (no (ET.is (by walk_at "u") (by decide +kernel)) ?_)
      refine sj_seq (no (ET.is (by walk_at "u") (by decide +kernel)) ?_)
      refine sj_seq (no (ET.is (by walk_at "u") (by decide +kernel)) ?_)
      refine sj_seq (sj_setd (d := encSh (shp sh b)) (by walk_at "u") ?_)
      refine sj_seq (sj_ifd (b := true) (ET.is (by walk_at "u") (by decide +kernel)) (fun _ => sj_ret (ev_if (b := decide (shp sh a = shp sh b)) (et_testd (ev_opd (ev_tup (ea_cons (ev_var rfl) (ea_cons (ev_var rfl) ea_nil)) (len_ok rfl)) (ev_var rfl) (ro_eqD (x := encSh (shp sh a)) (y := encSh (shp sh b)) rfl rfl rfl rfl (eqv_sh _ _)))) (fun e => ?_) fun e => ?_)) fun e => by cases e)
      · have e' := of_decide_eq_true e
        refine EV.is (by walk_at "u") ?_
        simp only [shapeOf, if_pos e', encSo]
        rfl
      · have e' := of_decide_eq_false e
        refine EV.is (by walk_at "u") ?_
        simp only [shapeOf, if_neg e', encSo]
    | times a b =>
      have ha : a < sh.length := hp a (by simp [parts])
      have hb : b < sh.length := hp b (by simp [parts])
      refine sj_seq (sj_un2 (EV.imp (P := Is (encSh (shp sh a))) (by walk_at "u") fun d e => ⟨_, _, e, ?_⟩))
      refine sj_seq (no (ET.is (by walk_at "u") (by decide +kernel)) ?_)
      refine sj_seq (no (ET.is (by walk_at "u") (by decide +kernel)) ?_)
      refine sj_seq (no (ET.is (by walk_at "u") (by decide +kernel)) ?_)
      refine sj_seq (sj_setd (d := encSh (shp sh b)) (by walk_at "u") ?_)
      refine sj_seq (no (ET.is (by walk_at "u") (by decide +kernel)) ?_)
      refine sj_seq (sj_ifd (b := true) (ET.is (by walk_at "u") (by decide +kernel)) (fun _ => sj_ret (ev_if (b := decide ((shp sh a).2 = (shp sh b).1)) (ET.is (by walk_at "u") (by rw [int_eq])) (fun e => ?_) fun e => ?_)) fun e => by cases e)
      · have e' := of_decide_eq_true e
        refine EV.is (by walk_at "u") ?_
        simp only [shapeOf, if_pos e', encSo]
        rfl
      · have e' := of_decide_eq_false e
        refine EV.is (by walk_at "u") ?_
        simp only [shapeOf, if_neg e', encSo]
    | beside a b =>
      have ha : a < sh.length := hp a (by simp [parts])
      have hb : b < sh.length := hp b (by simp [parts])
      refine sj_seq (sj_un2 (EV.imp (P := Is (encSh (shp sh a))) (by walk_at "u") fun d e => ⟨_, _, e, ?_⟩))
      refine sj_seq (no (ET.is (by walk_at "u") (by decide +kernel)) ?_)
      refine sj_seq (no (ET.is (by walk_at "u") (by decide +kernel)) ?_)
      refine sj_seq (no (ET.is (by walk_at "u") (by decide +kernel)) ?_)
      refine sj_seq (sj_setd (d := encSh (shp sh b)) (by walk_at "u") ?_)
      refine sj_seq (no (ET.is (by walk_at "u") (by decide +kernel)) ?_)
      refine sj_seq (no (ET.is (by walk_at "u") (by decide +kernel)) ?_)
      refine sj_seq (sj_ifd (b := true) (ET.is (by walk_at "u") (by decide +kernel)) (fun _ => sj_ret (ev_if (b := decide ((shp sh a).1 = (shp sh b).1)) (ET.is (by walk_at "u") (by rw [int_eq])) (fun e => ?_) fun e => ?_)) fun e => by cases e)
      · have e' := of_decide_eq_true e
        refine EV.is (by walk_at "u") ?_
        simp only [shapeOf, if_pos e', encSo]
        rfl
      · have e' := of_decide_eq_false e
        refine EV.is (by walk_at "u") ?_
        simp only [shapeOf, if_neg e', encSo]
    | above a b =>
      have ha : a < sh.length := hp a (by simp [parts])
      have hb : b < sh.length := hp b (by simp [parts])
      refine sj_seq (sj_un2 (EV.imp (P := Is (encSh (shp sh a))) (by walk_at "u") fun d e => ⟨_, _, e, ?_⟩))
      refine sj_seq (no (ET.is (by walk_at "u") (by decide +kernel)) ?_)
      refine sj_seq (no (ET.is (by walk_at "u") (by decide +kernel)) ?_)
      refine sj_seq (no (ET.is (by walk_at "u") (by decide +kernel)) ?_)
      refine sj_seq (sj_setd (d := encSh (shp sh b)) (by walk_at "u") ?_)
      refine sj_seq (no (ET.is (by walk_at "u") (by decide +kernel)) ?_)
      refine sj_seq (no (ET.is (by walk_at "u") (by decide +kernel)) ?_)
      refine sj_seq (no (ET.is (by walk_at "u") (by decide +kernel)) ?_)
      refine sj_ret (ev_if (b := decide ((shp sh a).2 = (shp sh b).2)) (ET.is (by walk_at "u") (by rw [int_eq])) (fun e => ?_) fun e => ?_)
      · have e' := of_decide_eq_true e
        refine EV.is (by walk_at "u") ?_
        simp only [shapeOf, if_pos e', encSo]
        rfl
      · have e' := of_decide_eq_false e
        refine EV.is (by walk_at "u") ?_
        simp only [shapeOf, if_neg e', encSo]
theorem r_l_shape {s : Stp} {sh : List Shp} {l : Addr} (h : ∀ a ∈ parts s, a < sh.length) : R_l_shape K [encS s, .raw (.ref l)] none [(l, sh.map encSh)] (Is (encSo (shapeOf s sh))) := ⟨s, sh, l, h, rfl, rfl, rfl, rfl⟩
end U
set_option maxHeartbeats 4000000
/-! G11: l_words, l_step. -/
namespace U
open PySem PyProof.Rows L2 Evl RZ
local macro_rules | `(tactic| walk_at "u") => `(tactic| first
  | ((with_reducible apply ev_cT) <;> assumption)
  | with_reducible apply ev_c
  | ((with_reducible apply ev_var); rfl)
  | with_reducible apply ea_nil
  | ((with_reducible apply ea_cons) <;> (try walk_at "u"))
  | ((with_reducible apply ev_opd) <;> (try walk_at "u"))
  | with_reducible apply ro_I0
  | ((with_reducible apply ro_I) <;> (try walk_at "s"))
  | ((with_reducible apply ro_ix) <;> (try walk_at "s"))
  | ((with_reducible apply ro_eq); rfl)
  | ((with_reducible apply ro_ne); rfl)
  | ((with_reducible apply ev_un) <;> (try walk_at "u"))
  | ((with_reducible apply ev_tup) <;> (try walk_at "u"))
  | ((with_reducible apply ev_lst) <;> (try walk_at "u"))
  | ((with_reducible apply ev_cbd) <;> (try walk_at "u"))
  | ((with_reducible apply rc_len) <;> (try walk_at "s"))
  | with_reducible apply rc_abs
  | with_reducible apply rc_int
  | with_reducible apply rc_intb
  | ((with_reducible apply rc_list) <;> (try walk_at "s"))
  | ((with_reducible apply rc_tup) <;> (try walk_at "s"))
  | ((with_reducible apply rc_isi) <;> (try walk_at "s"))
  | ((with_reducible apply ev_call) <;> (try walk_at "u"))
  | ((with_reducible apply ev_and2) <;> (try walk_at "u"))
  | ((with_reducible apply ev_or2) <;> (try walk_at "u"))
  | ((with_reducible apply ev_notV) <;> (try walk_at "u"))
  | ((with_reducible apply ev_chain) <;> (try walk_at "u"))
  | ((with_reducible apply et_testd) <;> (try walk_at "u"))
  | ((with_reducible apply et_B) <;> (try walk_at "u"))
  | ((with_reducible apply et_and) <;> (try walk_at "u"))
  | ((with_reducible apply et_or) <;> (try walk_at "u"))
  | ((with_reducible apply et_not) <;> (try walk_at "u"))
  | ((with_reducible intro h_) <;> (try walk_at "u"))
  | exact len_ok rfl
  | decide)
local macro_rules | `(tactic| walk_at "s") => `(tactic| first
  | with_reducible assumption
  | exact SeqD.l
  | exact SeqD.t
  | exact seqB_l
  | exact seqB_t
  | with_reducible exact ok_encO _
  | with_reducible exact sh_encO _
  | with_reducible rfl
  | ((with_reducible refine Eq.trans ?_ rfl); rfl)
  | assumption
  | decide)
variable {P : Program} {w : World} {K : PySem.W.Frag} {mg : Str → Option Value} {base : Heap}
theorem ea_consD {st : Stt} {mu : Mu} {Γ : G} {te : TE} {tr : TA} {d : D} {PL : List D → Prop} (h : EV K st mu te Γ (Is d)) (hr : EA K st mu tr Γ PL) : EA K st mu (tCons te tr) Γ (fun l => ∃ l', PL l' ∧ l = d :: l') := ea_consP h hr fun d' l e hl => ⟨l, hl, by rw [e]⟩
def menuL : List Str := ["times", "plus", "times", "turned", "beside", "above", "piece", "plus"]
/-- l[pick], an item of which p holds -/
theorem ev_ixP {st : Stt} {mu : Mu} {Γ : G} {ta tb : TE} {α : Type} {enc : α → D} {d : D} {xs : List α} {m : Nat} (ha : EV K st mu ta Γ (Is d)) (hs : SeqD mu d (xs.map enc)) (hb : EV K st mu tb Γ (Pk m)) (hm : m ≤ xs.length) : EV K st mu (tOp (rIx K) ta tb) Γ (fun d => ∃ x ∈ xs, d = enc x) :=
  ev_op ha hb fun x y ex ⟨k, hk, ey⟩ => by
    subst ex ey
    have hl : k < xs.length := by omega
    intro H0 H vx vy i s mm rx ry Q qq
    refine ro_ix (e := enc xs[k]) hs (by rw [atI_natE, List.getElem?_map, List.getElem?_eq_getElem hl]; rfl) H0 H vx vy i s mm rx ry Q fun v d H1 H' g s' e r => qq v d H1 H' g s' ⟨xs[k], List.getElem_mem _, e⟩ r
def R_l_words (K : PySem.W.Frag) : RT := fun ds st mu P => ∃ (a c : Addr) (m : Nat), m ≤ 10 ∧ ds = [.raw (.ref a), nD m] ∧ st = some (StV.draw a c) ∧ mu = [] ∧ P = fun d => ∃ ws : List Str, d = .lst (ws.map D.str) ∧ ws.length ≤ m ∧ ∀ x ∈ ws, x ∈ menuL
theorem d_l_words (T : Tx K mg) (A : At K mg "_law_words" s_l_words) (D_l_pick : Def P w K mg base 1 "_law_pick" ["_law_state", "_law_many"] (R_l_pick K)) : Def P w K mg base 2 "_law_words" ["_law_state", "_law_many"] (R_l_words K) := by
  obtain ⟨f, fd, F, hm⟩ := A.fn
  refine mk_def F hm (def_ok F sc_l_words (fun ds st mu PP h => ?_) (by decide) fun cdv A outer s H E hr ds st mu PP h => ?_) fun _ _ _ _ _ _ us hl => match us, hl with | [_, _], _ => rfl
  · obtain ⟨a, c, m, _, rfl, _⟩ := h
    rfl
  · obtain ⟨a, c, m, hm, rfl, rfl, rfl, rfl⟩ := h
    refine ⟨_, (pss_cons (ps_set (i := 2) sc_l_words.nd rfl (Or.inr rfl) (pe_lst (pa_cons pe_str (pa_cons pe_str (pa_cons pe_str (pa_cons pe_str (pa_cons pe_str (pa_cons pe_str (pa_cons pe_str (pa_cons pe_str pa_nil))))))))))
        (pss_one (ps_ret (pe_lc (own := [("_law_time", 3)]) (by rfl) sc_l_words.nd (pi_range1 (by rfl) T.range (pa_cons (pe_callD D_l_pick ⟨rfl, rfl, rfl, rfl, rfl⟩ (hr.mono (by decide)) (by rfl) (pa_cons (pv 0) (pa_cons (pe_op op_add (pv 1) pe_int) pa_nil))) pa_nil)) (blkOk_by (by kernel_rfl)) (fun _ _ _ _ _ => (pg_name (i := 3) sc_l_words.nd rfl (by first | exact Or.inl rfl | exact Or.inr rfl))) (fun _ _ _ _ _ => pts_nil) (fun _ _ _ _ _ => (pe_ix (k_ix (K := K) (by rfl)) (pv 2) (pe_callD D_l_pick ⟨rfl, rfl, rfl, rfl, rfl⟩ (hr.mono (by decide)) (by rfl) (pa_cons (pv 0) (pa_cons pe_int pa_nil))) (fun _ _ => rfl))))))), ?_⟩
    (try dsimp only [cxOf, Cx.nox, Cx.wish])
    refine sj_seq (sj_setd (d := .lst (menuL.map D.str)) (EV.is (ev_lst (ea_cons ev_c (ea_cons ev_c (ea_cons ev_c (ea_cons ev_c (ea_cons ev_c (ea_cons ev_c (ea_cons ev_c (ea_cons ev_c ea_nil))))))))) rfl) ?_)
    refine sj_ret (EV.imp (ev_lc (mu' := []) (it_rngP (WP := fun n t => n ≤ m ∧ t = tSet 3 fun i => some (.int (i : Nat))) (ea_consP (ev_pick (m := m + 1) (ev_var rfl) (EV.is (ev_opd (ev_var rfl) ev_c ro_I0) (by simp [nD])) (by omega) (by omega)) ea_nil fun d l ⟨k, hk, e⟩ el => ⟨k, by rw [e, el], by omega, by omega, rfl⟩)) (fun p hp => by cases hp) (by simp) (fun n t h => by omega) (fun n t i d => ∃ x ∈ menuL, d = D.str x) fun n t i h hi => ?_) fun d ⟨n, t, es, hw, e, hl, hp⟩ => ?_)
    · obtain ⟨hn, ht⟩ := h
      subst ht
      exact ev_ixP (m := 8) (ev_var rfl) SeqD.l (ev_pick (ev_var rfl) ev_c (by decide) (by decide)) (by decide)
    · obtain ⟨ws, e1, e2, e3⟩ := list_all (enc := D.str) (p := fun _ x => x ∈ menuL) hl fun i e h => by
        obtain ⟨x, hx, e⟩ := hp i e h
        exact ⟨x, e, hx⟩
      refine ⟨ws, by rw [e, e1], by rw [e2]; exact hw.1, fun x hx => ?_⟩
      obtain ⟨k, hk⟩ := List.mem_iff_getElem?.mp hx
      exact e3 k x hk
/-! ### a step drawn -/
def ShsOk (sh : List Shp) : Prop := 0 < sh.length ∧ sh.length ≤ 20 ∧ ∀ p ∈ sh, 1 ≤ p.1 ∧ p.1 ≤ 4 ∧ 1 ≤ p.2 ∧ p.2 ≤ 4
def isStarS : Stp → Bool
  | .star _ => true
  | _ => false
def fitS (s : Stp) (sh : List Shp) : Prop := match s with
  | .piece a i j r c => 1 ≤ r ∧ 1 ≤ c ∧ i + r ≤ (shp sh a).1 ∧ j + c ≤ (shp sh a).2
  | _ => True
structure NewOk (s : Stp) (sh : List Shp) : Prop where
  p : ∀ a ∈ parts s, a < sh.length
  n : isStarS s = false
  f : fitS s sh
  m : ∃ q, shapeOf s sh = some q ∧ 1 ≤ q.1 ∧ q.1 ≤ 4 ∧ 1 ≤ q.2 ∧ q.2 ≤ 4
theorem ShsOk.at {sh : List Shp} (h : ShsOk sh) {a : Nat} (ha : a < sh.length) : 1 ≤ (shp sh a).1 ∧ (shp sh a).1 ≤ 4 ∧ 1 ≤ (shp sh a).2 ∧ (shp sh a).2 ≤ 4 := by
  rw [show shp sh a = sh[a] by simp [shp, List.getD, ha]]
  exact h.2.2 _ (List.getElem_mem _)
theorem menu_cases {x : Str} (h : x ∈ menuL) : x = "piece" ∨ x = "turned" ∨ ∃ mk : Nat → Nat → Stp, (∀ i j, encS (mk i j) = .tup [.str x, nD i, nD j]) ∧ (∀ i j, parts (mk i j) = [i, j]) ∧ (∀ i j, isStarS (mk i j) = false) ∧ (∀ i j sh, fitS (mk i j) sh) ∧
    (∀ i j sh q, ShsOk sh → i < sh.length → j < sh.length → shapeOf (mk i j) sh = some q → 1 ≤ q.1 ∧ 1 ≤ q.2) ∧ decide (V.str x = V.str "piece") = false ∧ decide (V.str x = V.str "turned") = false ∧ decide (V.str x = V.str "star") = false := by
  have hp : x = "times" ∨ x = "plus" ∨ x = "turned" ∨ x = "beside" ∨ x = "above" ∨ x = "piece" := by
    simp only [menuL, List.mem_cons, List.not_mem_nil, or_false] at h
    rcases h with e | e | e | e | e | e | e | e
    · exact .inl e
    · exact .inr (.inl e)
    · exact .inl e
    · exact .inr (.inr (.inl e))
    · exact .inr (.inr (.inr (.inl e)))
    · exact .inr (.inr (.inr (.inr (.inl e))))
    · exact .inr (.inr (.inr (.inr (.inr e))))
    · exact .inr (.inl e)
  rcases hp with e | e | e | e | e | e
  · refine .inr (.inr ⟨.times, fun _ _ => by rw [e]; rfl, fun _ _ => rfl, fun _ _ => rfl, fun _ _ _ => trivial, fun i j sh q h hi hj hq => ?_, by rw [e]; decide +kernel, by rw [e]; decide +kernel, by rw [e]; decide +kernel⟩)
    have h1 := h.at hi
    have h2 := h.at hj
    simp only [shapeOf] at hq
    split at hq
    · cases hq
      exact ⟨h1.1, h2.2.2.1⟩
    · cases hq
  · refine .inr (.inr ⟨.plus, fun _ _ => by rw [e]; rfl, fun _ _ => rfl, fun _ _ => rfl, fun _ _ _ => trivial, fun i j sh q h hi hj hq => ?_, by rw [e]; decide +kernel, by rw [e]; decide +kernel, by rw [e]; decide +kernel⟩)
    have h1 := h.at hi
    simp only [shapeOf] at hq
    split at hq
    · cases hq
      exact ⟨h1.1, h1.2.2.1⟩
    · cases hq
  · exact .inr (.inl e)
  · refine .inr (.inr ⟨.beside, fun _ _ => by rw [e]; rfl, fun _ _ => rfl, fun _ _ => rfl, fun _ _ _ => trivial, fun i j sh q h hi hj hq => ?_, by rw [e]; decide +kernel, by rw [e]; decide +kernel, by rw [e]; decide +kernel⟩)
    have h1 := h.at hi
    simp only [shapeOf] at hq
    split at hq
    · cases hq
      exact ⟨h1.1, by simp only; omega⟩
    · cases hq
  · refine .inr (.inr ⟨.above, fun _ _ => by rw [e]; rfl, fun _ _ => rfl, fun _ _ => rfl, fun _ _ _ => trivial, fun i j sh q h hi hj hq => ?_, by rw [e]; decide +kernel, by rw [e]; decide +kernel, by rw [e]; decide +kernel⟩)
    have h1 := h.at hi
    simp only [shapeOf] at hq
    split at hq
    · cases hq
      exact ⟨by simp only; omega, h1.2.2.1⟩
    · cases hq
  · exact .inl e
theorem turned_new {sh : List Shp} (h : ShsOk sh) {a : Nat} (ha : a < sh.length) : NewOk (.turned a) sh := ⟨fun b hb => by rw [List.mem_singleton.mp hb]; exact ha, rfl, trivial, _, rfl, by
  have h1 := h.at ha
  exact ⟨h1.2.2.1, h1.2.2.2, h1.1, h1.2.1⟩⟩
def NewP (sh : List Shp) : D → Prop := fun d => ∃ s, d = encS s ∧ NewOk s sh
def R_l_step (K : PySem.W.Frag) : RT := fun ds st mu P => ∃ (a c : Addr) (x : Str) (sh : List Shp) (l : Addr), x ∈ menuL ∧ ShsOk sh ∧ ds = [.raw (.ref a), .str x, .raw (.ref l)] ∧ st = some (StV.draw a c) ∧ mu = [(l, sh.map encSh)] ∧ P = NewP sh
theorem d_l_step (T : Tx K mg) (A : At K mg "_law_step" s_l_step) (D_l_pick : Def P w K mg base 1 "_law_pick" ["_law_state", "_law_many"] (R_l_pick K)) (D_l_shape : Def P w K mg base 1 "_law_shape" ["_law_step_here", "_law_shapes"] (R_l_shape K)) : Def P w K mg base 2 "_law_step" ["_law_state", "_law_word", "_law_shapes"] (R_l_step K) := by
  obtain ⟨f, fd, F, hm⟩ := A.fn
  refine mk_def F hm (def_ok F sc_l_step (fun ds st mu PP h => ?_) (by decide) fun cdv A outer s H E hr ds st mu PP h => ?_) fun _ _ _ _ _ _ us hl => match us, hl with | [_, _, _], _ => rfl
  · obtain ⟨a, c, x, sh, l, _, _, rfl, _⟩ := h
    rfl
  · obtain ⟨a, c, x, sh, l, hx, hsh, rfl, rfl, rfl, rfl⟩ := h
    have h0 := hsh.1
    have h20 := hsh.2.1
    refine ⟨_, (pss_cons (ps_set (i := 3) sc_l_step.nd rfl (Or.inl rfl) (pe_callD D_l_pick ⟨rfl, rfl, rfl, rfl, rfl⟩ (hr.mono (by decide)) (by rfl) (pa_cons (pv 0) (pa_cons (pe_callB (k_len (K := K) (by rfl)) (by rfl) T.len (by decide +kernel) (pa_cons (pv 2) pa_nil)) pa_nil))))
        (pss_cons (ps_asg (pe_ix (k_ix (K := K) (by rfl)) (pv 2) (pv 3) (fun _ _ => rfl)) (k_gtup (K := K) (n := 2) (by rfl) (by rfl) (pgs_cons (pg_name (i := 4) sc_l_step.nd rfl (by first | exact Or.inl rfl | exact Or.inr rfl)) (pgs_cons (pg_name (i := 5) sc_l_step.nd rfl (by first | exact Or.inl rfl | exact Or.inr rfl)) pgs_nil))))
        (pss_cons (ps_if (pt_cmpR op_eq (pv 1) pe_str (nomark _)) (pss_cons (ps_par (i := 6) (j := 7) (by rfl) sc_l_step.nd rfl rfl (by decide) rfl rfl (pa_cons (pe_callD D_l_pick ⟨rfl, rfl, rfl, rfl, rfl⟩ (hr.mono (by decide)) (by rfl) (pa_cons (pv 0) (pa_cons (pv 4) pa_nil))) (pa_cons (pe_callD D_l_pick ⟨rfl, rfl, rfl, rfl, rfl⟩ (hr.mono (by decide)) (by rfl) (pa_cons (pv 0) (pa_cons (pv 5) pa_nil))) pa_nil)) (by rfl))
        (pss_one (ps_ret (pe_tup (pa_cons (pv 1) (pa_cons (pv 3) (pa_cons (pv 6) (pa_cons (pv 7) (pa_cons (pe_op op_add pe_int (pe_callD D_l_pick ⟨rfl, rfl, rfl, rfl, rfl⟩ (hr.mono (by decide)) (by rfl) (pa_cons (pv 0) (pa_cons (pe_op op_sub (pv 4) (pv 6)) pa_nil)))) (pa_cons (pe_op op_add pe_int (pe_callD D_l_pick ⟨rfl, rfl, rfl, rfl, rfl⟩ (hr.mono (by decide)) (by rfl) (pa_cons (pv 0) (pa_cons (pe_op op_sub (pv 5) (pv 7)) pa_nil)))) pa_nil)))))))))) pss_nil)
        (pss_cons (ps_if (pt_cmpR op_eq (pv 1) pe_str (nomark _)) (pss_one (ps_ret (pe_tup (pa_cons (pv 1) (pa_cons (pv 3) pa_nil))))) pss_nil)
        (pss_cons (ps_set (i := 8) sc_l_step.nd rfl (Or.inl rfl) (pe_lst pa_nil))
        (pss_cons (ps_for PassesOwn.never (by rfl) (pi_range1 (by rfl) T.range (pa_cons (pe_callB (k_len (K := K) (by rfl)) (by rfl) T.len (by decide +kernel) (pa_cons (pv 2) pa_nil)) pa_nil)) (pg_name (i := 9) sc_l_step.nd rfl (by first | exact Or.inl rfl | exact Or.inr rfl)) (pss_one (ps_for PassesOwn.never (by rfl) (pi_range1 (by rfl) T.range (pa_cons (pe_callB (k_len (K := K) (by rfl)) (by rfl) T.len (by decide +kernel) (pa_cons (pv 2) pa_nil)) pa_nil)) (pg_name (i := 10) sc_l_step.nd rfl (by first | exact Or.inl rfl | exact Or.inr rfl)) (pss_cons (ps_set (i := 11) sc_l_step.nd rfl (Or.inl rfl) (pe_ifExp (pt_cmpR op_eq (pv 1) pe_str (nomark _)) (pe_tup (pa_cons (pv 1) (pa_cons (pv 9) pa_nil))) (pe_tup (pa_cons (pv 1) (pa_cons (pv 9) (pa_cons (pv 10) pa_nil))))))
        (pss_cons (ps_set (i := 12) sc_l_step.nd rfl (Or.inl rfl) (pe_callD D_l_shape ⟨rfl, rfl, rfl, rfl, rfl⟩ (hr.mono (by decide)) (by rfl) (pa_cons (pv 11) (pa_cons (pv 2) pa_nil))))
        (pss_one (ps_if (PW.pt (pw_and (pt_cmp (pc_notN (pv 12)) rfl) (pw_and (pt_cmpR op_le (pe_callB (k_max (K := K) (by rfl) rfl) (by rfl) T.max (by decide +kernel) (pa_cons (pv 12) pa_nil)) pe_int (nomark _)) (pw_and1 (PW.pt (pw_or (pt_cmpR op_ne (pv 1) pe_str (nomark _)) (pw_or1 (pt_cmpR op_eq (pv 10) pe_int (nomark _))))))))) (pss_one (ps_expr (pe_bm PySem.F.plainAttrs_list PySem.F.slot_list_append PySem.F.type_list_append mt_append (pv 8) (pa_cons (pv 11) pa_nil)))) pss_nil)))))))
        (pss_one (ps_ret (pe_ifExp (pt_cmpR op_gt (pe_callB (k_len (K := K) (by rfl)) (by rfl) T.len (by decide +kernel) (pa_cons (pv 8) pa_nil)) pe_int (nomark _)) (pe_ix (k_ix (K := K) (by rfl)) (pv 8) (pe_callD D_l_pick ⟨rfl, rfl, rfl, rfl, rfl⟩ (hr.mono (by decide)) (by rfl) (pa_cons (pv 0) (pa_cons (pe_callB (k_len (K := K) (by rfl)) (by rfl) T.len (by decide +kernel) (pa_cons (pv 8) pa_nil)) pa_nil))) (fun _ _ => rfl)) (pe_tup (pa_cons pe_str (pa_cons (pv 3) pa_nil)))))))))))), ?_⟩
    (try dsimp only [cxOf, Cx.nox, Cx.wish])
    refine sj_seq (sj_set (ev_pick (m := sh.length) (ev_var rfl) (EV.is (ev_cbd (ea_cons (ev_var rfl) ea_nil) (rc_len (SeqD.m (List.mem_cons_self ..)))) (by simp)) h0 (by omega)) fun d hd => ?_)
    obtain ⟨p, hp, rfl⟩ := hd
    have hq := hsh.at hp
    refine sj_seq (sj_un2 (EV.imp (P := Is (encSh (shp sh p))) (ev_opd (ev_var rfl) (ev_var rfl) (ro_ix (SeqD.m (List.mem_cons_self ..)) (at_shp hp))) fun d e => ⟨_, _, e, ?_⟩))
    rcases menu_cases hx with rfl | rfl | ⟨mk, e1, e2, e3, e4, e5, w1, w2, w3⟩
    · refine sj_seq (sj_ifd (b := true) (ET.is (et_testd (ev_opd (ev_var rfl) ev_c (ro_eq rfl))) (by decide +kernel)) (fun _ => ?_) fun e => by cases e)
      refine sj_seq (sj_par (PL := fun l => ∃ i j, i < (shp sh p).1 ∧ j < (shp sh p).2 ∧ l = [nD i, nD j]) (ea_consP (PL := fun l => ∃ j, j < (shp sh p).2 ∧ l = [nD j]) (ev_pick (m := (shp sh p).1) (ev_var rfl) (ev_var rfl) (by omega) (by omega)) (ea_consP (ev_pick (m := (shp sh p).2) (ev_var rfl) (ev_var rfl) (by omega) (by omega)) ea_nil fun d l ⟨k, hk, e⟩ el => ⟨k, hk, by rw [e, el]⟩) fun d l ⟨k, hk, e⟩ ⟨j, hj, el⟩ => ⟨k, j, hk, hj, by rw [e, el]⟩) fun ds ⟨i, j, hi, hj, e⟩ => ⟨_, _, e, ?_⟩)
      refine sj_ret (ev_tupP (PL := fun l => ∃ r c, 1 ≤ r ∧ 1 ≤ c ∧ i + r ≤ (shp sh p).1 ∧ j + c ≤ (shp sh p).2 ∧ l = [.str "piece", nD p, nD i, nD j, nD r, nD c]) (EA.imp (ea_consD (ev_var rfl) (ea_consD (ev_var rfl) (ea_consD (ev_var rfl) (ea_consD (ev_var rfl) (ea_consP (PL := fun l => ∃ c, 1 ≤ c ∧ j + c ≤ (shp sh p).2 ∧ l = [nD c]) (QL := fun l => ∃ r c, 1 ≤ r ∧ 1 ≤ c ∧ i + r ≤ (shp sh p).1 ∧ j + c ≤ (shp sh p).2 ∧ l = [nD r, nD c])
        (ev_opI0r (q := fun y => 1 ≤ y ∧ (i : Int) + y ≤ (shp sh p).1) ev_c (EV.intP (m := (shp sh p).1 - i) (ev_pick (ev_var rfl) (EV.is (ev_opd (ev_var rfl) (ev_var rfl) ro_I0) (by show D.int _ = D.int _; congr 2; omega)) (by omega) (by omega))) fun y hy => by omega)
        (ea_consP (ev_opI0r (q := fun y => 1 ≤ y ∧ (j : Int) + y ≤ (shp sh p).2) ev_c (EV.intP (m := (shp sh p).2 - j) (ev_pick (ev_var rfl) (EV.is (ev_opd (ev_var rfl) (ev_var rfl) ro_I0) (by show D.int _ = D.int _; congr 2; omega)) (by omega) (by omega))) fun y hy => by omega) ea_nil fun d l ⟨y, e, hy1, hy2⟩ el => ⟨y.toNat, by omega, by omega, by rw [e, el]; show [D.int y] = [D.int (y.toNat : Int)]; rw [Int.toNat_of_nonneg (by omega)]⟩)
        fun d l ⟨y, e, hy1, hy2⟩ ⟨c', h1, h2, el⟩ => ⟨y.toNat, c', by omega, h1, by omega, h2, by rw [e, el]; show [D.int y, _] = [D.int (y.toNat : Int), _]; rw [Int.toNat_of_nonneg (by omega)]⟩))))) fun l ⟨l1, ⟨l2, ⟨l3, ⟨l4, ⟨r, c', h1, h2, h3, h4, e5⟩, e4⟩, e3⟩, e2⟩, e1⟩ => ⟨r, c', h1, h2, h3, h4, by rw [e1, e2, e3, e4, e5]⟩) (fun l ⟨r, c', _, _, _, _, e⟩ => by rw [e]; exact len_ok rfl) fun l ⟨r, c', h1, h2, h3, h4, e⟩ => ⟨.piece p i j r c', by rw [e]; rfl, fun b hb => by rw [List.mem_singleton.mp hb]; exact hp, rfl, ⟨h1, h2, h3, h4⟩, _, rfl, h1, by simp only; omega, h2, by simp only; omega⟩)
    · refine sj_seq (sj_ifd (b := false) (ET.is (et_testd (ev_opd (ev_var rfl) ev_c (ro_eq rfl))) (by decide +kernel)) (fun e => by cases e) fun _ => sj_next ?_)
      refine sj_seq (sj_ifd (b := true) (ET.is (et_testd (ev_opd (ev_var rfl) ev_c (ro_eq rfl))) (by decide +kernel)) (fun _ => ?_) fun e => by cases e)
      exact sj_ret (EV.imp (ev_tup (ea_cons (ev_var rfl) (ea_cons (ev_var rfl) ea_nil)) (len_ok rfl)) fun d e => ⟨.turned p, e, turned_new hsh hp⟩)
    · refine sj_seq (sj_ifd (b := false) (ET.is (et_testd (ev_opd (ev_var rfl) ev_c (ro_eq rfl))) w1) (fun e => by cases e) fun _ => sj_next ?_)
      refine sj_seq (sj_ifd (b := false) (ET.is (et_testd (ev_opd (ev_var rfl) ev_c (ro_eq rfl))) w2) (fun e => by cases e) fun _ => sj_next ?_)
      refine sj_seq (sj_newl fun l2 => ?_)
      have eL : ∀ (G0 : G) (own : Mu), G0[2]? = some (some (.raw (.ref l))) → EA K (some (StV.draw a c)) ([(l, sh.map encSh)] ++ own) (tCons (tCB (cLen K) (tCons (tVar 2) tNil)) tNil) G0 (Is [.int (sh.length : Int)]) := fun G0 own h0 =>
        EA.isL (ea_cons (ev_cbd (ea_cons (ev_var h0) ea_nil) (rc_len (SeqD.m (List.mem_cons_self ..)))) ea_nil) (by simp)
      refine sj_seq (sj_forr (n := sh.length) (eL _ _ rfl) (by omega) (fun i Γ own => ∃ (x9 x10 x11 x12 : Option D) (fs : List Stp), Γ = [some (.raw (.ref a)), some (.str x), some (.raw (.ref l)), some (nD p), some (nD (shp sh p).1), some (nD (shp sh p).2), none, none, some (.raw (.ref l2)), x9, x10, x11, x12] ∧ own = [(l2, fs.map encS)] ∧ fs.length ≤ i * sh.length ∧ ∀ s ∈ fs, NewOk s sh) ⟨none, none, none, none, [], rfl, rfl, by simp, by simp⟩ ?_ ?_)
      · rintro i Γ' own' hi ⟨x9, x10, x11, x12, fs, rfl, rfl, hfl, hfs⟩
        refine sj_forr (n := sh.length) (eL _ _ rfl) (by omega) (fun j Γ own => ∃ (x10 x11 x12 : Option D) (fs : List Stp), Γ = [some (.raw (.ref a)), some (.str x), some (.raw (.ref l)), some (nD p), some (nD (shp sh p).1), some (nD (shp sh p).2), none, none, some (.raw (.ref l2)), some (nD i), x10, x11, x12] ∧ own = [(l2, fs.map encS)] ∧ fs.length ≤ i * sh.length + j ∧ ∀ s ∈ fs, NewOk s sh) ⟨x10, x11, x12, fs, rfl, rfl, by omega, hfs⟩ ?_ ?_
        · rintro j Γ' own' hj ⟨x10, x11, x12, fs, rfl, rfl, hfl, hfs⟩
          have hpt : ∀ b ∈ parts (mk i j), b < sh.length := fun b hb => by
            rw [e2] at hb
            rcases List.mem_cons.mp hb with e | hb
            · rw [e]; exact hi
            · rw [List.mem_singleton.mp hb]; exact hj
          have hsz : i * sh.length ≤ 400 := Nat.mul_le_mul (show i ≤ 20 by omega) h20
          refine sj_seq (sj_setd (d := encS (mk i j)) (ev_if (b := false) (ET.is (et_testd (ev_opd (ev_var rfl) ev_c (ro_eq rfl))) w3) (fun e => by cases e) fun _ => EV.is (ev_tup (ea_cons (ev_var rfl) (ea_cons (ev_var rfl) (ea_cons (ev_var rfl) ea_nil))) (len_ok rfl)) (e1 i j).symm) ?_)
          refine sj_seq (sj_setd (d := encSo (shapeOf (mk i j) sh)) (ev_callM [(l, sh.map encSh)] (ea_cons (ev_var rfl) (ea_cons (ev_var rfl) ea_nil)) (fun p hp => List.mem_append_left _ hp) (r_l_shape hpt)) ?_)
          cases hs : shapeOf (mk i j) sh with
          | none => exact sj_ifd (b := false) (ET.is (et_and (a := false) (b := false) (et_testd (ev_notN (ev_var rfl) rfl)) fun e => by cases e) rfl) (fun e => by cases e) fun _ => sj_next ⟨_, _, _, fs, rfl, rfl, by omega, hfs⟩
          | some q =>
            have hq5 := e5 i j sh q hsh hi hj hs
            refine sj_ifd (b := decide (max (q.1 : Int) (q.2 : Int) ≤ 4)) (ET.is (et_and (a := true) (b := decide (max (q.1 : Int) (q.2 : Int) ≤ 4) && true) (et_testd (ev_notN (ev_var rfl) rfl)) fun _ => et_and (et_testd (ev_opd (ev_cbd (ea_cons (ev_var rfl) ea_nil) rc_max) ev_c ro_I0)) fun _ => ET.is (et_or (a := true) (b := true) (ET.is (et_testd (ev_opd (ev_var rfl) ev_c (ro_ne rfl))) (by rw [w3]; rfl)) fun e => by cases e) rfl) (by simp)) (fun e => ?_) fun e => sj_next ⟨_, _, _, fs, rfl, rfl, by omega, hfs⟩
            have e' := of_decide_eq_true e
            refine sj_app (i := 8) (k := 0) (PV := Is (encS (mk i j))) rfl rfl (ev_var rfl) (by simp; omega) ?_
            rintro d rfl
            refine ⟨_, _, _, fs ++ [mk i j], rfl, by simp, by simp; omega, fun s h => ?_⟩
            rcases List.mem_append.mp h with h | h
            · exact hfs s h
            · rw [List.mem_singleton.mp h]
              exact ⟨hpt, e3 i j, e4 i j sh, q, hs, hq5.1, by omega, hq5.2, by omega⟩
        · rintro Γ' own' ⟨x10, x11, x12, fs, rfl, rfl, hfl, hfs⟩
          exact ⟨_, _, _, _, fs, rfl, rfl, by rw [Nat.add_mul]; omega, hfs⟩
      · rintro Γ' own' ⟨x9, x10, x11, x12, fs, rfl, rfl, hfl, hfs⟩
        have hsz : sh.length * sh.length ≤ 400 := Nat.mul_le_mul h20 h20
        have hm : (l2, fs.map encS) ∈ ([(l, sh.map encSh)] ++ [(l2, fs.map encS)] : Mu) := List.mem_append_right _ (List.mem_cons_self ..)
        refine sj_ret (ev_if (b := decide (0 < fs.length)) (ET.is (et_testd (ev_opd (ev_cbd (ea_cons (ev_var rfl) ea_nil) (rc_len (SeqD.m hm))) ev_c ro_I0)) (by simp)) (fun e => ?_) fun _ => ?_)
        · have e' := of_decide_eq_true e
          exact EV.imp (ev_ixP (xs := fs) (m := fs.length) (ev_var rfl) (SeqD.m hm) (ev_pick (ev_var rfl) (EV.is (ev_cbd (ea_cons (ev_var rfl) ea_nil) (rc_len (SeqD.m hm))) (by simp)) e' (by omega)) (Nat.le_refl _)) fun d ⟨s, h1, h2⟩ => ⟨s, h2, hfs s h1⟩
        · exact EV.imp (ev_tup (ea_cons ev_c (ea_cons (ev_var rfl) ea_nil)) (len_ok rfl)) fun d e => ⟨.turned p, e, turned_new hsh hp⟩
theorem r_l_step {a c : Addr} {x : Str} {sh : List Shp} {l : Addr} (hx : x ∈ menuL) (h : ShsOk sh) : R_l_step K [.raw (.ref a), .str x, .raw (.ref l)] (some (StV.draw a c)) [(l, sh.map encSh)] (NewP sh) := ⟨a, c, x, sh, l, hx, h, rfl, rfl, rfl, rfl⟩
end U
set_option maxHeartbeats 4000000
/-! G12: l_unit, l_values. -/
namespace U
open PySem PyProof.Rows L2 Evl RZ
local macro_rules | `(tactic| walk_at "u") => `(tactic| first
  | ((with_reducible apply ev_cT) <;> assumption)
  | with_reducible apply ev_c
  | ((with_reducible apply ev_var); rfl)
  | with_reducible apply ea_nil
  | ((with_reducible apply ea_cons) <;> (try walk_at "u"))
  | ((with_reducible apply ev_opd) <;> (try walk_at "u"))
  | with_reducible apply ro_I0
  | ((with_reducible apply ro_I) <;> (try walk_at "s"))
  | ((with_reducible apply ro_ix) <;> (try walk_at "s"))
  | ((with_reducible apply ro_eq); rfl)
  | ((with_reducible apply ro_ne); rfl)
  | ((with_reducible apply ev_un) <;> (try walk_at "u"))
  | ((with_reducible apply ev_tup) <;> (try walk_at "u"))
  | ((with_reducible apply ev_lst) <;> (try walk_at "u"))
  | ((with_reducible apply ev_cbd) <;> (try walk_at "u"))
  | ((with_reducible apply rc_len) <;> (try walk_at "s"))
  | with_reducible apply rc_abs
  | with_reducible apply rc_int
  | with_reducible apply rc_intb
  | ((with_reducible apply rc_list) <;> (try walk_at "s"))
  | ((with_reducible apply rc_tup) <;> (try walk_at "s"))
  | ((with_reducible apply rc_isi) <;> (try walk_at "s"))
  | ((with_reducible apply ev_call) <;> (try walk_at "u"))
  | ((with_reducible apply ev_and2) <;> (try walk_at "u"))
  | ((with_reducible apply ev_or2) <;> (try walk_at "u"))
  | ((with_reducible apply ev_notV) <;> (try walk_at "u"))
  | ((with_reducible apply ev_chain) <;> (try walk_at "u"))
  | ((with_reducible apply et_testd) <;> (try walk_at "u"))
  | ((with_reducible apply et_B) <;> (try walk_at "u"))
  | ((with_reducible apply et_and) <;> (try walk_at "u"))
  | ((with_reducible apply et_or) <;> (try walk_at "u"))
  | ((with_reducible apply et_not) <;> (try walk_at "u"))
  | ((with_reducible intro h_) <;> (try walk_at "u"))
  | exact len_ok rfl
  | decide)
local macro_rules | `(tactic| walk_at "s") => `(tactic| first
  | with_reducible assumption
  | exact SeqD.l
  | exact SeqD.t
  | exact seqB_l
  | exact seqB_t
  | with_reducible exact ok_encO _
  | with_reducible exact sh_encO _
  | with_reducible rfl
  | ((with_reducible refine Eq.trans ?_ rfl); rfl)
  | assumption
  | decide)
variable {P : Program} {w : World} {K : PySem.W.Frag} {mg : Str → Option Value} {base : Heap}
theorem RC.imp {st : Stt} {mu : Mu} {r : List V → Hp → VK → Prop} {xs : List D} {P P' : D → Prop} (h : RC K st mu r xs P) (k : ∀ d, P d → P' d) : RC K st mu r xs P' := fun H0 H vs i s m rr Q q => h H0 H vs i s m rr Q fun v d H1 H' g s' p r' => q v d H1 H' g s' (k d p) r'
theorem B9_of {n : Nat} (h : n < 16) : n < B9 := B4_B9 (lt_B4 (n := 4) h (by decide))
def unitC : Cl → Cell
  | none => none
  | some xs => some (xs.map fun x => mkRat x 12)
theorem encCl_is (c : Cl) : rawNon (encCl c) = c.isNone := by cases c <;> rfl
def R_l_unit (K : PySem.W.Frag) : RT := fun ds st mu P => ∃ (c : Cl) (nb : Nat), nb ≤ 100 ∧ ClOk nb c ∧ ds = [encCl c] ∧ st = none ∧ mu = [] ∧ P = Is (encC (unitC c))
theorem d_l_unit (T : Tx K mg) (A : At K mg "_law_unit" s_l_unit) (D_l_lowest : Def P w K mg base 1 "_law_lowest" ["_law_top", "_law_bottom"] (R_l_lowest K)) : Def P w K mg base 2 "_law_unit" ["_law_cell_here"] (R_l_unit K) := by
  obtain ⟨f, fd, F, hm⟩ := A.fn
  refine mk_def F hm (def_ok F sc_l_unit (fun ds st mu PP h => ?_) (by decide) fun cdv A outer s H E hr ds st mu PP h => ?_) fun _ _ _ _ _ _ us hl => match us, hl with | [_], _ => rfl
  · obtain ⟨c, nb, _, _, rfl, _⟩ := h
    rfl
  · obtain ⟨c, nb, hnb, hc, rfl, rfl, rfl, rfl⟩ := h
    refine ⟨_, (pss_cons (ps_if (pt_cmp (pc_isN (pv 0)) rfl) (pss_one (ps_ret pe_non)) pss_nil)
        (pss_one (ps_ret (pe_callTy (k_tup (K := K) (by rfl)) (by rfl) T.tuple (by decide +kernel) (pa_cons (pe_lc (own := [("_law_part", 1)]) (by rfl) sc_l_unit.nd (k_seq (K := K) (by rfl) (pv 0)) (blkOk_by (by kernel_rfl)) (fun _ _ _ _ _ => (pg_name (i := 1) sc_l_unit.nd rfl (by first | exact Or.inl rfl | exact Or.inr rfl))) (fun _ _ _ _ _ => pts_nil) (fun _ _ _ _ _ => (pe_callD D_l_lowest ⟨rfl, rfl, rfl, rfl, rfl⟩ (hr.mono (by decide)) (by rfl) (pa_cons (pv 1) (pa_cons pe_int pa_nil))))) pa_nil))))), ?_⟩
    (try dsimp only [cxOf, Cx.nox, Cx.wish])
    cases c with
    | none =>
      refine sj_seq (sj_ifd (b := true) (ET.is (et_testd (ev_isN (ev_var rfl) rfl)) rfl) (fun _ => sj_ret (EV.is ev_c rfl)) fun e => by cases e)
    | some xs =>
      refine sj_seq (sj_ifd (b := false) (ET.is (et_testd (ev_isN (ev_var rfl) rfl)) rfl) (fun e => by cases e) fun _ => sj_next ?_)
      refine sj_ret (EV.is (ev_cbd (ea_cons (ev_lct xs zD (fun x => encQ (mkRat x 12)) false (ev_var rfl) seqB_l (by simp) (by have := hc.1; omega) fun i x hx => ?_) ea_nil) (rc_tup SeqD.l)) ?_)
      · exact ev_call (ea_cons (ev_var rfl) (ea_cons ev_c ea_nil)) (r_l_lowest (b := 12) (by decide) (B9_of (by decide)))
      · show _ = D.tup ((xs.map fun x => mkRat x 12).map encQ)
        rw [List.map_map]
        rfl
theorem r_l_unit {c : Cl} {nb : Nat} (h1 : nb ≤ 100) (h : ClOk nb c) : R_l_unit K [encCl c] none [] (Is (encC (unitC c))) := ⟨c, nb, h1, h, rfl, rfl, rfl, rfl⟩
/-- a number drawn for a cell -/
def VOk (c : Cl) (x : Rat) : Prop := (c = none → x = 0) ∧ (c ≠ none → ∃ p q : Nat, 1 ≤ p ∧ p ≤ 4 ∧ 1 ≤ q ∧ q ≤ 9 ∧ x = mkRat p q)
def RowV (r : List Cl) (v : List Rat) : Prop := v.length = r.length ∧ ∀ (i : Nat) (c : Cl) (x : Rat), r[i]? = some c → v[i]? = some x → VOk c x
def VsOk (rows : List (List Cl)) (v : List (List Rat)) : Prop := v.length = rows.length ∧ ∀ (i : Nat) (r : List Cl) (s : List Rat), rows[i]? = some r → v[i]? = some s → RowV r s
def R_l_values (K : PySem.W.Frag) : RT := fun ds st mu P => ∃ (a c : Addr) (rows : List (List Cl)) (nb n : Nat), SqCl nb n rows ∧ n ≤ 4 ∧ ds = [.raw (.ref a), encCm rows] ∧ st = some (StV.draw a c) ∧ mu = [] ∧ P = fun d => ∃ v, d = encVt v ∧ VsOk rows v
theorem d_l_values (T : Tx K mg) (A : At K mg "_law_values" s_l_values) (D_l_lowest : Def P w K mg base 1 "_law_lowest" ["_law_top", "_law_bottom"] (R_l_lowest K)) (D_l_pick : Def P w K mg base 1 "_law_pick" ["_law_state", "_law_many"] (R_l_pick K)) : Def P w K mg base 2 "_law_values" ["_law_state", "_law_rows"] (R_l_values K) := by
  obtain ⟨f, fd, F, hm⟩ := A.fn
  refine mk_def F hm (def_ok F sc_l_values (fun ds st mu PP h => ?_) (by decide) fun cdv A outer s H E hr ds st mu PP h => ?_) fun _ _ _ _ _ _ us hl => match us, hl with | [_, _], _ => rfl
  · obtain ⟨a, c, rows, nb, n, _, _, rfl, _⟩ := h
    rfl
  · obtain ⟨a, c, rows, nb, n, hsq, hn, rfl, rfl, rfl, rfl⟩ := h
    have hrl := hsq.l
    refine ⟨_, (pss_cons (ps_set (i := 2) sc_l_values.nd rfl (Or.inl rfl) (pe_lst pa_nil))
        (pss_cons (ps_for PassesOwn.never (by rfl) (k_seq (K := K) (by rfl) (pv 1)) (pg_name (i := 3) sc_l_values.nd rfl (by first | exact Or.inl rfl | exact Or.inr rfl)) (pss_one (ps_expr (pe_bm PySem.F.plainAttrs_list PySem.F.slot_list_append PySem.F.type_list_append mt_append (pv 2) (pa_cons (pe_callTy (k_tup (K := K) (by rfl)) (by rfl) T.tuple (by decide +kernel) (pa_cons (pe_lc (own := [("_law_cell_here", 4)]) (by rfl) sc_l_values.nd (k_seq (K := K) (by rfl) (pv 3)) (blkOk_by (by kernel_rfl)) (fun _ _ _ _ _ => (pg_name (i := 4) sc_l_values.nd rfl (by first | exact Or.inl rfl | exact Or.inr rfl))) (fun _ _ _ _ _ => pts_nil) (fun _ _ _ _ _ => (pe_ifExp (pt_cmp (pc_isN (pv 4)) rfl) (pe_tup (pa_cons pe_int (pa_cons pe_int pa_nil))) (pe_callD D_l_lowest ⟨rfl, rfl, rfl, rfl, rfl⟩ (hr.mono (by decide)) (by rfl) (pa_cons (pe_op op_add pe_int (pe_callD D_l_pick ⟨rfl, rfl, rfl, rfl, rfl⟩ (hr.mono (by decide)) (by rfl) (pa_cons (pv 0) (pa_cons pe_int pa_nil)))) (pa_cons (pe_op op_add pe_int (pe_callD D_l_pick ⟨rfl, rfl, rfl, rfl, rfl⟩ (hr.mono (by decide)) (by rfl) (pa_cons (pv 0) (pa_cons pe_int pa_nil)))) pa_nil)))))) pa_nil)) pa_nil)))))
        (pss_one (ps_ret (pe_callTy (k_tup (K := K) (by rfl)) (by rfl) T.tuple (by decide +kernel) (pa_cons (pv 2) pa_nil)))))), ?_⟩
    (try dsimp only [cxOf, Cx.nox, Cx.wish])
    refine sj_seq (sj_newl fun l => ?_)
    refine sj_seq (sj_fort rows encCr false (ev_var rfl) seqB_l (fun i Γ own => ∃ (x3 : Option D) (v : List (List Rat)), Γ = [some (.raw (.ref a)), some (encCm rows), some (.raw (.ref l)), x3, none] ∧ own = [(l, v.map fun s => .tup (s.map encQ))] ∧ v.length = i ∧ ∀ (k : Nat) (r : List Cl) (s : List Rat), rows[k]? = some r → v[k]? = some s → RowV r s) ⟨none, [], rfl, rfl, rfl, fun k r s _ h => by simp at h⟩ ?_ ?_)
    · rintro i r Γ' own' hri ⟨x3, v, rfl, rfl, hl, hv⟩
      have hrr : r.length = n := hsq.r r (List.mem_of_getElem? hri)
      have hi : i < rows.length := (List.getElem?_eq_some_iff.mp hri).1
      refine sj_app (i := 2) (k := 0) (PV := fun d => ∃ s : List Rat, d = .tup (s.map encQ) ∧ RowV r s) rfl rfl (ev_cb (PL := fun l => ∃ s : List Rat, l = [.lst (s.map encQ)] ∧ RowV r s) (ea_consP (ev_lcsP r encCl encQ (fun k x => ∀ c, r[k]? = some c → VOk c x) false (ev_var rfl) seqB_l (by simp) (by omega) fun k y hy => ?_) ea_nil fun d l ⟨s, e1, e2, e3⟩ el => ⟨s, by rw [e1, el], e2, fun k c x hc hx => e3 k x hx c hc⟩) fun ds ⟨s, e, hs⟩ => ?_) (by simp; omega) ?_
      · refine ev_if (b := y.isNone) (ET.is (et_testd (ev_isN (ev_var rfl) (encCl_is y))) rfl) (fun e => ?_) fun e => ?_
        · have hyn : y = none := Option.isNone_iff_eq_none.mp e
          exact EV.imp (ev_tup (ea_cons ev_c (ea_cons ev_c ea_nil))) fun d e => ⟨0, e, fun c hc => by
            rw [hy] at hc
            cases hc
            exact ⟨fun _ => rfl, fun h => absurd hyn h⟩⟩
        · have hyn : y ≠ none := fun h => by rw [h] at e; cases e
          refine ev_callW (PL := fun l => ∃ p q : Nat, 1 ≤ p ∧ p ≤ 4 ∧ 1 ≤ q ∧ q ≤ 9 ∧ l = [nD p, nD q]) (ea_consP (PL := fun l => ∃ q : Nat, 1 ≤ q ∧ q ≤ 9 ∧ l = [nD q]) (ev_opI0r (q := fun x => 1 ≤ x ∧ x ≤ 4) ev_c (EV.intP (m := 4) (ev_pick (ev_var rfl) ev_c (by decide) (by decide))) fun x hx => by omega)
            (ea_consP (ev_opI0r (q := fun x => 1 ≤ x ∧ x ≤ 9) ev_c (EV.intP (m := 9) (ev_pick (ev_var rfl) ev_c (by decide) (by decide))) fun x hx => by omega) ea_nil fun d l ⟨x, e, h1, h2⟩ el => ⟨x.toNat, by omega, by omega, by rw [e, el]; show [D.int x] = [D.int (x.toNat : Int)]; rw [Int.toNat_of_nonneg (by omega)]⟩)
            fun d l ⟨x, e, h1, h2⟩ ⟨q, h3, h4, el⟩ => ⟨x.toNat, q, by omega, by omega, h3, h4, by rw [e, el]; show [D.int x, _] = [D.int (x.toNat : Int), _]; rw [Int.toNat_of_nonneg (by omega)]⟩) fun l ⟨p, q, h1, h2, h3, h4, e⟩ => ?_
          refine ⟨none, [], Is (encQ (mkRat p q)), .inl rfl, (fun p hp => by cases hp), ?_, fun d e => ⟨mkRat p q, e, fun c hc => ?_⟩⟩
          · rw [e]
            exact r_l_lowest (t := (p : Int)) (by omega) (B9_of (by omega))
          · rw [hy] at hc
            cases hc
            exact ⟨fun h => absurd h hyn, fun _ => ⟨p, q, h1, h2, h3, h4, rfl⟩⟩
      · rw [e]
        exact RC.imp (rc_tup SeqD.l) fun d e => ⟨s, e, hs⟩
      · rintro d ⟨s, rfl, hs⟩
        refine ⟨_, v ++ [s], rfl, by simp, by simp [hl], fun k r' s' h1 h2 => ?_⟩
        by_cases hk : k < v.length
        · rw [List.getElem?_append_left hk] at h2
          exact hv k r' s' h1 h2
        · rw [List.getElem?_append_right (by omega)] at h2
          have e0 : k - v.length = 0 := by
            have := (List.getElem?_eq_some_iff.mp h2).1
            simp at this
            omega
          rw [e0] at h2
          have ek : k = i := by omega
          have es : s = s' := by simpa using h2
          rw [ek, hri] at h1
          cases h1
          rw [← es]
          exact hs
    · rintro Γ' own' ⟨x3, v, rfl, rfl, hl, hv⟩
      exact sj_ret (EV.imp (ev_cbd (ea_cons (ev_var rfl) ea_nil) (rc_tup (SeqD.m (List.mem_cons_self ..)))) fun d e => ⟨v, e, hl, hv⟩)
theorem r_l_values {a c : Addr} {rows : List (List Cl)} {nb n : Nat} (h : SqCl nb n rows) (hn : n ≤ 4) : R_l_values K [.raw (.ref a), encCm rows] (some (StV.draw a c)) [] (fun d => ∃ v, d = encVt v ∧ VsOk rows v) := ⟨a, c, rows, nb, n, h, hn, rfl, rfl, rfl, rfl⟩
end U
set_option maxHeartbeats 4000000
/-! H1: what Grid's constructor checks. -/
namespace U
open PySem PyProof.Rows L2 Evl RZ
local macro_rules | `(tactic| walk_at "u") => `(tactic| first
  | ((with_reducible apply ev_cT) <;> assumption)
  | with_reducible apply ev_c
  | ((with_reducible apply ev_var); rfl)
  | with_reducible apply ea_nil
  | ((with_reducible apply ea_cons) <;> (try walk_at "u"))
  | ((with_reducible apply ev_opd) <;> (try walk_at "u"))
  | with_reducible apply ro_I0
  | ((with_reducible apply ro_I) <;> (try walk_at "s"))
  | ((with_reducible apply ro_ix) <;> (try walk_at "s"))
  | ((with_reducible apply ro_eq); rfl)
  | ((with_reducible apply ro_ne); rfl)
  | ((with_reducible apply ev_un) <;> (try walk_at "u"))
  | ((with_reducible apply ev_tup) <;> (try walk_at "u"))
  | ((with_reducible apply ev_lst) <;> (try walk_at "u"))
  | ((with_reducible apply ev_cbd) <;> (try walk_at "u"))
  | ((with_reducible apply rc_len) <;> (try walk_at "s"))
  | with_reducible apply rc_abs
  | with_reducible apply rc_int
  | with_reducible apply rc_intb
  | ((with_reducible apply rc_list) <;> (try walk_at "s"))
  | ((with_reducible apply rc_tup) <;> (try walk_at "s"))
  | ((with_reducible apply rc_isi) <;> (try walk_at "s"))
  | ((with_reducible apply ev_call) <;> (try walk_at "u"))
  | ((with_reducible apply ev_and2) <;> (try walk_at "u"))
  | ((with_reducible apply ev_or2) <;> (try walk_at "u"))
  | ((with_reducible apply ev_notV) <;> (try walk_at "u"))
  | ((with_reducible apply ev_chain) <;> (try walk_at "u"))
  | ((with_reducible apply et_testd) <;> (try walk_at "u"))
  | ((with_reducible apply et_B) <;> (try walk_at "u"))
  | ((with_reducible apply et_and) <;> (try walk_at "u"))
  | ((with_reducible apply et_or) <;> (try walk_at "u"))
  | ((with_reducible apply et_not) <;> (try walk_at "u"))
  | ((with_reducible intro h_) <;> (try walk_at "u"))
  | exact len_ok rfl
  | decide)
local macro_rules | `(tactic| walk_at "s") => `(tactic| first
  | with_reducible assumption
  | exact SeqD.l
  | exact SeqD.t
  | exact seqB_l
  | exact seqB_t
  | with_reducible exact ok_encO _
  | with_reducible exact sh_encO _
  | with_reducible rfl
  | ((with_reducible refine Eq.trans ?_ rfl); rfl)
  | assumption
  | decide)
variable {P : Program} {w : World} {K : PySem.W.Frag} {mg : Str → Option Value} {base : Heap}
def R_is_part (K : PySem.W.Frag) : RT := fun ds st mu P => ∃ xs : List D, 1 ≤ xs.length ∧ xs.length ≤ 10 ∧ ds = [.tup xs] ∧ st = none ∧ mu = [] ∧ P = Is (.bl true)
theorem d_is_part (T : Tx K mg) (A : At K mg "is_part" s_is_part)  : Def P w K mg base 1 "is_part" ["thing"] (R_is_part K) := by
  obtain ⟨f, fd, F, hm⟩ := A.fn
  refine mk_def F hm (def_ok F sc_is_part (fun ds st mu PP h => ?_) (by decide) fun cdv A outer s H E hr ds st mu PP h => ?_) fun _ _ _ _ _ _ us hl => match us, hl with | [_], _ => rfl
  · obtain ⟨xs, _, _, rfl, _⟩ := h
    rfl
  · obtain ⟨xs, h1, h2, rfl, rfl, rfl, rfl⟩ := h
    refine ⟨_, (pss_one (ps_ret (pe_and (pe_callB (k_isi (K := K) (by rfl)) (by rfl) T.isinstance (by decide +kernel) (pa_cons (pv 0) (pa_cons (pe_bltn (v := .ty "tuple") (by rfl) T.tuple (by decide +kernel) rfl) pa_nil))) (pe_one (pe_chain op_le op_le pe_int (pe_callB (k_len (K := K) (by rfl)) (by rfl) T.len (by decide +kernel) (pa_cons (pv 0) pa_nil)) (pe_gint T.MOST_ROWS (by rfl))))))), ?_⟩
    (try dsimp only [cxOf, Cx.nox, Cx.wish])
    refine sj_ret (EV.is (d := .bl (true && (decide ((1 : Int) ≤ (xs.length : Int)) && decide ((xs.length : Int) ≤ 10)))) (ev_and2 (ev_cbd (ea_cons (ev_var rfl) (ea_cons ev_c ea_nil)) (rc_isi (d := .tup xs) rfl rfl)) fun _ => ev_chain ev_c (ev_cbd (ea_cons (ev_var rfl) ea_nil) (rc_len SeqD.t)) ev_c ro_I0 ro_I0) ?_)
    have a1 : (1 : Int) ≤ (xs.length : Int) := by omega
    have a2 : (xs.length : Int) ≤ 10 := by omega
    simp [a1, a2]
theorem r_is_part {xs : List D} (h1 : 1 ≤ xs.length) (h2 : xs.length ≤ 10) : R_is_part K [.tup xs] none [] (Is (.bl true)) := ⟨xs, h1, h2, rfl, rfl, rfl, rfl⟩
def R_is_unit_of (K : PySem.W.Frag) : RT := fun ds st mu P => ∃ u : List Rat, u.length ≤ 100 ∧ ds = [nD u.length, .tup (u.map encQ)] ∧ st = none ∧ mu = [] ∧ P = Is (.bl true)
theorem d_is_unit_of (T : Tx K mg) (A : At K mg "is_unit_of" s_is_unit_of) (D_is_fraction : Def P w K mg base 2 "is_fraction" ["thing"] (R_is_fraction K)) : Def P w K mg base 3 "is_unit_of" ["bases", "thing"] (R_is_unit_of K) := by
  obtain ⟨f, fd, F, hm⟩ := A.fn
  refine mk_def F hm (def_ok F sc_is_unit_of (fun ds st mu PP h => ?_) (by decide) fun cdv A outer s H E hr ds st mu PP h => ?_) fun _ _ _ _ _ _ us hl => match us, hl with | [_, _], _ => rfl
  · obtain ⟨u, _, rfl, _⟩ := h
    rfl
  · obtain ⟨u, hu, rfl, rfl, rfl, rfl⟩ := h
    refine ⟨_, (pss_one (ps_ret (pe_and (pe_callB (k_isi (K := K) (by rfl)) (by rfl) T.isinstance (by decide +kernel) (pa_cons (pv 1) (pa_cons (pe_bltn (v := .ty "tuple") (by rfl) T.tuple (by decide +kernel) rfl) pa_nil))) (pe_and (pe_cmpR op_eq (pe_callB (k_len (K := K) (by rfl)) (by rfl) T.len (by decide +kernel) (pa_cons (pv 1) pa_nil)) (pv 0) (nomark _)) (pe_one (pe_callB (k_all (K := K) (by rfl) rfl) (by rfl) T.all (by decide +kernel) (pa_cons (pe_lc (own := [("item", 2)]) (by rfl) sc_is_unit_of.nd (k_seq (K := K) (by rfl) (pv 1)) (blkOk_by (by kernel_rfl)) (fun _ _ _ _ _ => (pg_name (i := 2) sc_is_unit_of.nd rfl (by first | exact Or.inl rfl | exact Or.inr rfl))) (fun _ _ _ _ _ => pts_nil) (fun _ _ _ _ _ => (pe_callD D_is_fraction ⟨rfl, rfl, rfl, rfl, rfl⟩ (hr.mono (by decide)) (by rfl) (pa_cons (pv 2) pa_nil)))) pa_nil))))))), ?_⟩
    (try dsimp only [cxOf, Cx.nox, Cx.wish])
    refine sj_ret (EV.is (d := .bl (true && (decide (V.int (u.length : Nat) = V.int (u.length : Nat)) && (u.map fun _ => true).all id))) (ev_and2 (ev_cbd (ea_cons (ev_var rfl) (ea_cons ev_c ea_nil)) (rc_isi (d := .tup (u.map encQ)) rfl rfl)) fun _ => ev_and2 (EV.is (ev_opd (ev_cbd (ea_cons (ev_var rfl) ea_nil) (rc_len SeqD.t)) (ev_var rfl) (ro_eq rfl)) (by simp)) fun _ =>
      ev_cbd (ea_cons (EV.is (ev_lct u encQ (fun _ => .bl true) true (ev_var rfl) seqB_t (by simp) (by omega) fun i q hq => ev_call (ea_cons (ev_var rfl) ea_nil) r_is_fraction) (e := .lst ((u.map fun _ => true).map .bl)) (by rw [List.map_map]; rfl)) ea_nil) rc_all) ?_)
    simp
theorem r_is_unit_of {u : List Rat} (h : u.length ≤ 100) : R_is_unit_of K [nD u.length, .tup (u.map encQ)] none [] (Is (.bl true)) := ⟨u, h, rfl, rfl, rfl, rfl⟩
def CellG (nb : Nat) : Cell → Prop
  | none => True
  | some u => u.length = nb ∧ ∀ q ∈ u, q.num.natAbs ≤ 6 ∧ q.den ≤ 4
def R_is_cell (K : PySem.W.Frag) : RT := fun ds st mu P => ∃ (nb : Nat) (c : Cell), nb ≤ 100 ∧ CellG nb c ∧ ds = [nD nb, encC c] ∧ st = none ∧ mu = [] ∧ P = Is (.bl true)
theorem d_is_cell (T : Tx K mg) (A : At K mg "is_cell" s_is_cell) (D_is_unit_of : Def P w K mg base 3 "is_unit_of" ["bases", "thing"] (R_is_unit_of K)) : Def P w K mg base 4 "is_cell" ["bases", "thing"] (R_is_cell K) := by
  obtain ⟨f, fd, F, hm⟩ := A.fn
  refine mk_def F hm (def_ok F sc_is_cell (fun ds st mu PP h => ?_) (by decide) fun cdv A outer s H E hr ds st mu PP h => ?_) fun _ _ _ _ _ _ us hl => match us, hl with | [_, _], _ => rfl
  · obtain ⟨nb, c, _, _, rfl, _⟩ := h
    rfl
  · obtain ⟨nb, c, hnb, hc, rfl, rfl, rfl, rfl⟩ := h
    refine ⟨_, (pss_cons (ps_if (pt_cmp (pc_isN (pv 1)) rfl) (pss_one (ps_ret pe_bl)) pss_nil)
        (pss_cons (ps_if (pt_not (pt_val (pe_callD D_is_unit_of ⟨rfl, rfl, rfl, rfl, rfl⟩ (hr.mono (by decide)) (by rfl) (pa_cons (pv 0) (pa_cons (pv 1) pa_nil))))) (pss_one (ps_ret pe_bl)) pss_nil)
        (pss_one (ps_ret (pe_callB (k_all (K := K) (by rfl) rfl) (by rfl) T.all (by decide +kernel) (pa_cons (pe_lc (own := [("top", 2), ("bottom", 3)]) (by rfl) sc_is_cell.nd (k_seq (K := K) (by rfl) (pv 1)) (blkOk_by (by kernel_rfl)) (fun _ _ _ _ _ => (k_gtup (K := K) (n := 2) (by rfl) (by rfl) (pgs_cons (pg_name (i := 2) sc_is_cell.nd rfl (by first | exact Or.inl rfl | exact Or.inr rfl)) (pgs_cons (pg_name (i := 3) sc_is_cell.nd rfl (by first | exact Or.inl rfl | exact Or.inr rfl)) pgs_nil)))) (fun _ _ _ _ _ => pts_nil) (fun _ _ _ _ _ => (pe_and (pe_cmpR op_le (pe_callB cl_abs (by rfl) T.abs (by decide +kernel) (pa_cons (pv 2) pa_nil)) (pe_gint T.MOST_TOP (by rfl)) (nomark _)) (pe_one (pe_cmpR op_le (pv 3) (pe_gint T.MOST_BOTTOM (by rfl)) (nomark _)))))) pa_nil)))))), ?_⟩
    (try dsimp only [cxOf, Cx.nox, Cx.wish])
    cases c with
    | none =>
      refine sj_seq (sj_ifd (b := true) (ET.is (et_testd (ev_isN (ev_var rfl) rfl)) rfl) (fun _ => sj_ret (EV.is ev_c rfl)) fun e => by cases e)
    | some u =>
      obtain ⟨hl, hq⟩ := hc
      subst hl
      refine sj_seq (sj_ifd (b := false) (ET.is (et_testd (ev_isN (ev_var rfl) rfl)) rfl) (fun e => by cases e) fun _ => sj_next ?_)
      refine sj_seq (sj_ifd (b := false) (ET.is (et_not (et_testd (ev_call (ea_cons (ev_var rfl) (ea_cons (ev_var rfl) ea_nil)) (r_is_unit_of hnb)))) rfl) (fun e => by cases e) fun _ => sj_next ?_)
      have hps : (u.map fun q => (D.int q.num, D.int (q.den : Nat))).map (fun p => D.tup [p.1, p.2]) = u.map encQ := by
        rw [List.map_map]
        rfl
      have it2 : ∀ G0 : G, G0[1]? = some (some (encC (some u))) → IT K none ([] ++ []) [] (iSeq K (tVar 1)) (gTup K 2 (gCons (gName 2) (gCons (gName 3) gNil))) [2, 3] (WIs u.length (tSet2 2 3 (fun i => ((u.map fun q => (D.int q.num, D.int (q.den : Nat)))[i]?).map (·.1)) fun i => ((u.map fun q => (D.int q.num, D.int (q.den : Nat)))[i]?).map (·.2))) G0 := fun G0 h0 => by
        have h1 := it_seq2 (K := K) (st := none) (mu := []) (j := 2) (k := 3) (ps := u.map fun q => (D.int q.num, D.int (q.den : Nat))) true (ev_var h0) (by rw [hps]; rfl)
        rw [List.length_map] at h1
        exact h1
      refine sj_ret (EV.is (ev_cbd (ea_cons (EV.is (ev_lcd (mu' := []) (n := u.length) (it2 _ rfl) (fun p hp => by cases hp) (by simp) (by omega) (fun _ => .bl true) fun i hi => ?_) (e := .lst ((List.replicate u.length true).map .bl)) (by
        congr 1
        apply List.ext_getElem?
        intro i
        by_cases h : i < u.length
        · simp [h]
        · simp [h])) ea_nil) rc_all) (by simp))
      have e1 : (u.map fun q => (D.int q.num, D.int (q.den : Nat)))[i]? = some (D.int u[i].num, D.int (u[i].den : Nat)) := by simp [hi]
      obtain ⟨b1, b2⟩ := hq u[i] (List.getElem_mem _)
      show EV K none _ _ ((List.set _ 2 (((u.map fun q => (D.int q.num, D.int (q.den : Nat)))[i]?).map (·.1))).set 3 (((u.map fun q => (D.int q.num, D.int (q.den : Nat)))[i]?).map (·.2))) _
      rw [e1]
      refine EV.is (ev_and2 (a := true) (b := true) (EV.is (ev_opd (ev_cbd (ea_cons (ev_var rfl) ea_nil) rc_abs) ev_c ro_I0) ?_) fun _ => EV.is (ev_opd (ev_var rfl) ev_c ro_I0) ?_) rfl
      · have a1 : (u[i].num.natAbs : Int) ≤ 6 := by omega
        simp [a1]
      · have a2 : (u[i].den : Int) ≤ 4 := by omega
        simp [a2]
theorem r_is_cell {nb : Nat} {c : Cell} (h1 : nb ≤ 100) (h : CellG nb c) : R_is_cell K [nD nb, encC c] none [] (Is (.bl true)) := ⟨nb, c, h1, h, rfl, rfl, rfl, rfl⟩
end U
set_option maxHeartbeats 4000000
/-! H2: check_rows, reached_by. -/
namespace U
open PySem PyProof.Rows L2 Evl RZ
local macro_rules | `(tactic| walk_at "u") => `(tactic| first
  | ((with_reducible apply ev_cT) <;> assumption)
  | with_reducible apply ev_c
  | ((with_reducible apply ev_var); rfl)
  | with_reducible apply ea_nil
  | ((with_reducible apply ea_cons) <;> (try walk_at "u"))
  | ((with_reducible apply ev_opd) <;> (try walk_at "u"))
  | with_reducible apply ro_I0
  | ((with_reducible apply ro_I) <;> (try walk_at "s"))
  | ((with_reducible apply ro_ix) <;> (try walk_at "s"))
  | ((with_reducible apply ro_eq); rfl)
  | ((with_reducible apply ro_ne); rfl)
  | ((with_reducible apply ev_un) <;> (try walk_at "u"))
  | ((with_reducible apply ev_tup) <;> (try walk_at "u"))
  | ((with_reducible apply ev_lst) <;> (try walk_at "u"))
  | ((with_reducible apply ev_cbd) <;> (try walk_at "u"))
  | ((with_reducible apply rc_len) <;> (try walk_at "s"))
  | with_reducible apply rc_abs
  | with_reducible apply rc_int
  | with_reducible apply rc_intb
  | ((with_reducible apply rc_list) <;> (try walk_at "s"))
  | ((with_reducible apply rc_tup) <;> (try walk_at "s"))
  | ((with_reducible apply rc_isi) <;> (try walk_at "s"))
  | ((with_reducible apply ev_call) <;> (try walk_at "u"))
  | ((with_reducible apply ev_and2) <;> (try walk_at "u"))
  | ((with_reducible apply ev_or2) <;> (try walk_at "u"))
  | ((with_reducible apply ev_notV) <;> (try walk_at "u"))
  | ((with_reducible apply ev_chain) <;> (try walk_at "u"))
  | ((with_reducible apply et_testd) <;> (try walk_at "u"))
  | ((with_reducible apply et_B) <;> (try walk_at "u"))
  | ((with_reducible apply et_and) <;> (try walk_at "u"))
  | ((with_reducible apply et_or) <;> (try walk_at "u"))
  | ((with_reducible apply et_not) <;> (try walk_at "u"))
  | ((with_reducible intro h_) <;> (try walk_at "u"))
  | exact len_ok rfl
  | decide)
local macro_rules | `(tactic| walk_at "s") => `(tactic| first
  | with_reducible assumption
  | exact SeqD.l
  | exact SeqD.t
  | exact seqB_l
  | exact seqB_t
  | with_reducible exact ok_encO _
  | with_reducible exact sh_encO _
  | with_reducible rfl
  | ((with_reducible refine Eq.trans ?_ rfl); rfl)
  | assumption
  | decide)
variable {P : Program} {w : World} {K : PySem.W.Frag} {mg : Str → Option Value} {base : Heap}
abbrev encCrT (r : List Cell) : D := .tup (r.map encC)
structure GrdOk (g : Grd) : Prop where
  b : 1 ≤ g.bases ∧ g.bases ≤ 3
  r : 1 ≤ g.rows.length ∧ g.rows.length ≤ 10
  c : ∃ n, 1 ≤ n ∧ n ≤ 10 ∧ ∀ r ∈ g.rows, r.length = n
  x : ∀ r ∈ g.rows, ∀ c ∈ r, CellG g.bases c
def R_check_rows (K : PySem.W.Frag) : RT := fun ds st mu P => ∃ g : Grd, GrdOk g ∧ ds = [nD g.bases, .tup (g.rows.map encCrT)] ∧ st = none ∧ mu = [] ∧ P = Is .non
theorem d_check_rows (T : Tx K mg) (A : At K mg "check_rows" s_check_rows) (D_is_part : Def P w K mg base 1 "is_part" ["thing"] (R_is_part K)) (D_is_cell : Def P w K mg base 4 "is_cell" ["bases", "thing"] (R_is_cell K)) : Def P w K mg base 5 "check_rows" ["bases", "rows"] (R_check_rows K) := by
  obtain ⟨f, fd, F, hm⟩ := A.fn
  refine mk_def F hm (def_ok F sc_check_rows (fun ds st mu PP h => ?_) (by decide) fun cdv A outer s H E hr ds st mu PP h => ?_) fun _ _ _ _ _ _ us hl => match us, hl with | [_, _], _ => rfl
  · obtain ⟨g, _, rfl, _⟩ := h
    rfl
  · obtain ⟨⟨nb, rows⟩, hg, rfl, rfl, rfl, rfl⟩ := h
    obtain ⟨n, hn1, hn2, hn⟩ := hg.c
    have hr1 := hg.r
    have hb := hg.b
    have hx := hg.x
    refine ⟨_, (pss_cons (ps_for PassesOwn.never (by rfl) (k_enum (K := K) (by rfl) (by rfl) T.enumerate (pa_cons (pv 1) pa_nil)) (k_gtup (K := K) (n := 2) (by rfl) (by rfl) (pgs_cons (pg_name (i := 2) sc_check_rows.nd rfl (by first | exact Or.inl rfl | exact Or.inr rfl)) (pgs_cons (pg_name (i := 3) sc_check_rows.nd rfl (by first | exact Or.inl rfl | exact Or.inr rfl)) pgs_nil))) (pss_one (ps_if (PW.pt (pw_or (pt_not (pt_val (pe_callD D_is_part ⟨rfl, rfl, rfl, rfl, rfl⟩ (hr.mono (by decide)) (by rfl) (pa_cons (pv 3) pa_nil)))) (pw_or1 (pt_cmpR op_ne (pe_callB (k_len (K := K) (by rfl)) (by rfl) T.len (by decide +kernel) (pa_cons (pv 3) pa_nil)) (pe_callB (k_len (K := K) (by rfl)) (by rfl) T.len (by decide +kernel) (pa_cons (pe_ix (k_ix (K := K) (by rfl)) (pv 1) pe_int (fun _ _ => rfl)) pa_nil)) (nomark _))))) (pss_one ps_never) pss_nil)))
        (pss_one (ps_for PassesOwn.never (by rfl) (k_enum (K := K) (by rfl) (by rfl) T.enumerate (pa_cons (pv 1) pa_nil)) (k_gtup (K := K) (n := 2) (by rfl) (by rfl) (pgs_cons (pg_name (i := 2) sc_check_rows.nd rfl (by first | exact Or.inl rfl | exact Or.inr rfl)) (pgs_cons (pg_name (i := 3) sc_check_rows.nd rfl (by first | exact Or.inl rfl | exact Or.inr rfl)) pgs_nil))) (pss_one (ps_for PassesOwn.never (by rfl) (k_enum (K := K) (by rfl) (by rfl) T.enumerate (pa_cons (pv 3) pa_nil)) (k_gtup (K := K) (n := 2) (by rfl) (by rfl) (pgs_cons (pg_name (i := 4) sc_check_rows.nd rfl (by first | exact Or.inl rfl | exact Or.inr rfl)) (pgs_cons (pg_name (i := 5) sc_check_rows.nd rfl (by first | exact Or.inl rfl | exact Or.inr rfl)) pgs_nil))) (pss_one (ps_if (pt_not (pt_val (pe_callD D_is_cell ⟨rfl, rfl, rfl, rfl, rfl⟩ (hr.mono (by decide)) (by rfl) (pa_cons (pv 0) (pa_cons (pv 5) pa_nil))))) (pss_one ps_never) pss_nil))))))), ?_⟩
    (try dsimp only [cxOf, Cx.nox, Cx.wish])
    have r0 : atI (rows.map encCrT) (0 : Int) = some (encCrT (rows.getD 0 [])) := by
      have := hr1.1
      rw [show (0 : Int) = ((0 : Nat) : Int) from rfl, atI_natE, List.getElem?_map]
      simp [List.getD, show 0 < rows.length from hr1.1]
    have hl0 : (rows.getD 0 []).length = n := by
      rw [show rows.getD 0 [] = rows[0]'hr1.1 by simp [List.getD, show 0 < rows.length from hr1.1]]
      exact hn _ (List.getElem_mem _)
    refine sj_seq (sj_fore rows encCrT true (ea_cons (ev_var rfl) ea_nil) seqB_t (fun i Γ own => ∃ x2 x3 : Option D, Γ = [some (nD nb), some (.tup (rows.map encCrT)), x2, x3, none, none] ∧ own = []) ⟨none, none, rfl, rfl⟩ ?_ ?_)
    · rintro i r Γ' own' hri ⟨x2, x3, rfl, rfl⟩
      have hrl : r.length = n := hn r (List.mem_of_getElem? hri)
      refine sj_ifd (b := false) (ET.is (et_or (a := false) (b := false) (ET.is (et_not (et_testd (ev_call (ea_cons (ev_var rfl) ea_nil) (r_is_part (xs := r.map encC) (by simp; omega) (by simp; omega))))) rfl) fun _ => et_testd (EV.is (ev_opd (ev_cbd (ea_cons (ev_var rfl) ea_nil) (rc_len SeqD.t)) (ev_cbd (ea_cons (ev_opd (ev_var rfl) ev_c (ro_ix SeqD.t r0)) ea_nil) (rc_len SeqD.t)) (ro_ne rfl)) (by simp only [List.length_map]; rw [hrl, hl0]; simp))) rfl) (fun e => by cases e) fun _ => sj_next ⟨_, _, rfl, rfl⟩
    · rintro Γ' own' ⟨x2, x3, rfl, rfl⟩
      refine sj_fore rows encCrT true (ea_cons (ev_var rfl) ea_nil) seqB_t (fun i Γ own => ∃ x2 x3 x4 x5 : Option D, Γ = [some (nD nb), some (.tup (rows.map encCrT)), x2, x3, x4, x5] ∧ own = []) ⟨x2, x3, none, none, rfl, rfl⟩ ?_ ?_
      · rintro i r Γ' own' hri ⟨x2, x3, x4, x5, rfl, rfl⟩
        refine sj_fore r encC true (ea_cons (ev_var rfl) ea_nil) seqB_t (fun j Γ own => ∃ x4 x5 : Option D, Γ = [some (nD nb), some (.tup (rows.map encCrT)), some (nD i), some (encCrT r), x4, x5] ∧ own = []) ⟨x4, x5, rfl, rfl⟩ ?_ ?_
        · rintro j c Γ' own' hcj ⟨x4, x5, rfl, rfl⟩
          exact sj_ifd (b := false) (ET.is (et_not (et_testd (ev_call (ea_cons (ev_var rfl) (ea_cons (ev_var rfl) ea_nil)) (r_is_cell (by have := hb.2; simp only at this; omega) (hx r (List.mem_of_getElem? hri) c (List.mem_of_getElem? hcj)))))) rfl) (fun e => by cases e) fun _ => sj_next ⟨_, _, rfl, rfl⟩
        · rintro Γ' own' ⟨x4, x5, rfl, rfl⟩
          exact ⟨_, _, _, _, rfl, rfl⟩
      · rintro Γ' own' _
        rfl
theorem r_check_rows {g : Grd} (h : GrdOk g) : R_check_rows K [nD g.bases, .tup (g.rows.map encCrT)] none [] (Is .non) := ⟨g, h, rfl, rfl, rfl, rfl⟩
/-! ### reached_by: only that it is a square of truth values -/
def SqBP (n : Nat) : D → Prop := fun d => ∃ M : BM, SqB n M ∧ d = encBM M
def R_reached_by (K : PySem.W.Frag) : RT := fun ds st mu P => ∃ (n : Nat) (M : BM), n ≤ 100 ∧ SqB n M ∧ ds = [encBM M] ∧ st = none ∧ mu = [] ∧ P = SqBP n
theorem d_reached_by (T : Tx K mg) (A : At K mg "reached_by" s_reached_by)  : Def P w K mg base 1 "reached_by" ["rows"] (R_reached_by K) := by
  obtain ⟨f, fd, F, hm⟩ := A.fn
  refine mk_def F hm (def_ok F sc_reached_by (fun ds st mu PP h => ?_) (by decide) fun cdv A outer s H E hr ds st mu PP h => ?_) fun _ _ _ _ _ _ us hl => match us, hl with | [_], _ => rfl
  · obtain ⟨n, M, _, _, rfl, _⟩ := h
    rfl
  · obtain ⟨n, M, hn, hq, rfl, rfl, rfl, rfl⟩ := h
    have hM := hq.1
    refine ⟨_, (pss_cons (ps_set (i := 1) sc_reached_by.nd rfl (Or.inl rfl) (pe_callB (k_len (K := K) (by rfl)) (by rfl) T.len (by decide +kernel) (pa_cons (pv 0) pa_nil)))
        (pss_cons (ps_setLc (i := 2) (own := [("row", 6)]) (by rfl) sc_reached_by.nd rfl rfl (sw_true rfl rfl rfl (by decide +kernel)) (k_seq (K := K) (by rfl) (pv 0)) (blkOk_by (by kernel_rfl)) (fun _ _ _ _ _ => (pg_name (i := 6) sc_reached_by.nd rfl (by first | exact Or.inl rfl | exact Or.inr rfl))) (fun _ _ _ _ _ => pts_nil) (fun _ _ _ _ _ => (pe_callTy (k_list (K := K) (by rfl)) (by rfl) T.list (by decide +kernel) (pa_cons (pv 6) pa_nil))))
        (pss_cons (ps_for PassesOwn.never (by rfl) (pi_range1 (by rfl) T.range (pa_cons (pv 1) pa_nil)) (pg_name (i := 3) sc_reached_by.nd rfl (by first | exact Or.inl rfl | exact Or.inr rfl)) (pss_one (ps_for PassesOwn.never (by rfl) (pi_range1 (by rfl) T.range (pa_cons (pv 1) pa_nil)) (pg_name (i := 4) sc_reached_by.nd rfl (by first | exact Or.inl rfl | exact Or.inr rfl)) (pss_one (ps_if (pt_val (pe_ix (k_ix (K := K) (by rfl)) (pe_ix (k_ix (K := K) (by rfl)) (pv 2) (pv 4) (fun _ _ => rfl)) (pv 3) (fun _ _ => rfl))) (pss_one (ps_for PassesOwn.never (by rfl) (pi_range1 (by rfl) T.range (pa_cons (pv 1) pa_nil)) (pg_name (i := 5) sc_reached_by.nd rfl (by first | exact Or.inl rfl | exact Or.inr rfl)) (pss_one (ps_asg (pe_or (pe_ix (k_ix (K := K) (by rfl)) (pe_ix (k_ix (K := K) (by rfl)) (pv 2) (pv 4) (fun _ _ => rfl)) (pv 5) (fun _ _ => rfl)) (pe_one (pe_ix (k_ix (K := K) (by rfl)) (pe_ix (k_ix (K := K) (by rfl)) (pv 2) (pv 3) (fun _ _ => rfl)) (pv 5) (fun _ _ => rfl)))) (pg_sub (pe_ix (k_ix (K := K) (by rfl)) (pv 2) (pv 4) (fun _ _ => rfl)) (pv 5) set_list))))) pss_nil)))))
        (pss_one (ps_ret (pv 2)))))), ?_⟩
    (try dsimp only [cxOf, Cx.nox, Cx.wish])
    refine sj_seq (sj_setd (d := nD n) (EV.is (ev_cbd (ea_cons (ev_var rfl) ea_nil) (rc_len SeqD.l)) (by simp [hM])) ?_)
    refine sj_seq (sj_setM (evm_lct M (fun r => .lst (encBr r)) encBr false (ev_var rfl) seqB_l (by simp) (by omega) fun i r hi => evf_list (ea_cons (ev_var rfl) ea_nil) SeqD.l) ?_)
    rintro _ a ls rfl hls
    have hl : ls.length = n := by rw [hls]; simp [hM]
    have eL : ∀ (G0 : G) (own : Mu), G0[1]? = some (some (nD n)) → EA K none ([] ++ own) (tCons (tVar 1) tNil) G0 (Is [.int (n : Int)]) := fun G0 own h0 => ea_cons (ev_var h0) ea_nil
    refine sj_seq (sj_forr (n := n) (eL _ _ rfl) (by omega) (fun k Γ own => ∃ (x3 x4 x5 : Option D) (M1 : BM), Γ = [some (encBM M), some (nD n), some (.raw (.ref a)), x3, x4, x5, none] ∧ own = own_ a ls M1 ∧ SqB n M1) ⟨none, none, none, M, rfl, rfl, hq⟩ ?_ ?_)
    · rintro k Γ' own' hk ⟨x3, x4, x5, M1, rfl, rfl, q1⟩
      refine sj_forr (n := n) (eL _ _ rfl) (by omega) (fun i Γ own => ∃ (x4 x5 : Option D) (M1 : BM), Γ = [some (encBM M), some (nD n), some (.raw (.ref a)), some (nD k), x4, x5, none] ∧ own = own_ a ls M1 ∧ SqB n M1) ⟨x4, x5, M1, rfl, rfl, q1⟩ ?_ ?_
      · rintro i Γ' own' hi ⟨x4, x5, M2, rfl, rfl, q2⟩
        have hlM : ls.length = M2.length := by rw [hl, q2.1]
        refine sj_ifd (b := bat M2 i k) (et_testd (ev_bc hlM (ev_var rfl) (ev_var rfl) (ev_var rfl) (by rw [q2.1]; exact hi) (by rw [q2.row hi]; exact hk))) (fun _ => ?_) fun _ => sj_next ⟨_, _, M2, rfl, rfl, q2⟩
        refine sj_forr (n := n) (eL _ _ rfl) (by omega) (fun j Γ own => ∃ (x5 : Option D) (M1 : BM), Γ = [some (encBM M), some (nD n), some (.raw (.ref a)), some (nD k), some (nD i), x5, none] ∧ own = own_ a ls M1 ∧ SqB n M1) ⟨x5, M2, rfl, rfl, q2⟩ ?_ ?_
        · rintro j Γ' own' hj ⟨x5, M3, rfl, rfl, q3⟩
          have hlM : ls.length = M3.length := by rw [hl, q3.1]
          refine sj_bset (i := i) (j := j) (b := bat M3 i j || bat M3 k j) hlM ?_ (ev_var rfl) (ev_var rfl) (ev_var rfl) (by rw [q3.1]; exact hi) (by rw [q3.row hi]; exact hj) ⟨_, bset M3 i j (bat M3 i j || bat M3 k j), rfl, rfl, q3.set hi⟩
          exact ev_or2 (ev_bc hlM (ev_var rfl) (ev_var rfl) (ev_var rfl) (by rw [q3.1]; exact hi) (by rw [q3.row hi]; exact hj)) fun _ => ev_bc hlM (ev_var rfl) (ev_var rfl) (ev_var rfl) (by rw [q3.1]; exact hk) (by rw [q3.row hk]; exact hj)
        · rintro Γ' own' ⟨x5, M3, rfl, rfl, q3⟩
          exact ⟨_, _, M3, rfl, rfl, q3⟩
      · rintro Γ' own' ⟨x4, x5, M2, rfl, rfl, q2⟩
        exact ⟨_, _, _, M2, rfl, rfl, q2⟩
    · rintro Γ' own' ⟨x3, x4, x5, M1, rfl, rfl, q1⟩
      refine sj_frzM (i := 2) (by simp [hl, q1.1]) rfl (sj_ret (EV.imp (ev_var rfl) fun d e => ⟨M1, q1, ?_⟩))
      rw [e]
      unfold encBM
      rw [List.map_map]
      rfl
theorem r_reached_by {n : Nat} {M : BM} (hn : n ≤ 100) (h : SqB n M) : R_reached_by K [encBM M] none [] (SqBP n) := ⟨n, M, hn, h, rfl, rfl, rfl, rfl⟩
end U
set_option maxHeartbeats 4000000
/-! H3: shape_made. -/
namespace U
open PySem PyProof.Rows L2 Evl RZ
local macro_rules | `(tactic| walk_at "u") => `(tactic| first
  | ((with_reducible apply ev_cT) <;> assumption)
  | with_reducible apply ev_c
  | ((with_reducible apply ev_var); rfl)
  | with_reducible apply ea_nil
  | ((with_reducible apply ea_cons) <;> (try walk_at "u"))
  | ((with_reducible apply ev_opd) <;> (try walk_at "u"))
  | with_reducible apply ro_I0
  | ((with_reducible apply ro_I) <;> (try walk_at "s"))
  | ((with_reducible apply ro_ix) <;> (try walk_at "s"))
  | ((with_reducible apply ro_eq); rfl)
  | ((with_reducible apply ro_ne); rfl)
  | ((with_reducible apply ev_un) <;> (try walk_at "u"))
  | ((with_reducible apply ev_tup) <;> (try walk_at "u"))
  | ((with_reducible apply ev_lst) <;> (try walk_at "u"))
  | ((with_reducible apply ev_cbd) <;> (try walk_at "u"))
  | ((with_reducible apply rc_len) <;> (try walk_at "s"))
  | with_reducible apply rc_abs
  | with_reducible apply rc_int
  | with_reducible apply rc_intb
  | ((with_reducible apply rc_list) <;> (try walk_at "s"))
  | ((with_reducible apply rc_tup) <;> (try walk_at "s"))
  | ((with_reducible apply rc_isi) <;> (try walk_at "s"))
  | ((with_reducible apply ev_call) <;> (try walk_at "u"))
  | ((with_reducible apply ev_and2) <;> (try walk_at "u"))
  | ((with_reducible apply ev_or2) <;> (try walk_at "u"))
  | ((with_reducible apply ev_notV) <;> (try walk_at "u"))
  | ((with_reducible apply ev_chain) <;> (try walk_at "u"))
  | ((with_reducible apply et_testd) <;> (try walk_at "u"))
  | ((with_reducible apply et_B) <;> (try walk_at "u"))
  | ((with_reducible apply et_and) <;> (try walk_at "u"))
  | ((with_reducible apply et_or) <;> (try walk_at "u"))
  | ((with_reducible apply et_not) <;> (try walk_at "u"))
  | ((with_reducible intro h_) <;> (try walk_at "u"))
  | exact len_ok rfl
  | decide)
local macro_rules | `(tactic| walk_at "s") => `(tactic| first
  | with_reducible assumption
  | exact SeqD.l
  | exact SeqD.t
  | exact seqB_l
  | exact seqB_t
  | with_reducible exact ok_encO _
  | with_reducible exact sh_encO _
  | with_reducible rfl
  | ((with_reducible refine Eq.trans ?_ rfl); rfl)
  | assumption
  | decide)
variable {P : Program} {w : World} {K : PySem.W.Frag} {mg : Str → Option Value} {base : Heap}
local macro_rules | `(tactic| walk_at "s") => `(tactic| first | exact seqD_mk _ _ | (apply at_shp; assumption) | exact at_head)
def R_shape_made (K : PySem.W.Frag) : RT := fun ds st mu P => ∃ (s : Stp) (sh : List Shp), fitS s sh ∧ ds = [encS s, .lst ((parts s).map fun a => encSh (shp sh a))] ∧ st = none ∧ mu = [] ∧ P = Is (encSo (shapeOf s sh))
theorem d_shape_made (T : Tx K mg) (A : At K mg "shape_made" s_shape_made)  : Def P w K mg base 1 "shape_made" ["step", "shapes"] (R_shape_made K) := by
  obtain ⟨f, fd, F, hm⟩ := A.fn
  refine mk_def F hm (def_ok F sc_shape_made (fun ds st mu PP h => ?_) (by decide) fun cdv A outer s H E hr ds st mu PP h => ?_) fun _ _ _ _ _ _ us hl => match us, hl with | [_, _], _ => rfl
  · obtain ⟨s, sh, _, rfl, _⟩ := h
    rfl
  · obtain ⟨st, sh, hf, rfl, rfl, rfl, rfl⟩ := h
    refine ⟨_, (pss_cons (ps_set (i := 2) sc_shape_made.nd rfl (Or.inl rfl) (pe_ix (k_ix (K := K) (by rfl)) (pv 0) pe_int (fun _ _ => rfl)))
        (pss_cons (ps_asg (pe_ix (k_ix (K := K) (by rfl)) (pv 1) pe_int (fun _ _ => rfl)) (k_gtup (K := K) (n := 2) (by rfl) (by rfl) (pgs_cons (pg_name (i := 3) sc_shape_made.nd rfl (by first | exact Or.inl rfl | exact Or.inr rfl)) (pgs_cons (pg_name (i := 4) sc_shape_made.nd rfl (by first | exact Or.inl rfl | exact Or.inr rfl)) pgs_nil))))
        (pss_cons (ps_if (pt_cmpR op_eq (pv 2) pe_str (nomark _)) (pss_one (ps_ret (pe_ifExp (pt_cmpR (k_eqD (K := K) (by rfl) hr.units) (pe_ix (k_ix (K := K) (by rfl)) (pv 1) pe_int (fun _ _ => rfl)) (pe_ix (k_ix (K := K) (by rfl)) (pv 1) pe_int (fun _ _ => rfl)) (nomark _)) (pe_ix (k_ix (K := K) (by rfl)) (pv 1) pe_int (fun _ _ => rfl)) pe_non))) pss_nil)
        (pss_cons (ps_if (pt_cmpR op_eq (pv 2) pe_str (nomark _)) (pss_one (ps_ret (pe_ifExp (pt_cmpR op_eq (pv 4) (pe_ix (k_ix (K := K) (by rfl)) (pe_ix (k_ix (K := K) (by rfl)) (pv 1) pe_int (fun _ _ => rfl)) pe_int (fun _ _ => rfl)) (nomark _)) (pe_tup (pa_cons (pv 3) (pa_cons (pe_ix (k_ix (K := K) (by rfl)) (pe_ix (k_ix (K := K) (by rfl)) (pv 1) pe_int (fun _ _ => rfl)) pe_int (fun _ _ => rfl)) pa_nil))) pe_non))) pss_nil)
        (pss_cons (ps_if (pt_cmpR op_eq (pv 2) pe_str (nomark _)) (pss_one (ps_ret (pe_tup (pa_cons (pv 4) (pa_cons (pv 3) pa_nil))))) pss_nil)
        (pss_cons (ps_if (pt_cmpR op_eq (pv 2) pe_str (nomark _)) (pss_one (ps_ret (pe_ifExp (pt_cmpR op_eq (pv 3) (pe_ix (k_ix (K := K) (by rfl)) (pe_ix (k_ix (K := K) (by rfl)) (pv 1) pe_int (fun _ _ => rfl)) pe_int (fun _ _ => rfl)) (nomark _)) (pe_tup (pa_cons (pv 3) (pa_cons (pe_op op_add (pv 4) (pe_ix (k_ix (K := K) (by rfl)) (pe_ix (k_ix (K := K) (by rfl)) (pv 1) pe_int (fun _ _ => rfl)) pe_int (fun _ _ => rfl))) pa_nil))) pe_non))) pss_nil)
        (pss_cons (ps_if (pt_cmpR op_eq (pv 2) pe_str (nomark _)) (pss_one (ps_ret (pe_ifExp (pt_cmpR op_eq (pv 4) (pe_ix (k_ix (K := K) (by rfl)) (pe_ix (k_ix (K := K) (by rfl)) (pv 1) pe_int (fun _ _ => rfl)) pe_int (fun _ _ => rfl)) (nomark _)) (pe_tup (pa_cons (pe_op op_add (pv 3) (pe_ix (k_ix (K := K) (by rfl)) (pe_ix (k_ix (K := K) (by rfl)) (pv 1) pe_int (fun _ _ => rfl)) pe_int (fun _ _ => rfl))) (pa_cons (pv 4) pa_nil))) pe_non))) pss_nil)
        (pss_cons (ps_if (pt_cmpR op_eq (pv 2) pe_str (nomark _)) (pss_one (ps_ret (pe_ifExp (pt_cmpR op_eq (pv 3) (pv 4) (nomark _)) (pe_ix (k_ix (K := K) (by rfl)) (pv 1) pe_int (fun _ _ => rfl)) pe_non))) pss_nil)
        (pss_cons (ps_asg (pe_slice (k_sl (K := K) (by rfl)) (pv 0) (po_some pe_int) po_none) (k_gtup (K := K) (n := 4) (by rfl) (by rfl) (pgs_cons (pg_name (i := 5) sc_shape_made.nd rfl (by first | exact Or.inl rfl | exact Or.inr rfl)) (pgs_cons (pg_name (i := 6) sc_shape_made.nd rfl (by first | exact Or.inl rfl | exact Or.inr rfl)) (pgs_cons (pg_name (i := 7) sc_shape_made.nd rfl (by first | exact Or.inl rfl | exact Or.inr rfl)) (pgs_cons (pg_name (i := 8) sc_shape_made.nd rfl (by first | exact Or.inl rfl | exact Or.inr rfl)) pgs_nil))))))
        (pss_cons (ps_if (PW.pt (pw_or (pt_cmpR op_lt (pv 7) pe_int (nomark _)) (pw_or (pt_cmpR op_lt (pv 8) pe_int (nomark _)) (pw_or (pt_cmpR op_gt (pe_op op_add (pv 5) (pv 7)) (pv 3) (nomark _)) (pw_or1 (pt_cmpR op_gt (pe_op op_add (pv 6) (pv 8)) (pv 4) (nomark _))))))) (pss_one (ps_ret pe_non)) pss_nil)
        (pss_one (ps_ret (pe_tup (pa_cons (pv 7) (pa_cons (pv 8) pa_nil))))))))))))))), ?_⟩
    (try dsimp only [cxOf, Cx.nox, Cx.wish])
    have no : ∀ {c : Cn} {G0 : G} {tt : TT} {t : TS} {NX : G → Mu → Prop}, ET c.K c.st (c.bor ++ []) tt G0 (Is false) → NX G0 [] → SJ c (tIfS tt t tNext) G0 [] NX := fun h k => sj_ifd (b := false) h (fun e => by cases e) fun _ => sj_next k
    have one : ∀ {x : D} {xs : List D} {y : D}, atI (x :: y :: xs) (1 : Int) = some y := fun {x xs y} => by
      rw [show (1 : Int) = ((1 : Nat) : Int) from rfl, atI_natE]
      rfl
    cases st with
    | plus a b =>
      refine sj_seq (sj_setd (by walk_at "u") ?_)
      refine sj_seq (sj_un2 (EV.imp (P := Is (encSh (shp sh a))) (by walk_at "u") fun d e => ⟨_, _, e, ?_⟩))
      refine sj_seq (sj_ifd (b := true) (ET.is (by walk_at "u") (by decide +kernel)) (fun _ => sj_ret (ev_if (b := decide (shp sh a = shp sh b)) (et_testd (ev_opd (ev_opd (ev_var rfl) ev_c (ro_ix SeqD.l at_head)) (ev_opd (ev_var rfl) ev_c (ro_ix SeqD.l one)) (ro_eqD (x := encSh (shp sh a)) (y := encSh (shp sh b)) rfl rfl rfl rfl (eqv_sh _ _)))) (fun e => ?_) fun e => ?_)) fun e => by cases e)
      · have e' := of_decide_eq_true e
        refine EV.is (ev_opd (ev_var rfl) ev_c (ro_ix SeqD.l at_head)) ?_
        simp only [shapeOf, if_pos e', encSo]
        try rfl
      · have e' := of_decide_eq_false e
        refine EV.is (by walk_at "u") ?_
        simp only [shapeOf, if_neg e', encSo]
    | times a b =>
      refine sj_seq (sj_setd (by walk_at "u") ?_)
      refine sj_seq (sj_un2 (EV.imp (P := Is (encSh (shp sh a))) (by walk_at "u") fun d e => ⟨_, _, e, ?_⟩))
      refine sj_seq (no (ET.is (by walk_at "u") (by decide +kernel)) ?_)
      refine sj_seq (sj_ifd (b := true) (ET.is (by walk_at "u") (by decide +kernel)) (fun _ => sj_ret (ev_if (b := decide ((shp sh a).2 = (shp sh b).1)) (ET.is (et_testd (ev_opd (ev_var rfl) (ev_opd (ev_opd (ev_var rfl) ev_c (ro_ix SeqD.l one)) ev_c (ro_ix SeqD.t at_head)) (ro_eq rfl))) (by rw [int_eq])) (fun e => ?_) fun e => ?_)) fun e => by cases e)
      · have e' := of_decide_eq_true e
        refine EV.is (ev_tup (ea_cons (ev_var rfl) (ea_cons (ev_opd (ev_opd (ev_var rfl) ev_c (ro_ix SeqD.l one)) ev_c (ro_ix SeqD.t one)) ea_nil)) (len_ok rfl)) ?_
        simp only [shapeOf, if_pos e', encSo]
        try rfl
      · have e' := of_decide_eq_false e
        refine EV.is (by walk_at "u") ?_
        simp only [shapeOf, if_neg e', encSo]
    | turned a =>
      refine sj_seq (sj_setd (by walk_at "u") ?_)
      refine sj_seq (sj_un2 (EV.imp (P := Is (encSh (shp sh a))) (by walk_at "u") fun d e => ⟨_, _, e, ?_⟩))
      refine sj_seq (no (ET.is (by walk_at "u") (by decide +kernel)) ?_)
      refine sj_seq (no (ET.is (by walk_at "u") (by decide +kernel)) ?_)
      refine sj_seq (sj_ifd (b := true) (ET.is (by walk_at "u") (by decide +kernel)) (fun _ => sj_ret (EV.is (by walk_at "u") ?_)) fun e => by cases e)
      rfl
    | beside a b =>
      refine sj_seq (sj_setd (by walk_at "u") ?_)
      refine sj_seq (sj_un2 (EV.imp (P := Is (encSh (shp sh a))) (by walk_at "u") fun d e => ⟨_, _, e, ?_⟩))
      refine sj_seq (no (ET.is (by walk_at "u") (by decide +kernel)) ?_)
      refine sj_seq (no (ET.is (by walk_at "u") (by decide +kernel)) ?_)
      refine sj_seq (no (ET.is (by walk_at "u") (by decide +kernel)) ?_)
      refine sj_seq (sj_ifd (b := true) (ET.is (by walk_at "u") (by decide +kernel)) (fun _ => sj_ret (ev_if (b := decide ((shp sh a).1 = (shp sh b).1)) (ET.is (et_testd (ev_opd (ev_var rfl) (ev_opd (ev_opd (ev_var rfl) ev_c (ro_ix SeqD.l one)) ev_c (ro_ix SeqD.t at_head)) (ro_eq rfl))) (by rw [int_eq])) (fun e => ?_) fun e => ?_)) fun e => by cases e)
      · have e' := of_decide_eq_true e
        refine EV.is (ev_tup (ea_cons (ev_var rfl) (ea_cons (ev_opd (ev_var rfl) (ev_opd (ev_opd (ev_var rfl) ev_c (ro_ix SeqD.l one)) ev_c (ro_ix SeqD.t one)) ro_I0) ea_nil)) (len_ok rfl)) ?_
        simp only [shapeOf, if_pos e', encSo]
        try rfl
      · have e' := of_decide_eq_false e
        refine EV.is (by walk_at "u") ?_
        simp only [shapeOf, if_neg e', encSo]
    | above a b =>
      refine sj_seq (sj_setd (by walk_at "u") ?_)
      refine sj_seq (sj_un2 (EV.imp (P := Is (encSh (shp sh a))) (by walk_at "u") fun d e => ⟨_, _, e, ?_⟩))
      refine sj_seq (no (ET.is (by walk_at "u") (by decide +kernel)) ?_)
      refine sj_seq (no (ET.is (by walk_at "u") (by decide +kernel)) ?_)
      refine sj_seq (no (ET.is (by walk_at "u") (by decide +kernel)) ?_)
      refine sj_seq (no (ET.is (by walk_at "u") (by decide +kernel)) ?_)
      refine sj_seq (sj_ifd (b := true) (ET.is (by walk_at "u") (by decide +kernel)) (fun _ => sj_ret (ev_if (b := decide ((shp sh a).2 = (shp sh b).2)) (ET.is (et_testd (ev_opd (ev_var rfl) (ev_opd (ev_opd (ev_var rfl) ev_c (ro_ix SeqD.l one)) ev_c (ro_ix SeqD.t one)) (ro_eq rfl))) (by rw [int_eq])) (fun e => ?_) fun e => ?_)) fun e => by cases e)
      · have e' := of_decide_eq_true e
        refine EV.is (ev_tup (ea_cons (ev_opd (ev_var rfl) (ev_opd (ev_opd (ev_var rfl) ev_c (ro_ix SeqD.l one)) ev_c (ro_ix SeqD.t at_head)) ro_I0) (ea_cons (ev_var rfl) ea_nil)) (len_ok rfl)) ?_
        simp only [shapeOf, if_pos e', encSo]
        try rfl
      · have e' := of_decide_eq_false e
        refine EV.is (by walk_at "u") ?_
        simp only [shapeOf, if_neg e', encSo]
    | star a =>
      refine sj_seq (sj_setd (by walk_at "u") ?_)
      refine sj_seq (sj_un2 (EV.imp (P := Is (encSh (shp sh a))) (by walk_at "u") fun d e => ⟨_, _, e, ?_⟩))
      refine sj_seq (no (ET.is (by walk_at "u") (by decide +kernel)) ?_)
      refine sj_seq (no (ET.is (by walk_at "u") (by decide +kernel)) ?_)
      refine sj_seq (no (ET.is (by walk_at "u") (by decide +kernel)) ?_)
      refine sj_seq (no (ET.is (by walk_at "u") (by decide +kernel)) ?_)
      refine sj_seq (no (ET.is (by walk_at "u") (by decide +kernel)) ?_)
      refine sj_seq (sj_ifd (b := true) (ET.is (by walk_at "u") (by decide +kernel)) (fun _ => sj_ret (ev_if (b := decide ((shp sh a).1 = (shp sh a).2)) (ET.is (et_testd (ev_opd (ev_var rfl) (ev_var rfl) (ro_eq rfl))) (by rw [int_eq])) (fun e => ?_) fun e => ?_)) fun e => by cases e)
      · have e' := of_decide_eq_true e
        refine EV.is (ev_opd (ev_var rfl) ev_c (ro_ix SeqD.l at_head)) ?_
        simp only [shapeOf, if_pos e', encSo]
        try rfl
      · have e' := of_decide_eq_false e
        refine EV.is (by walk_at "u") ?_
        simp only [shapeOf, if_neg e', encSo]
    | piece a i j r c =>
      refine sj_seq (sj_setd (by walk_at "u") ?_)
      refine sj_seq (sj_un2 (EV.imp (P := Is (encSh (shp sh a))) (by walk_at "u") fun d e => ⟨_, _, e, ?_⟩))
      refine sj_seq (no (ET.is (by walk_at "u") (by decide +kernel)) ?_)
      refine sj_seq (no (ET.is (by walk_at "u") (by decide +kernel)) ?_)
      refine sj_seq (no (ET.is (by walk_at "u") (by decide +kernel)) ?_)
      refine sj_seq (no (ET.is (by walk_at "u") (by decide +kernel)) ?_)
      refine sj_seq (no (ET.is (by walk_at "u") (by decide +kernel)) ?_)
      refine sj_seq (no (ET.is (by walk_at "u") (by decide +kernel)) ?_)
      obtain ⟨h1, h2, h3, h4⟩ := hf
      refine sj_seq (sj_un4 (EV.imp (P := Is (.tup [nD i, nD j, nD r, nD c])) (EV.is (ev_sl1 (k := 2) (ev_var rfl) ev_c (by decide) (by simp)) rfl) fun d e => ⟨_, _, _, _, e, ?_⟩))
      refine sj_seq (no (ET.is (et_or (a := false) (b := false) (et_testd (EV.is (ev_opd (ev_var rfl) ev_c ro_I0) (by simp; omega))) fun _ => ET.is (et_or (a := false) (b := false) (et_testd (EV.is (ev_opd (ev_var rfl) ev_c ro_I0) (by simp; omega))) fun _ => ET.is (et_or (a := false) (b := false) (et_testd (EV.is (ev_opd (ev_opd (ev_var rfl) (ev_var rfl) ro_I0) (ev_var rfl) ro_I0) (by simp; omega))) fun _ => et_testd (EV.is (ev_opd (ev_opd (ev_var rfl) (ev_var rfl) ro_I0) (ev_var rfl) ro_I0) (by simp; omega))) rfl) rfl) rfl) ?_)
      exact sj_ret (EV.is (ev_tup (ea_cons (ev_var rfl) (ea_cons (ev_var rfl) ea_nil)) (len_ok rfl)) rfl)
theorem r_shape_made {s : Stp} {sh : List Shp} (h : fitS s sh) : R_shape_made K [encS s, .lst ((parts s).map fun a => encSh (shp sh a))] none [] (Is (encSo (shapeOf s sh))) := ⟨s, sh, h, rfl, rfl, rfl, rfl⟩
end U
set_option maxHeartbeats 4000000
/-! U10: instances under construction; statements that change what the state is. -/
namespace U
open PySem PyProof.Rows L2 Evl RZ
theorem EVF.is {K : PySem.W.Frag} {st : Stt} {mu : Mu} {te : TE} {Γ : G} {ds es : List D} (h : EVF K st mu te Γ (Is ds)) (k : ds = es) : EVF K st mu te Γ (Is es) := k ▸ h
/-- a text after which one may stand elsewhere (another state); PR: what may be returned -/
def IJ (PR : V → Prop) (c : Cn) (t : TS) (Γ : G) (own : Mu) (FIN : Cn → G → Mu → Prop) : Prop := ∀ (B0 B H0 : Hp) (σ : L2.St) (H : Hp), Wd c B0 B H0 Γ own σ H → ∀ D : Ends,
  (∀ c' Γ' own' H1 σ' H', FIN c' Γ' own' → Wd c' B0 B H1 Γ' own' σ' H' → D.nx σ' H') → (∀ v H', PR v → D.rt v H') → t D σ H
section
variable {PR : V → Prop} {c : Cn} {t u : TS} {te tv : TE} {Γ : G} {own : Mu} {NX : G → Mu → Prop} {FIN : Cn → G → Mu → Prop}
theorem ij_of (h : SJ c t Γ own NX) (hc : ∀ Γ own, ¬ c.ct Γ own) (hb : ∀ Γ own, ¬ c.bk Γ own) (hr : ∀ (H : Hp) v d, c.P d → Rp c.K H v d → PR v) (k : ∀ Γ' own', NX Γ' own' → FIN c Γ' own') : IJ PR c t Γ own FIN := fun B0 B H0 σ H w D nx rt =>
  h B0 B H0 σ H w D (fun Γ' own' H1 σ' H' q w' => nx c Γ' own' H1 σ' H' (k _ _ q) w') (fun _ _ _ _ _ q => absurd q (hc _ _)) (fun _ _ _ _ _ q => absurd q (hb _ _)) fun v d own' H1 H' _ _ p _ _ r => rt v H' (hr H1 v d p r)
theorem ij_seq (h : IJ PR c t Γ own fun c' Γ' own' => IJ PR c' u Γ' own' FIN) : IJ PR c (tSeq t u) Γ own FIN := fun B0 B H0 σ H w D nx rt =>
  h B0 B H0 σ H w { D with nx := u D } (fun c' Γ' own' H1 σ' H' q w' => q B0 B H1 σ' H' w' D nx rt) rt
end
section
variable {K : PySem.W.Frag} {mu : Mu} {Γ : G} {te : TE} {x C dx : Addr} {fvs : List (Str × V)} {ok : Hp → Prop} {mo : ∀ H H' : Hp, Ex H H' → ok H → ok H'}
/-- o.f of the instance under construction -/
theorem ev_fldS {f : Str} {v : V} {d : D} (h : EV K (some (.self x C dx fvs ok mo)) mu te Γ (Is (.raw (.ref x)))) (hc : Cls K C) (hn : NoAttr K C f) (hl : fvs.lookup f = some v) (hd : ∀ H, ok H → Rp K H v d) : EV K (some (.self x C dx fvs ok mo)) mu (tFld K te f) Γ (Is d) := fun σ H0 H i s m n Q q =>
  h σ H0 H i s m n _ fun v' x' H1 H2 g s1 e r => by
    subst e
    cases r
    exact ⟨x, C, dx, fvs, v, rfl, s1.1.2, hc, hn, hl, q v d H1 H2 g s1 rfl (hd H1 s1.2)⟩
end
section
variable {PR : V → Prop} {c : Cn} {tv : TE} {Γ : G} {own : Mu} {FIN : Cn → G → Mu → Prop} {x C dx : Addr} {fvs : List (Str × V)} {ok : Hp → Prop} {mo : ∀ H H' : Hp, Ex H H' → ok H → ok H'} {i : Nat} {f : Str}
theorem and_mo {ok : Hp → Prop} (mo : ∀ H H' : Hp, Ex H H' → ok H → ok H') {K : PySem.W.Frag} {y : V} {d : D} : ∀ H H' : Hp, Ex H H' → (ok H ∧ Rp K H y d) → (ok H' ∧ Rp K H' y d) := fun H H' e h => ⟨mo H H' e h.1, h.2.mono e⟩
theorem Wd.store {B0 B H0 H : Hp} {σ : L2.St} (w : Wd c B0 B H0 Γ own σ H) (hs : c.st = some (.self x C dx fvs ok mo)) {fvs' : List (Str × V)} {ok' : Hp → Prop} {mo' : ∀ H H' : Hp, Ex H H' → ok' H → ok' H'} (h' : ok' H0) :
    Wd { c with st := some (.self x C dx fvs' ok' mo') } B0 B H0 Γ own σ (upd H x (.ins C dx fvs')) := by
  obtain ⟨K, st, bor, P, ct, bk, W⟩ := c
  have e : st = some (.self x C dx fvs ok mo) := hs
  subst e
  have ws : (H0 x = none ∧ H x = some (.ins C dx fvs)) ∧ ok H0 := w.s
  have gr := w.gr
  refine ⟨⟨gr.e0, fun a o h => ?_, Ex.mut gr.i ws.1.1, gr.p⟩, ⟨⟨ws.1.1, upd_same⟩, h'⟩, fun p hp => ?_, w.bB, w.n, ⟨w.o.nd, w.o.b, w.o.z, w.o.s, fun p hp => ?_⟩⟩
  · by_cases ha : a = x
    · subst ha
      exact ⟨_, upd_same, fun n => absurd (by simp [Sx]) n⟩
    · obtain ⟨o', h1, h2⟩ := gr.e a o h
      exact ⟨o', by rw [upd_ne ha]; exact h1, h2⟩
  · obtain ⟨n, vs, h1, h2⟩ := w.b p hp
    have ne : p.1 ≠ x := fun e => n (by rw [e]; simp [Sx])
    exact ⟨n, vs, by rw [upd_ne ne]; exact h1, h2⟩
  · obtain ⟨vs, h1, h2⟩ := w.o.h p hp
    have n := w.o.s p hp
    have ne : p.1 ≠ x := fun e => n (by rw [e]; simp [Sx])
    exact ⟨vs, by rw [upd_ne ne]; exact h1, h2⟩
theorem ij_fld {P : D → Prop} (hs : c.st = some (.self x C dx fvs ok mo)) (h : EV c.K c.st (c.bor ++ own) tv Γ P) (h0 : Γ[i]? = some (some (.raw (.ref x)))) (hc : Cls c.K C) (hn : NoAttr c.K C f) (hl : fvs.length < 1000)
    (k : ∀ y d, P d → FIN { c with st := some (.self x C dx (putF f y fvs) (fun H => ok H ∧ Rp c.K H y d) (and_mo mo)) } Γ own) : IJ PR c (sFld c.K (tVar i) tv f) Γ own FIN := fun B0 B H0 σ H w D nx rt =>
  h σ H0 H w.i w.s w.mu w.n _ fun v d H1 H' g s p r => by
    have w1 := w.step g s
    obtain ⟨v2, h1, h2⟩ := w1.n.get i _ h0
    cases h2
    have s1 := w1.s
    rw [hs] at s1
    have s2 : (H1 x = none ∧ H' x = some (.ins C dx fvs)) ∧ ok H1 := s1
    exact ⟨.ref x, h1, x, C, dx, fvs, rfl, s2.1.2, hc, hn, hl, nx _ _ _ _ _ _ (k v d p) (w1.store hs ⟨s2.2, r⟩)⟩
/-- a list made fresh, kept as one's own -/
theorem ij_fldF {P : List D → Prop} (hs : c.st = some (.self x C dx fvs ok mo)) (h : EVF c.K c.st (c.bor ++ own) tv Γ P) (h0 : Γ[i]? = some (some (.raw (.ref x)))) (hc : Cls c.K C) (hn : NoAttr c.K C f) (hl : fvs.length < 1000)
    (k : ∀ l ds, P ds → FIN { c with st := some (.self x C dx (putF f (.ref l) fvs) ok mo) } Γ (own ++ [(l, ds)])) : IJ PR c (sFld c.K (tVar i) tv f) Γ own FIN := fun B0 B H0 σ H w D nx rt =>
  h σ H0 H w.i w.s w.mu w.n _ fun l vs ds H1 H' h1 h2 h3 g s p r => by
    have w1 := w.adopt (nw := [(l, ds)]) g s (by simp) fun q hq => by
      rw [List.mem_singleton.mp hq]
      exact ⟨h1, h2, vs, h3, r⟩
    obtain ⟨v2, h4, h5⟩ := w1.n.get i _ h0
    cases h5
    have s1 := w1.s
    rw [hs] at s1
    have s2 : (H1 x = none ∧ H' x = some (.ins C dx fvs)) ∧ ok H1 := s1
    exact ⟨.ref x, h4, x, C, dx, fvs, rfl, s2.1.2, hc, hn, hl, nx _ _ _ _ _ _ (k l ds p) (w1.store hs s2.2)⟩
theorem Wd.more {B0 B H0 H : Hp} {σ : L2.St} (w : Wd c B0 B H0 Γ own σ H) (hs : c.st = some (.self x C dx fvs ok mo)) {ok' : Hp → Prop} {mo' : ∀ H H' : Hp, Ex H H' → ok' H → ok' H'} (h' : ok' H0) : Wd { c with st := some (.self x C dx fvs ok' mo') } B0 B H0 Γ own σ H := by
  obtain ⟨K, st, bor, P, ct, bk, W⟩ := c
  have e : st = some (.self x C dx fvs ok mo) := hs
  subst e
  have ws : (H0 x = none ∧ H x = some (.ins C dx fvs)) ∧ ok H0 := w.s
  exact ⟨w.gr, ⟨ws.1, h'⟩, w.b, w.bB, w.n, ⟨w.o.nd, w.o.b, w.o.z, w.o.s, w.o.h⟩⟩
/-- an own list is frozen -/
theorem ij_frz {ts : TS} {k : Nat} {l : Addr} {ds : List D} (hs : c.st = some (.self x C dx fvs ok mo)) (hk : own[k]? = some (l, ds)) (h : IJ PR { c with st := some (.self x C dx fvs (fun H => ok H ∧ Rp c.K H (.ref l) (.lst ds)) (and_mo mo)) } ts Γ (own.eraseIdx k) FIN) : IJ PR c ts Γ own FIN := fun B0 B H0 σ H w D nx rt => by
  obtain ⟨H1, w1, e1, r1⟩ := w.fz hk
  have s1 := w1.s
  rw [hs] at s1
  have s2 : (H1 x = none ∧ H x = some (.ins C dx fvs)) ∧ ok H1 := s1
  exact h B0 B H1 σ H (w1.more hs ⟨s2.2, r1⟩) D nx rt
end
/-- the promise of a class's __init__: of which arguments, what fields -/
def spI (K : PySem.W.Frag) (C : Addr) (R : List D → (List (Str × D) → Prop) → Prop) : Sp := fun vs H Q _ => ∃ (H0 : Hp) (x dx : Addr) (vs' : List V) (ds : List D) (P : List (Str × D) → Prop),
  vs = .ref x :: vs' ∧ Ex H0 H ∧ H0 x = none ∧ H x = some (.ins C dx []) ∧ RpAll K H0 vs' ds ∧ R ds P ∧ ∀ H1 H' fvs fs, Gr [x] H0 H H1 H' → H1 x = none → H' x = some (.ins C dx fvs) → P fs → RpFs K H1 fvs fs → Q .non H'
theorem tr_mo : ∀ H H' : Hp, Ex H H' → (fun _ : Hp => True) H → (fun _ : Hp => True) H' := fun _ _ _ _ => trivial
section
variable {P : Program} {w : World} {K : PySem.W.Frag} {mg : Str → Option Value} {base : Heap} {x qual : Str} {params : Arguments} {body : List Stmt} {scope : Scope} {dvs : List V} {kws : List (Str × V)} {f C : Addr} {fd : FuncData}
theorem def_okI {N ps : List Str} {k : Nat} {R : List D → (List (Str × D) → Prop) → Prop} (F : FunD K x qual params body scope dvs kws f fd) (S : FnScope N ps scope) (hl : ∀ ds PP, R ds PP → ds.length + 1 = ps.length) (hN : ps.length ≤ N.length)
    (hbody : ∀ (cdv : Value) (A : Around) (outer : List Env) (s : Shared) (H : Hp) (E : XK), Room k (A.deeper (envOfC qual scope s.heap.objs.size f cdv)) → ∀ ds PP, R ds PP →
      ∃ t, PSs (cxOf CX0 P w K mg base N qual scope f cdv A outer s H E).nox body t ∧ ∀ x dx, IJ (fun _ => False) ⟨K, some (.self x C dx [] (fun _ => True) tr_mo), [], fun _ => False, fun _ _ => False, fun _ _ => False, fun _ _ => True⟩ t (st0 N (.raw (.ref x) :: ds)) []
        (fun c' _ _ => ∃ fvs ok mo fs, c'.K = K ∧ c'.st = some (.self x C dx fvs ok mo) ∧ PP fs ∧ ∀ H, ok H → RpFs K H fvs fs)) : FnOk P w K mg base CX0 (k + 1) f fd ps (spI K C R) := by
  refine F.ok S (fun vs H Q E h => ?_) (fun cdv A outer s H vs Q E hr h => ?_)
  · obtain ⟨H0, x, dx, vs', ds, PP, rfl, i, hx0, hx, r, hR, _⟩ := h
    rw [List.length_cons, r.length]
    exact hl ds PP hR
  · obtain ⟨H0, x, dx, vs', ds, PP, rfl, i, hx0, hx, r, hR, q⟩ := h
    obtain ⟨t, ht, hj⟩ := hbody cdv A outer s H E hr ds PP hR
    have hd := hl ds PP hR
    have r2 : RpAll K H0 (.ref x :: vs') (.raw (.ref x) :: ds) := .cons (.raw _) r
    refine ⟨t, ht.nox, hj x dx H0 H H0 (start N (.ref x :: vs')) H ⟨Gr.refl i, ⟨⟨hx0, hx⟩, trivial⟩, (fun _ h => by cases h), (fun _ h => by cases h), En.start r2 (by simp; omega), ⟨by simp, (fun _ h => by cases h), (fun _ h => by cases h), (fun _ h => by cases h), (fun _ h => by cases h)⟩⟩ _ (fun c' Γ' own' H1 σ' H' hF w' => ?_) fun v H' z => z.elim⟩
    obtain ⟨fvs, ok, mo, fs, eK, eS, hP, hok⟩ := hF
    have gs := w'.gr
    have ss := w'.s
    rw [eS] at gs ss
    have s2 : (H1 x = none ∧ H' x = some (.ins C dx fvs)) ∧ ok H1 := ss
    exact q H1 H' fvs fs gs s2.1.1 s2.1.2 hP (hok H1 s2.2)
end
section
variable {K : PySem.W.Frag} {mu : Mu} {Γ : G} {ta : TA} {C : Addr}
/-- C(..) -/
theorem ev_make {R : List D → (List (Str × D) → Prop) → Prop} {P : List (Str × D) → Prop} {E : XK} {ds : List D} (h : EA K none mu ta Γ (Is ds)) (hr : R ds P) : EV K none mu (tMake C (spI K C R) [] E ta) Γ (fun d => ∃ fs, P fs ∧ d = .ins C fs) := fun σ H0 H i s m n Q q =>
  h σ H0 H i s m n _ fun vs ds' H1 H2 g1 s1 e rr x dx hx hdx hne => by
    subst e
    rw [List.append_nil]
    have e1 : Ex H2 (upd (upd H2 dx (.own x)) x (.ins C dx [])) := (Ex.new hdx).trans (Ex.new (by rw [upd_ne (fun z => hne z.symm)]; exact hx))
    have hx1 := fresh_back g1.i hx
    refine ⟨H1, x, dx, vs, ds', P, rfl, g1.i.trans e1, hx1, upd_same, rr, hr, fun H3 H4 fvs fs g3 hx3 hx4 hp rf => ⟨rfl, ?_⟩⟩
    have g4 : Gr (Sx none) H1 H2 (upd H3 x (.ins C dx fvs)) H4 := by
      refine ⟨g3.e0.trans (Ex.new hx3), fun a o ha => ?_, fun a o ha => ?_, fun a o ha h0 => ?_⟩
      · obtain ⟨o', h1, h2⟩ := g3.e a o (e1 a o ha)
        exact ⟨o', h1, fun _ => h2 (by
          have := ne_of_none ha hx
          simpa using this)⟩
      · by_cases hax : a = x
        · subst hax
          rw [upd_same] at ha
          rw [hx4]
          exact ha
        · rw [upd_ne hax] at ha
          exact g3.i a o ha
      · rw [upd_ne (ne_of_none ha hx)]
        exact g3.p a o (e1 a o ha) h0
    exact q (.ref x) (.ins C fs) _ H4 (g1.trans g4) trivial ⟨fs, hp, rfl⟩ (.ins upd_same (rf.mono (Ex.new hx3)))
end
/-- a class of the top whose __init__ keeps its promise -/
def DefI (P : Program) (w : World) (K : PySem.W.Frag) (mg : Str → Option Value) (base : Heap) (k : Nat) (x : Str) (ps : List Str) (R : List D → (List (Str × D) → Prop) → Prop) : Prop :=
  ∃ (f : Addr) (fd : FuncData), FnOk P w K mg base CX0 k f fd ps (spI K (He.ga K x) R) ∧ Mk K (He.ga K x) f ∧ mg x = some (.ref (He.ga K x)) ∧ Binds K fd ps []
theorem pe_makeD {X : Cx} {P : Program} {w : World} {K : PySem.W.Frag} {mg : Str → Option Value} {base : Heap} {k : Nat} {x : Str} {ps : List Str} {R : List D → (List (Str × D) → Prop) → Prop} {p pos : Pos} {e : Expr} {es : List Expr} {t : TA} (F : DefI P w K mg base k x ps R) (hX : XIs X P w K mg base)
    (hr : Room (k + 1) X.A) (hg : Gl X x) (ha : PA X (e :: es) t) (hdb : (x == ("__debug__" : Str)) = false := by decide) (he : starEach (e :: es) X.env = (false, eval e X.env) :: starEach es X.env := by rfl)
    (hpl : (backTo pos (starEach es X.env)).any (·.1) = false := by rfl) : PE X (.Call (.Name x p) (e :: es) [] pos) (tMake (He.ga K x) (spI K (He.ga K x) R) [] E0 t) := by
  obtain ⟨h1, h2, h3, h4, h5⟩ := hX
  subst h1 h2 h3 h4 h5
  obtain ⟨f, fd, F, M, hm, hb⟩ := F
  exact pe_make M F hr hg hm hb .nil pass0 ha hdb he hpl
theorem k_pfld {X : Cx} {K : PySem.W.Frag} {o value : Expr} {f : Str} {pos pos' : Pos} {ta tv : TE} (h : X.K = K) (ha : PE X o ta) (hv : PE X value tv) (hs : swapsWith value (some (.Attribute o f pos')) pos.line X.env = pure false) : PS X (.Assign [.Attribute o f pos'] value pos) (sFld K ta tv f) := by subst h; exact ps_fld ha hv hs
/-! ### dicts of the top -/
def rNotKd (K : PySem.W.Frag) (d : Addr) : R2 := fun x y H Q => ∃ (z : Str) (r : Option Value), x = .str z ∧ y = .ref d ∧ PySem.W.nsIn K d z = some r ∧ Q (.bl (!r.isSome)) H
theorem k_notKd {X : Cx} {K : PySem.W.Frag} {w : World} {d : Addr} (D : ∃ es n, KDict K w d es n) (h : X.K = K) (hw : X.w = w) : OpR X (compareOp .NotIn) (rNotKd K d) := by
  subst h hw
  obtain ⟨es, n, D⟩ := D
  exact op_notIn_kd D
theorem k_ixD {X : Cx} {K : PySem.W.Frag} {w : World} (h : X.K = K) (hw : X.w = w) : IxR X (rIxD K w) := by subst h hw; exact ix_kdict
section
variable {K : PySem.W.Frag} {w : World} {st : Stt} {mu : Mu} {d : Addr} {x : Str} {v : V}
theorem ro_ixD (h : KDct K w d x v) : RO K st mu (rIxD K w) (.raw (.ref d)) (.str x) (Is (.raw v)) := fun H0 H vx vy i s m rx ry Q q => by
  cases rx
  cases ry
  exact ⟨d, x, v, rfl, rfl, h, q _ _ H0 H (Gr.refl i) s rfl (.raw v)⟩
theorem ro_notKd (h : KDct K w d x v) : RO K st mu (rNotKd K d) (.str x) (.raw (.ref d)) (Is (.bl false)) := fun H0 H vx vy i s m rx ry Q q => by
  cases rx
  cases ry
  obtain ⟨es, n, u, h1, h2, h3, h4⟩ := h
  exact ⟨x, some u, rfl, rfl, h3, q _ _ H0 H (Gr.refl i) s rfl (.raw _)⟩
/-- isinstance against an own class -/
theorem rc_isiO {C : Addr} {fs : List (Str × D)} (ht : ∀ H a dx fvs, H a = some (.ins C dx fvs) → TyX K H (.ref a) (.ref C)) : RC K st mu (rIsi K) [.ins C fs, .raw (.ref C)] (Is (.bl true)) := fun H0 H vs i so m r Q q => by
  cases r with
  | cons r t =>
    cases t with
    | cons r' t =>
      cases t
      cases r'
      cases r with
      | ins ha rf =>
        refine ⟨_, _, _, _, true, rfl, .own C, ht H _ _ _ (i _ _ ha), ?_, q _ _ H0 H (Gr.refl i) so rfl (.raw _)⟩
        unfold PySem.W.kitOne
        rw [if_pos (by simp)]
end
/-- the __init__ of a class as it stands -/
structure AtI (K : PySem.W.Frag) (mg : Str → Option Value) (x qual : Str) (st : Stmt) : Prop where
  fn : ∃ f fd, FunD K "__init__" qual (defArgs st) (defBody st) (defScope st) [] [] f fd ∧ Mk K (He.ga K x) f ∧ mg x = some (.ref (He.ga K x))
theorem mk_defI {P : Program} {w : World} {K : PySem.W.Frag} {mg : Str → Option Value} {base : Heap} {k : Nat} {x qual : Str} {ps : List Str} {R : List D → (List (Str × D) → Prop) → Prop} {params : Arguments} {body : List Stmt} {scope : Scope} {f : Addr} {fd : FuncData}
    (F : FunD K "__init__" qual params body scope [] [] f fd) (M : Mk K (He.ga K x) f) (hm : mg x = some (.ref (He.ga K x))) (G : FnOk P w K mg base CX0 k f fd ps (spI K (He.ga K x) R))
    (h : ∀ (kV doc pm : Value) (an : Option Addr) (cdv ct : Value) (us : List Value), us.length = ps.length → bindArgs (PySem.W.fnOf "__init__" qual params body scope .none kV doc pm an cdv ct) ⟨us, []⟩ = pure (ps.zip us)) : DefI P w K mg base k x ps R :=
  ⟨f, fd, G, M, hm, F.bindsN h⟩
end U
set_option maxHeartbeats 4000000
/-! H4: is_step, parts_of, shape_of_step. -/
namespace U
open PySem PyProof.Rows L2 Evl RZ
local macro_rules | `(tactic| walk_at "u") => `(tactic| first
  | ((with_reducible apply ev_cT) <;> assumption)
  | with_reducible apply ev_c
  | ((with_reducible apply ev_var); rfl)
  | with_reducible apply ea_nil
  | ((with_reducible apply ea_cons) <;> (try walk_at "u"))
  | ((with_reducible apply ev_opd) <;> (try walk_at "u"))
  | with_reducible apply ro_I0
  | ((with_reducible apply ro_I) <;> (try walk_at "s"))
  | ((with_reducible apply ro_ix) <;> (try walk_at "s"))
  | ((with_reducible apply ro_eq); rfl)
  | ((with_reducible apply ro_ne); rfl)
  | ((with_reducible apply ev_un) <;> (try walk_at "u"))
  | ((with_reducible apply ev_tup) <;> (try walk_at "u"))
  | ((with_reducible apply ev_lst) <;> (try walk_at "u"))
  | ((with_reducible apply ev_cbd) <;> (try walk_at "u"))
  | ((with_reducible apply rc_len) <;> (try walk_at "s"))
  | with_reducible apply rc_abs
  | with_reducible apply rc_int
  | with_reducible apply rc_intb
  | ((with_reducible apply rc_list) <;> (try walk_at "s"))
  | ((with_reducible apply rc_tup) <;> (try walk_at "s"))
  | ((with_reducible apply rc_isi) <;> (try walk_at "s"))
  | ((with_reducible apply ev_call) <;> (try walk_at "u"))
  | ((with_reducible apply ev_and2) <;> (try walk_at "u"))
  | ((with_reducible apply ev_or2) <;> (try walk_at "u"))
  | ((with_reducible apply ev_notV) <;> (try walk_at "u"))
  | ((with_reducible apply ev_chain) <;> (try walk_at "u"))
  | ((with_reducible apply et_testd) <;> (try walk_at "u"))
  | ((with_reducible apply et_B) <;> (try walk_at "u"))
  | ((with_reducible apply et_and) <;> (try walk_at "u"))
  | ((with_reducible apply et_or) <;> (try walk_at "u"))
  | ((with_reducible apply et_not) <;> (try walk_at "u"))
  | ((with_reducible intro h_) <;> (try walk_at "u"))
  | exact len_ok rfl
  | decide)
local macro_rules | `(tactic| walk_at "s") => `(tactic| first
  | with_reducible assumption
  | exact SeqD.l
  | exact SeqD.t
  | exact seqB_l
  | exact seqB_t
  | with_reducible exact ok_encO _
  | with_reducible exact sh_encO _
  | with_reducible rfl
  | ((with_reducible refine Eq.trans ?_ rfl); rfl)
  | assumption
  | decide)
variable {P : Program} {w : World} {K : PySem.W.Frag} {mg : Str → Option Value} {base : Heap}
/-- the tables of the top, the class of grids -/
structure Tw (K : PySem.W.Frag) (w : World) (mg : Str → Option Value) : Prop where
  FORMS : mg "FORMS" = some (.ref (He.ga K "FORMS"))
  PARTS : mg "PARTS" = some (.ref (He.ga K "PARTS"))
  fk : ∃ es n, KDict K w (He.ga K "FORMS") es n
  fd : ∀ s : Stp, KDct K w (He.ga K "FORMS") (wordS s) (.int ((argsS s).length : Nat))
  pd : ∀ s : Stp, KDct K w (He.ga K "PARTS") (wordS s) (.int ((parts s).length : Nat))
  gT : ∀ (H : Hp) (a dx : Addr) (fvs : List (Str × V)), H a = some (.ins (He.ga K "Grid") dx fvs) → TyX K H (.ref a) (.ref (He.ga K "Grid"))
def R_is_step (K : PySem.W.Frag) : RT := fun ds st mu P => ∃ s : Stp, ds = [encS s] ∧ st = none ∧ mu = [] ∧ P = Is (.bl true)
theorem d_is_step (T : Tx K mg) (A : At K mg "is_step" s_is_step) (W : Tw K w mg) (D_is_number : Def P w K mg base 2 "is_number" ["thing"] (R_is_number K)) : Def P w K mg base 3 "is_step" ["thing"] (R_is_step K) := by
  obtain ⟨f, fd, F, hm⟩ := A.fn
  refine mk_def F hm (def_ok F sc_is_step (fun ds st mu PP h => ?_) (by decide) fun cdv A outer s H E hr ds st mu PP h => ?_) fun _ _ _ _ _ _ us hl => match us, hl with | [_], _ => rfl
  · obtain ⟨s, rfl, _⟩ := h
    rfl
  · obtain ⟨st, rfl, rfl, rfl, rfl⟩ := h
    refine ⟨_, (pss_cons (ps_if (PW.pt (pw_or (pt_not (pt_val (pe_callB (k_isi (K := K) (by rfl)) (by rfl) T.isinstance (by decide +kernel) (pa_cons (pv 0) (pa_cons (pe_bltn (v := .ty "tuple") (by rfl) T.tuple (by decide +kernel) rfl) pa_nil))))) (pw_or (pt_cmpR op_eq (pe_callB (k_len (K := K) (by rfl)) (by rfl) T.len (by decide +kernel) (pa_cons (pv 0) pa_nil)) pe_int (nomark _)) (pw_or (pt_not (pt_val (pe_callB (k_isi (K := K) (by rfl)) (by rfl) T.isinstance (by decide +kernel) (pa_cons (pe_ix (k_ix (K := K) (by rfl)) (pv 0) pe_int (fun _ _ => rfl)) (pa_cons (pe_bltn (v := .ty "str") (by rfl) T.str (by decide +kernel) rfl) pa_nil))))) (pw_or1 (pt_cmpR (k_notKd W.fk (by rfl) (by rfl)) (pe_ix (k_ix (K := K) (by rfl)) (pv 0) pe_int (fun _ _ => rfl)) (pe_gref W.FORMS (by rfl)) (by rfl))))))) (pss_one (ps_ret pe_bl)) pss_nil)
        (pss_one (ps_ret (pe_and (pe_cmpR op_eq (pe_callB (k_len (K := K) (by rfl)) (by rfl) T.len (by decide +kernel) (pa_cons (pv 0) pa_nil)) (pe_op op_add (pe_ix (k_ixD (K := K) (w := w) (by rfl) (by rfl)) (pe_gref W.FORMS (by rfl)) (pe_ix (k_ix (K := K) (by rfl)) (pv 0) pe_int (fun _ _ => rfl)) (fun _ _ => rfl)) pe_int) (nomark _)) (pe_one (pe_callB (k_all (K := K) (by rfl) rfl) (by rfl) T.all (by decide +kernel) (pa_cons (pe_lc (own := [("item", 1)]) (by rfl) sc_is_step.nd (k_seq (K := K) (by rfl) (pe_slice (k_sl (K := K) (by rfl)) (pv 0) (po_some pe_int) po_none)) (blkOk_by (by kernel_rfl)) (fun _ _ _ _ _ => (pg_name (i := 1) sc_is_step.nd rfl (by first | exact Or.inl rfl | exact Or.inr rfl))) (fun _ _ _ _ _ => pts_nil) (fun _ _ _ _ _ => (pe_callD D_is_number ⟨rfl, rfl, rfl, rfl, rfl⟩ (hr.mono (by decide)) (by rfl) (pa_cons (pv 1) pa_nil)))) pa_nil))))))), ?_⟩
    (try dsimp only [cxOf, Cx.nox, Cx.wish])
    have hf := W.fd st
    rw [stp_items st]
    have hl : (argsS st).length ≤ 5 := by cases st <;> simp [argsS]
    have hl0 : 0 < (argsS st).length := by cases st <;> simp [argsS]
    refine sj_seq (sj_ifd (b := false) (ET.is (et_or (a := false) (b := false) (ET.is (et_not (et_testd (ev_cbd (ea_cons (ev_var rfl) (ea_cons ev_c ea_nil)) (rc_isi (d := .tup (.str (wordS st) :: (argsS st).map nD)) rfl rfl)))) rfl) fun _ => ET.is (et_or (a := false) (b := false) (et_testd (EV.is (ev_opd (ev_cbd (ea_cons (ev_var rfl) ea_nil) (rc_len SeqD.t)) ev_c (ro_eq rfl)) (by simp; omega))) fun _ =>
      ET.is (et_or (a := false) (b := false) (ET.is (et_not (et_testd (ev_cbd (ea_cons (ev_opd (ev_var rfl) ev_c (ro_ix SeqD.t at_head)) (ea_cons ev_c ea_nil)) (rc_isi (d := .str (wordS st)) rfl rfl)))) rfl) fun _ => et_testd (ev_opd (ev_opd (ev_var rfl) ev_c (ro_ix SeqD.t at_head)) ev_c (ro_notKd hf))) rfl) rfl) rfl) (fun e => by cases e) fun _ => sj_next ?_)
    refine sj_ret (EV.is (ev_and2 (a := true) (b := true) (EV.is (ev_opd (ev_cbd (ea_cons (ev_var rfl) ea_nil) (rc_len SeqD.t)) (ev_opd (ev_opd ev_c (ev_opd (ev_var rfl) ev_c (ro_ix SeqD.t at_head)) (ro_ixD hf)) ev_c ro_I0) (ro_eq rfl)) ?_) fun _ => EV.is (ev_cbd (ea_cons (EV.is (ev_lct (argsS st) nD (fun _ => .bl true) true (ev_sl1 (k := 1) (ev_var rfl) ev_c (by decide) (by simp)) seqB_t (by simp) (by omega) fun i x hx => EV.is (ev_call (ea_cons (ev_var rfl) ea_nil) r_is_number) (by simp)) (e := .lst (((argsS st).map fun _ => true).map .bl)) (by rw [List.map_map]; rfl)) ea_nil) rc_all) (by simp)) rfl)
    simp
theorem r_is_step {s : Stp} : R_is_step K [encS s] none [] (Is (.bl true)) := ⟨s, rfl, rfl, rfl, rfl⟩
def R_parts_of (K : PySem.W.Frag) : RT := fun ds st mu P => ∃ s : Stp, ds = [encS s] ∧ st = none ∧ mu = [] ∧ P = Is (.tup ((parts s).map nD))
theorem d_parts_of (T : Tx K mg) (A : At K mg "parts_of" s_parts_of) (W : Tw K w mg)  : Def P w K mg base 1 "parts_of" ["step"] (R_parts_of K) := by
  obtain ⟨f, fd, F, hm⟩ := A.fn
  refine mk_def F hm (def_ok F sc_parts_of (fun ds st mu PP h => ?_) (by decide) fun cdv A outer s H E hr ds st mu PP h => ?_) fun _ _ _ _ _ _ us hl => match us, hl with | [_], _ => rfl
  · obtain ⟨s, rfl, _⟩ := h
    rfl
  · obtain ⟨st, rfl, rfl, rfl, rfl⟩ := h
    refine ⟨_, (pss_one (ps_ret (pe_slice (k_sl (K := K) (by rfl)) (pv 0) (po_some pe_int) (po_some (pe_op op_add pe_int (pe_ix (k_ixD (K := K) (w := w) (by rfl) (by rfl)) (pe_gref W.PARTS (by rfl)) (pe_ix (k_ix (K := K) (by rfl)) (pv 0) pe_int (fun _ _ => rfl)) (fun _ _ => rfl))))))), ?_⟩
    (try dsimp only [cxOf, Cx.nox, Cx.wish])
    have hf := W.pd st
    have hc : (argsS st).take (parts st).length = parts st ∧ (parts st).length ≤ (argsS st).length := by cases st <;> exact ⟨rfl, by simp [argsS, parts]⟩
    rw [stp_items st]
    refine sj_ret (EV.is (ev_sl2 (m := 1 + (parts st).length) (ev_var rfl) ev_c (EV.is (ev_opd ev_c (ev_opd ev_c (ev_opd (ev_var rfl) ev_c (ro_ix SeqD.t at_head)) (ro_ixD hf)) ro_I0) (by show D.int _ = D.int _; congr 1)) (by omega) (by simp; omega) (by simp)) ?_)
    show D.tup (((argsS st).map nD).take (1 + (parts st).length - 1)) = _
    rw [show 1 + (parts st).length - 1 = (parts st).length by omega, ← List.map_take, hc.1]
theorem r_parts_of {s : Stp} : R_parts_of K [encS s] none [] (Is (.tup ((parts s).map nD))) := ⟨s, rfl, rfl, rfl, rfl⟩
def R_shape_of_step (K : PySem.W.Frag) : RT := fun ds st mu P => ∃ (s : Stp) (sh : List Shp) (l : Addr) (q : Shp), (∀ a ∈ parts s, a < sh.length) ∧ fitS s sh ∧ shapeOf s sh = some q ∧ q.1 ≤ 12 ∧ q.2 ≤ 12 ∧ ds = [encS s, .raw (.ref l)] ∧ st = none ∧ mu = [(l, sh.map encSh)] ∧ P = Is (encSh q)
theorem d_shape_of_step (T : Tx K mg) (A : At K mg "shape_of_step" s_shape_of_step) (D_shape_made : Def P w K mg base 1 "shape_made" ["step", "shapes"] (R_shape_made K)) (D_is_step : Def P w K mg base 3 "is_step" ["thing"] (R_is_step K)) (D_parts_of : Def P w K mg base 1 "parts_of" ["step"] (R_parts_of K)) : Def P w K mg base 4 "shape_of_step" ["step", "shapes"] (R_shape_of_step K) := by
  obtain ⟨f, fd, F, hm⟩ := A.fn
  refine mk_def F hm (def_ok F sc_shape_of_step (fun ds st mu PP h => ?_) (by decide) fun cdv A outer s H E hr ds st mu PP h => ?_) fun _ _ _ _ _ _ us hl => match us, hl with | [_, _], _ => rfl
  · obtain ⟨s, sh, l, q, _, _, _, _, _, rfl, _⟩ := h
    rfl
  · obtain ⟨st, sh, l, q, hp, hf, hq, h1, h2, rfl, rfl, rfl, rfl⟩ := h
    refine ⟨_, (pss_cons (ps_if (PW.pt (pw_or (pt_not (pt_val (pe_callD D_is_step ⟨rfl, rfl, rfl, rfl, rfl⟩ (hr.mono (by decide)) (by rfl) (pa_cons (pv 0) pa_nil)))) (pw_or1 (pt_not (pt_val (pe_callB (k_all (K := K) (by rfl) rfl) (by rfl) T.all (by decide +kernel) (pa_cons (pe_lc (own := [("at", 3)]) (by rfl) sc_shape_of_step.nd (k_seq (K := K) (by rfl) (pe_callD D_parts_of ⟨rfl, rfl, rfl, rfl, rfl⟩ (hr.mono (by decide)) (by rfl) (pa_cons (pv 0) pa_nil))) (blkOk_by (by kernel_rfl)) (fun _ _ _ _ _ => (pg_name (i := 3) sc_shape_of_step.nd rfl (by first | exact Or.inl rfl | exact Or.inr rfl))) (fun _ _ _ _ _ => pts_nil) (fun _ _ _ _ _ => (pe_cmpR op_lt (pv 3) (pe_callB (k_len (K := K) (by rfl)) (by rfl) T.len (by decide +kernel) (pa_cons (pv 1) pa_nil)) (nomark _)))) pa_nil))))))) (pss_one (ps_ret pe_non)) pss_nil)
        (pss_cons (ps_set (i := 2) sc_shape_of_step.nd rfl (Or.inl rfl) (pe_callD D_shape_made ⟨rfl, rfl, rfl, rfl, rfl⟩ (hr.mono (by decide)) (by rfl) (pa_cons (pv 0) (pa_cons (pe_lc (own := [("at", 3)]) (by rfl) sc_shape_of_step.nd (k_seq (K := K) (by rfl) (pe_callD D_parts_of ⟨rfl, rfl, rfl, rfl, rfl⟩ (hr.mono (by decide)) (by rfl) (pa_cons (pv 0) pa_nil))) (blkOk_by (by kernel_rfl)) (fun _ _ _ _ _ => (pg_name (i := 3) sc_shape_of_step.nd rfl (by first | exact Or.inl rfl | exact Or.inr rfl))) (fun _ _ _ _ _ => pts_nil) (fun _ _ _ _ _ => (pe_ix (k_ix (K := K) (by rfl)) (pv 1) (pv 3) (fun _ _ => rfl)))) pa_nil))))
        (pss_cons (ps_if (PW.pt (pw_or (pt_cmp (pc_isN (pv 2)) rfl) (pw_or1 (pt_cmpR op_gt (pe_callB (k_max (K := K) (by rfl) rfl) (by rfl) T.max (by decide +kernel) (pa_cons (pv 2) pa_nil)) (pe_gint T.MOST_SIDE (by rfl)) (nomark _))))) (pss_one (ps_ret pe_non)) pss_nil)
        (pss_one (ps_ret (pv 2)))))), ?_⟩
    (try dsimp only [cxOf, Cx.nox, Cx.wish])
    have hpl : (parts st).length ≤ 2 := by cases st <;> simp [parts]
    have partsE : ∀ G0 : G, G0[0]? = some (some (encS st)) → EV K none ([(l, sh.map encSh)] ++ []) (tCall (spG K (R_parts_of K)) [] E0 (tCons (tVar 0) tNil)) G0 (Is (.tup ((parts st).map nD))) := fun G0 h0 => ev_call (ea_cons (ev_var h0) ea_nil) r_parts_of
    refine sj_seq (sj_ifd (b := false) (ET.is (et_or (a := false) (b := false) (ET.is (et_not (et_testd (ev_call (ea_cons (ev_var rfl) ea_nil) r_is_step))) rfl) fun _ => ET.is (et_not (et_testd (EV.is (ev_cbd (ea_cons (EV.is (ev_lct (parts st) nD (fun _ => .bl true) true (partsE _ rfl) seqB_t (by simp) (by omega) fun i x hx => EV.is (ev_opd (ev_var rfl) (ev_cbd (ea_cons (ev_var rfl) ea_nil) (rc_len (SeqD.m (List.mem_cons_self ..)))) ro_I0) (by
      have := hp x (List.mem_of_getElem? hx)
      simp
      omega)) (e := .lst (((parts st).map fun _ => true).map .bl)) (by rw [List.map_map]; rfl)) ea_nil) rc_all) (e := .bl true) (by simp)))) rfl) rfl) (fun e => by cases e) fun _ => sj_next ?_)
    refine sj_seq (sj_setd (d := encSh q) (EV.is (ev_call (ea_cons (ev_var rfl) (ea_cons (ev_lct (parts st) nD (fun a => encSh (shp sh a)) true (partsE _ rfl) seqB_t (by simp) (by omega) fun i x hx => ev_opd (ev_var rfl) (ev_var rfl) (ro_ix (SeqD.m (List.mem_cons_self ..)) (at_shp (hp x (List.mem_of_getElem? hx))))) ea_nil)) (r_shape_made hf)) (by rw [hq]; rfl)) ?_)
    refine sj_seq (sj_ifd (b := false) (ET.is (et_or (a := false) (b := false) (et_testd (ev_isN (ev_var rfl) rfl)) fun _ => et_testd (EV.is (ev_opd (ev_cbd (ea_cons (ev_var rfl) ea_nil) rc_max) ev_c ro_I0) (by simp; omega))) rfl) (fun e => by cases e) fun _ => sj_next ?_)
    exact sj_ret (ev_var rfl)
theorem r_shape_of_step {s : Stp} {sh : List Shp} {l : Addr} {q : Shp} (hp : ∀ a ∈ parts s, a < sh.length) (hf : fitS s sh) (hq : shapeOf s sh = some q) (h1 : q.1 ≤ 12) (h2 : q.2 ≤ 12) : R_shape_of_step K [encS s, .raw (.ref l)] none [(l, sh.map encSh)] (Is (encSh q)) := ⟨s, sh, l, q, hp, hf, hq, h1, h2, rfl, rfl, rfl, rfl⟩
end U
set_option maxHeartbeats 4000000
/-! H5: shapes_of, are_grids. -/
namespace U
open PySem PyProof.Rows L2 Evl RZ
local macro_rules | `(tactic| walk_at "u") => `(tactic| first
  | ((with_reducible apply ev_cT) <;> assumption)
  | with_reducible apply ev_c
  | ((with_reducible apply ev_var); rfl)
  | with_reducible apply ea_nil
  | ((with_reducible apply ea_cons) <;> (try walk_at "u"))
  | ((with_reducible apply ev_opd) <;> (try walk_at "u"))
  | with_reducible apply ro_I0
  | ((with_reducible apply ro_I) <;> (try walk_at "s"))
  | ((with_reducible apply ro_ix) <;> (try walk_at "s"))
  | ((with_reducible apply ro_eq); rfl)
  | ((with_reducible apply ro_ne); rfl)
  | ((with_reducible apply ev_un) <;> (try walk_at "u"))
  | ((with_reducible apply ev_tup) <;> (try walk_at "u"))
  | ((with_reducible apply ev_lst) <;> (try walk_at "u"))
  | ((with_reducible apply ev_cbd) <;> (try walk_at "u"))
  | ((with_reducible apply rc_len) <;> (try walk_at "s"))
  | with_reducible apply rc_abs
  | with_reducible apply rc_int
  | with_reducible apply rc_intb
  | ((with_reducible apply rc_list) <;> (try walk_at "s"))
  | ((with_reducible apply rc_tup) <;> (try walk_at "s"))
  | ((with_reducible apply rc_isi) <;> (try walk_at "s"))
  | ((with_reducible apply ev_call) <;> (try walk_at "u"))
  | ((with_reducible apply ev_and2) <;> (try walk_at "u"))
  | ((with_reducible apply ev_or2) <;> (try walk_at "u"))
  | ((with_reducible apply ev_notV) <;> (try walk_at "u"))
  | ((with_reducible apply ev_chain) <;> (try walk_at "u"))
  | ((with_reducible apply et_testd) <;> (try walk_at "u"))
  | ((with_reducible apply et_B) <;> (try walk_at "u"))
  | ((with_reducible apply et_and) <;> (try walk_at "u"))
  | ((with_reducible apply et_or) <;> (try walk_at "u"))
  | ((with_reducible apply et_not) <;> (try walk_at "u"))
  | ((with_reducible intro h_) <;> (try walk_at "u"))
  | exact len_ok rfl
  | decide)
local macro_rules | `(tactic| walk_at "s") => `(tactic| first
  | with_reducible assumption
  | exact SeqD.l
  | exact SeqD.t
  | exact seqB_l
  | exact seqB_t
  | with_reducible exact ok_encO _
  | with_reducible exact sh_encO _
  | with_reducible rfl
  | ((with_reducible refine Eq.trans ?_ rfl); rfl)
  | assumption
  | decide)
variable {P : Program} {w : World} {K : PySem.W.Frag} {mg : Str → Option Value} {base : Heap}
theorem shp_take {sh : List Shp} {m a : Nat} (h : a < m) : shp (sh.take m) a = shp sh a := by
  simp [shp, List.getD, h]
theorem shapeOf_take {s : Stp} {sh : List Shp} {m : Nat} (h : ∀ a ∈ parts s, a < m) : shapeOf s (sh.take m) = shapeOf s sh := by
  cases s with
  | plus a b => simp only [shapeOf, shp_take (sh := sh) (h a (by simp [parts])), shp_take (sh := sh) (h b (by simp [parts]))]
  | times a b => simp only [shapeOf, shp_take (sh := sh) (h a (by simp [parts])), shp_take (sh := sh) (h b (by simp [parts]))]
  | beside a b => simp only [shapeOf, shp_take (sh := sh) (h a (by simp [parts])), shp_take (sh := sh) (h b (by simp [parts]))]
  | above a b => simp only [shapeOf, shp_take (sh := sh) (h a (by simp [parts])), shp_take (sh := sh) (h b (by simp [parts]))]
  | turned a => simp only [shapeOf, shp_take (sh := sh) (h a (by simp [parts]))]
  | star a => simp only [shapeOf, shp_take (sh := sh) (h a (by simp [parts]))]
  | piece a i j r c => rfl
theorem fitS_take {s : Stp} {sh : List Shp} {m : Nat} (h : ∀ a ∈ parts s, a < m) : fitS s (sh.take m) ↔ fitS s sh := by
  cases s with
  | piece a i j r c => simp only [fitS, shp_take (sh := sh) (h a (by simp [parts]))]
  | _ => exact Iff.rfl
def grdSh (g : Grd) : Shp := (g.rows.length, (g.rows.getD 0 []).length)
/-- the shapes of all grids, put in and made -/
structure ShAll (gs : List Grd) (steps : List Stp) (sh : List Shp) : Prop where
  l : sh.length = gs.length + steps.length
  g : sh.take gs.length = gs.map grdSh
  g0 : ∀ g ∈ gs, 0 < g.rows.length
  p : ∀ (k : Nat) (s : Stp), steps[k]? = some s → ∀ a ∈ parts s, a < gs.length + k
  f : ∀ (k : Nat) (s : Stp), steps[k]? = some s → fitS s sh
  s : ∀ (k : Nat) (s : Stp), steps[k]? = some s → shapeOf s sh = some (shp sh (gs.length + k)) ∧ (shp sh (gs.length + k)).1 ≤ 12 ∧ (shp sh (gs.length + k)).2 ≤ 12
def R_shapes_of (K : PySem.W.Frag) : RT := fun ds st mu P => ∃ (gs : List Grd) (steps : List Stp) (sh : List Shp), gs.length ≤ 100 ∧ steps.length ≤ 100 ∧ ShAll gs steps sh ∧ ds = [.tup (gs.map (encG K)), .tup (steps.map encS)] ∧ st = none ∧ mu = [] ∧ P = Is (.lst (sh.map encSh))
theorem d_shapes_of (T : Tx K mg) (A : At K mg "shapes_of" s_shapes_of) (D_shape_of_step : Def P w K mg base 4 "shape_of_step" ["step", "shapes"] (R_shape_of_step K)) : Def P w K mg base 5 "shapes_of" ["grids", "steps"] (R_shapes_of K) := by
  obtain ⟨f, fd, F, hm⟩ := A.fn
  refine mk_def F hm (def_ok F sc_shapes_of (fun ds st mu PP h => ?_) (by decide) fun cdv A outer s H E hr ds st mu PP h => ?_) fun _ _ _ _ _ _ us hl => match us, hl with | [_, _], _ => rfl
  · obtain ⟨gs, steps, sh, _, _, _, rfl, _⟩ := h
    rfl
  · obtain ⟨gs, steps, sh, hgl, hsl, hA, rfl, rfl, rfl, rfl⟩ := h
    refine ⟨_, (pss_cons (ps_setLc (i := 2) (own := [("grid", 6)]) (by rfl) sc_shapes_of.nd rfl rfl (sw_true rfl rfl rfl (by decide +kernel)) (k_seq (K := K) (by rfl) (pv 0)) (blkOk_by (by kernel_rfl)) (fun _ _ _ _ _ => (pg_name (i := 6) sc_shapes_of.nd rfl (by first | exact Or.inl rfl | exact Or.inr rfl))) (fun _ _ _ _ _ => pts_nil) (fun _ _ _ _ _ => (pe_tup (pa_cons (pe_callB (k_len (K := K) (by rfl)) (by rfl) T.len (by decide +kernel) (pa_cons (k_fld (K := K) (by rfl) (pv 6) rfl) pa_nil)) (pa_cons (pe_callB (k_len (K := K) (by rfl)) (by rfl) T.len (by decide +kernel) (pa_cons (pe_ix (k_ix (K := K) (by rfl)) (k_fld (K := K) (by rfl) (pv 6) rfl) pe_int (fun _ _ => rfl)) pa_nil)) pa_nil)))))
        (pss_cons (ps_for PassesOwn.never (by rfl) (k_enum (K := K) (by rfl) (by rfl) T.enumerate (pa_cons (pv 1) pa_nil)) (k_gtup (K := K) (n := 2) (by rfl) (by rfl) (pgs_cons (pg_name (i := 3) sc_shapes_of.nd rfl (by first | exact Or.inl rfl | exact Or.inr rfl)) (pgs_cons (pg_name (i := 4) sc_shapes_of.nd rfl (by first | exact Or.inl rfl | exact Or.inr rfl)) pgs_nil))) (pss_cons (ps_set (i := 5) sc_shapes_of.nd rfl (Or.inl rfl) (pe_callD D_shape_of_step ⟨rfl, rfl, rfl, rfl, rfl⟩ (hr.mono (by decide)) (by rfl) (pa_cons (pv 4) (pa_cons (pv 2) pa_nil))))
        (pss_cons (ps_if (pt_cmp (pc_isN (pv 5)) rfl) (pss_one ps_never) pss_nil)
        (pss_one (ps_expr (pe_bm PySem.F.plainAttrs_list PySem.F.slot_list_append PySem.F.type_list_append mt_append (pv 2) (pa_cons (pv 5) pa_nil)))))))
        (pss_one (ps_ret (pv 2))))), ?_⟩
    (try dsimp only [cxOf, Cx.nox, Cx.wish])
    refine sj_seq (sj_setF (evf_lct gs (encG K) (fun g => encSh (grdSh g)) true (ev_var rfl) seqB_t (by simp) (by omega) fun i g hg => ?_) fun ds l hds => ?_)
    · have h0 := hA.g0 g (List.mem_of_getElem? hg)
      have r0 : atI (g.rows.map fun r => D.tup (r.map encC)) (0 : Int) = some (.tup ((g.rows.getD 0 []).map encC)) := by
        rw [show (0 : Int) = ((0 : Nat) : Int) from rfl, atI_natE, List.getElem?_map]
        simp [List.getD, h0]
      have rowsE : ∀ G0 : G, G0[6]? = some (some (encG K g)) → EV K none ([] ++ []) (tFld K (tVar 6) "rows") G0 (Is (.tup (g.rows.map fun r => .tup (r.map encC)))) := fun G0 h0 => ev_fld (ev_var h0) T.gridC T.gR rfl
      refine EV.is (ev_tup (ea_cons (ev_cbd (ea_cons (rowsE _ rfl) ea_nil) (rc_len SeqD.t)) (ea_cons (ev_cbd (ea_cons (ev_opd (rowsE _ rfl) ev_c (ro_ix SeqD.t r0)) ea_nil) (rc_len SeqD.t)) ea_nil)) (len_ok rfl)) ?_
      simp only [List.length_map]
      rfl
    have e0 : ds = (sh.take (gs.length + 0)).map encSh := by
      rw [hds, Nat.add_zero, hA.g, List.map_map]
      rfl
    subst e0
    refine sj_seq (sj_fore steps encS true (ea_cons (ev_var rfl) ea_nil) seqB_t (fun i Γ own => ∃ x3 x4 x5 : Option D, Γ = [some (.tup (gs.map (encG K))), some (.tup (steps.map encS)), some (.raw (.ref l)), x3, x4, x5, none] ∧ own = [(l, (sh.take (gs.length + i)).map encSh)]) ⟨none, none, none, rfl, rfl⟩ ?_ ?_)
    · rintro i s Γ' own' hi ⟨x3, x4, x5, rfl, rfl⟩
      have hil : i < steps.length := (List.getElem?_eq_some_iff.mp hi).1
      have hp := hA.p i s hi
      obtain ⟨hs, h1, h2⟩ := hA.s i s hi
      have hlt : gs.length + i < sh.length := by rw [hA.l]; omega
      have htl : (sh.take (gs.length + i)).length = gs.length + i := by rw [List.length_take]; omega
      refine sj_seq (sj_setd (d := encSh (shp sh (gs.length + i))) (ev_callM [(l, (sh.take (gs.length + i)).map encSh)] (ea_cons (ev_var rfl) (ea_cons (ev_var rfl) ea_nil)) (fun p hp => hp) (r_shape_of_step (fun a ha => by rw [htl]; exact hp a ha) ((fitS_take hp).mpr (hA.f i s hi)) (by rw [shapeOf_take hp]; exact hs) h1 h2)) ?_)
      refine sj_seq (sj_ifd (b := false) (et_testd (ev_isN (ev_var rfl) rfl)) (fun e => by cases e) fun _ => sj_next ?_)
      refine sj_app (i := 2) (k := 0) (PV := Is (encSh (shp sh (gs.length + i)))) rfl rfl (ev_var rfl) (by rw [List.length_map, htl]; omega) ?_
      rintro d rfl
      refine ⟨_, _, _, rfl, ?_⟩
      have e1 : sh.take (gs.length + (i + 1)) = sh.take (gs.length + i) ++ [shp sh (gs.length + i)] := by
        rw [show gs.length + (i + 1) = gs.length + i + 1 by omega, List.take_succ, List.getElem?_eq_getElem hlt]
        simp [shp, List.getD, hlt]
      rw [e1, List.map_append]
      rfl
    · rintro Γ' own' ⟨x3, x4, x5, rfl, rfl⟩
      refine sj_frz (k := 0) (i := 2) rfl rfl (sj_ret (EV.is (ev_var rfl) ?_))
      rw [← hA.l, List.take_length]
theorem r_shapes_of {gs : List Grd} {steps : List Stp} {sh : List Shp} (h1 : gs.length ≤ 100) (h2 : steps.length ≤ 100) (h : ShAll gs steps sh) : R_shapes_of K [.tup (gs.map (encG K)), .tup (steps.map encS)] none [] (Is (.lst (sh.map encSh))) := ⟨gs, steps, sh, h1, h2, h, rfl, rfl, rfl, rfl⟩
def R_are_grids (K : PySem.W.Frag) : RT := fun ds st mu P => ∃ (gs : List Grd) (nb : Nat), 1 ≤ gs.length ∧ gs.length ≤ 6 ∧ (∀ g ∈ gs, g.bases = nb) ∧ ds = [.tup (gs.map (encG K))] ∧ st = none ∧ mu = [] ∧ P = Is (.bl true)
theorem d_are_grids (T : Tx K mg) (A : At K mg "are_grids" s_are_grids) (W : Tw K w mg)  : Def P w K mg base 1 "are_grids" ["thing"] (R_are_grids K) := by
  obtain ⟨f, fd, F, hm⟩ := A.fn
  refine mk_def F hm (def_ok F sc_are_grids (fun ds st mu PP h => ?_) (by decide) fun cdv A outer s H E hr ds st mu PP h => ?_) fun _ _ _ _ _ _ us hl => match us, hl with | [_], _ => rfl
  · obtain ⟨gs, nb, _, _, _, rfl, _⟩ := h
    rfl
  · obtain ⟨gs, nb, h1, h2, hb, rfl, rfl, rfl, rfl⟩ := h
    refine ⟨_, (pss_cons (ps_if (PW.pt (pw_or (pt_not (pt_val (pe_callB (k_isi (K := K) (by rfl)) (by rfl) T.isinstance (by decide +kernel) (pa_cons (pv 0) (pa_cons (pe_bltn (v := .ty "tuple") (by rfl) T.tuple (by decide +kernel) rfl) pa_nil))))) (pw_or1 (pt_not (pt_chain op_le op_le pe_int (pe_callB (k_len (K := K) (by rfl)) (by rfl) T.len (by decide +kernel) (pa_cons (pv 0) pa_nil)) (pe_gint T.MOST_GRIDS (by rfl))))))) (pss_one (ps_ret pe_bl)) pss_nil)
        (pss_one (ps_ret (pe_callB (k_all (K := K) (by rfl) rfl) (by rfl) T.all (by decide +kernel) (pa_cons (pe_lc (own := [("grid", 1)]) (by rfl) sc_are_grids.nd (k_seq (K := K) (by rfl) (pv 0)) (blkOk_by (by kernel_rfl)) (fun _ _ _ _ _ => (pg_name (i := 1) sc_are_grids.nd rfl (by first | exact Or.inl rfl | exact Or.inr rfl))) (fun _ _ _ _ _ => pts_nil) (fun _ _ _ _ _ => (pe_and (pe_callB (k_isi (K := K) (by rfl)) (by rfl) T.isinstance (by decide +kernel) (pa_cons (pv 1) (pa_cons (pe_gref T.Grid (by rfl)) pa_nil))) (pe_one (pe_cmpR op_eq (k_fld (K := K) (by rfl) (pv 1) rfl) (k_fld (K := K) (by rfl) (pe_ix (k_ix (K := K) (by rfl)) (pv 0) pe_int (fun _ _ => rfl)) rfl) (nomark _)))))) pa_nil))))), ?_⟩
    (try dsimp only [cxOf, Cx.nox, Cx.wish])
    have a1 : (1 : Int) ≤ (gs.length : Int) := by omega
    have a2 : (gs.length : Int) ≤ 6 := by omega
    refine sj_seq (sj_ifd (b := false) (ET.is (et_or (a := false) (b := false) (ET.is (et_not (et_testd (ev_cbd (ea_cons (ev_var rfl) (ea_cons ev_c ea_nil)) (rc_isi (d := .tup (gs.map (encG K))) rfl rfl)))) rfl) fun _ => ET.is (et_not (et_testd (ev_chain ev_c (ev_cbd (ea_cons (ev_var rfl) ea_nil) (rc_len SeqD.t)) ev_c ro_I0 ro_I0))) (by simp [a1, a2])) rfl) (fun e => by cases e) fun _ => sj_next ?_)
    have g0 : atI (gs.map (encG K)) (0 : Int) = some (encG K (gs[0]'h1)) := by
      rw [show (0 : Int) = ((0 : Nat) : Int) from rfl, atI_natE, List.getElem?_map, List.getElem?_eq_getElem h1]
      rfl
    have hb0 := hb (gs[0]'h1) (List.getElem_mem _)
    refine sj_ret (EV.is (ev_cbd (ea_cons (EV.is (ev_lct gs (encG K) (fun _ => .bl true) true (ev_var rfl) seqB_t (by simp) (by omega) fun i g hg => ?_) (e := .lst ((gs.map fun _ => true).map .bl)) (by rw [List.map_map]; rfl)) ea_nil) rc_all) (by simp))
    have hbg := hb g (List.mem_of_getElem? hg)
    refine EV.is (ev_and2 (a := true) (b := true) (ev_cbd (ea_cons (ev_var rfl) (ea_cons ev_c ea_nil)) (rc_isiO (fs := [("bases", nD g.bases), ("rows", .tup (g.rows.map fun r => .tup (r.map encC)))]) W.gT)) fun _ => EV.is (ev_opd (ev_fld (ev_var rfl) T.gridC T.gB rfl) (ev_fld (ev_opd (ev_var rfl) ev_c (ro_ix SeqD.t g0)) T.gridC T.gB rfl) (ro_eq rfl)) ?_) rfl
    rw [hbg, hb0]
    simp
theorem r_are_grids {gs : List Grd} {nb : Nat} (h1 : 1 ≤ gs.length) (h2 : gs.length ≤ 6) (h : ∀ g ∈ gs, g.bases = nb) : R_are_grids K [.tup (gs.map (encG K))] none [] (Is (.bl true)) := ⟨gs, nb, h1, h2, h, rfl, rfl, rfl, rfl⟩
end U
set_option maxHeartbeats 4000000
/-! H6: flags_made. -/
namespace U
open PySem PyProof.Rows L2 Evl RZ
local macro_rules | `(tactic| walk_at "u") => `(tactic| first
  | ((with_reducible apply ev_cT) <;> assumption)
  | with_reducible apply ev_c
  | ((with_reducible apply ev_var); rfl)
  | with_reducible apply ea_nil
  | ((with_reducible apply ea_cons) <;> (try walk_at "u"))
  | ((with_reducible apply ev_opd) <;> (try walk_at "u"))
  | with_reducible apply ro_I0
  | ((with_reducible apply ro_I) <;> (try walk_at "s"))
  | ((with_reducible apply ro_ix) <;> (try walk_at "s"))
  | ((with_reducible apply ro_eq); rfl)
  | ((with_reducible apply ro_ne); rfl)
  | ((with_reducible apply ev_un) <;> (try walk_at "u"))
  | ((with_reducible apply ev_tup) <;> (try walk_at "u"))
  | ((with_reducible apply ev_lst) <;> (try walk_at "u"))
  | ((with_reducible apply ev_cbd) <;> (try walk_at "u"))
  | ((with_reducible apply rc_len) <;> (try walk_at "s"))
  | with_reducible apply rc_abs
  | with_reducible apply rc_int
  | with_reducible apply rc_intb
  | ((with_reducible apply rc_list) <;> (try walk_at "s"))
  | ((with_reducible apply rc_tup) <;> (try walk_at "s"))
  | ((with_reducible apply rc_isi) <;> (try walk_at "s"))
  | ((with_reducible apply ev_call) <;> (try walk_at "u"))
  | ((with_reducible apply ev_and2) <;> (try walk_at "u"))
  | ((with_reducible apply ev_or2) <;> (try walk_at "u"))
  | ((with_reducible apply ev_notV) <;> (try walk_at "u"))
  | ((with_reducible apply ev_chain) <;> (try walk_at "u"))
  | ((with_reducible apply et_testd) <;> (try walk_at "u"))
  | ((with_reducible apply et_B) <;> (try walk_at "u"))
  | ((with_reducible apply et_and) <;> (try walk_at "u"))
  | ((with_reducible apply et_or) <;> (try walk_at "u"))
  | ((with_reducible apply et_not) <;> (try walk_at "u"))
  | ((with_reducible intro h_) <;> (try walk_at "u"))
  | exact len_ok rfl
  | decide)
local macro_rules | `(tactic| walk_at "s") => `(tactic| first
  | with_reducible assumption
  | exact SeqD.l
  | exact SeqD.t
  | exact seqB_l
  | exact seqB_t
  | with_reducible exact ok_encO _
  | with_reducible exact sh_encO _
  | with_reducible rfl
  | ((with_reducible refine Eq.trans ?_ rfl); rfl)
  | assumption
  | decide)
variable {P : Program} {w : World} {K : PySem.W.Frag} {mg : Str → Option Value} {base : Heap}
def bm (Ms : List BM) (a : Nat) : BM := Ms.getD a []
def ShB (p : Shp) (M : BM) : Prop := M.length = p.1 ∧ ∀ r ∈ M, r.length = p.2
def bIn (M : BM) (i j : Nat) : Prop := i < M.length ∧ j < (M.getD i []).length
def CellF (s : Stp) (sh : List Shp) (Ms : List BM) (i j : Nat) : Prop := match s with
  | .plus a b => a < Ms.length ∧ b < Ms.length ∧ bIn (bm Ms a) i j ∧ bIn (bm Ms b) i j
  | .times a b => a < Ms.length ∧ b < Ms.length ∧ (bm Ms b).length ≤ 100 ∧ (∀ k, k < (bm Ms b).length → bIn (bm Ms a) i k) ∧ ∀ k, k < (bm Ms b).length → bIn (bm Ms b) k j
  | .star _ => False
  | s => (∀ a ∈ parts s, a < sh.length) ∧ (src s sh i j).1 < Ms.length ∧ bIn (bm Ms (src s sh i j).1) (src s sh i j).2.1 (src s sh i j).2.2
def FlOk (s : Stp) (sh : List Shp) (made : Shp) (Ms : List BM) : Prop := match s with
  | .star a => a < Ms.length ∧ ∃ n, n ≤ 100 ∧ SqB n (bm Ms a) ∧ made = (n, n)
  | s => made.1 ≤ 100 ∧ made.2 ≤ 100 ∧ ∀ i j, i < made.1 → j < made.2 → CellF s sh Ms i j
theorem at_fl {Ms : List BM} {a : Nat} (h : a < Ms.length) : atI (Ms.map encBM) (a : Int) = some (encBM (bm Ms a)) := by
  rw [atI_natE, List.getElem?_map]
  simp [bm, List.getD, h]
theorem at_brB {M : BM} {i j : Nat} (h : bIn M i j) : atI (M.map fun r => D.lst (encBr r)) (i : Int) = some (.lst (encBr (M.getD i []))) := at_br h.1
theorem at_bcB {M : BM} {i j : Nat} (h : bIn M i j) : atI (encBr (M.getD i [])) (j : Int) = some (.bl (bat M i j)) := at_bc h.2
theorem ev_fl {st : Stt} {mu : Mu} {Γ : G} {tm ti tj : TE} {M : BM} {i j : Nat} (h : bIn M i j) (hm : EV K st mu tm Γ (Is (encBM M))) (hi : EV K st mu ti Γ (Is (nD i))) (hj : EV K st mu tj Γ (Is (nD j))) : EV K st mu (tOp (rIx K) (tOp (rIx K) tm ti) tj) Γ (Is (.bl (bat M i j))) :=
  ev_opd (ev_opd hm hi (ro_ix SeqD.l (at_brB h))) hj (ro_ix SeqD.l (at_bcB h))
def FlP (made : Shp) : D → Prop := fun d => ∃ M : BM, ShB made M ∧ d = encBM M
def R_flags_made (K : PySem.W.Frag) : RT := fun ds st mu P => ∃ (s : Stp) (sh : List Shp) (l : Addr) (Ms : List BM) (made : Shp), FlOk s sh made Ms ∧ ds = [encS s, .lst (sh.map encSh), .raw (.ref l), encSh made] ∧ st = none ∧ mu = [(l, Ms.map encBM)] ∧ P = FlP made
theorem d_flags_made (T : Tx K mg) (A : At K mg "flags_made" s_flags_made) (D_reached_by : Def P w K mg base 1 "reached_by" ["rows"] (R_reached_by K)) (D_source_of : Def P w K mg base 1 "source_of" ["step", "shapes", "i", "j"] (R_source_of K)) : Def P w K mg base 2 "flags_made" ["step", "shapes", "flags", "made"] (R_flags_made K) := by
  obtain ⟨f, fd, F, hm⟩ := A.fn
  refine mk_def F hm (def_ok F sc_flags_made (fun ds st mu PP h => ?_) (by decide) fun cdv A outer s H E hr ds st mu PP h => ?_) fun _ _ _ _ _ _ us hl => match us, hl with | [_, _, _, _], _ => rfl
  · obtain ⟨s, sh, l, Ms, made, _, rfl, _⟩ := h
    rfl
  · obtain ⟨s, sh, l, Ms, made, hok, rfl, rfl, rfl, rfl⟩ := h
    refine ⟨_, (pss_cons (ps_asg (pv 3) (k_gtup (K := K) (n := 2) (by rfl) (by rfl) (pgs_cons (pg_name (i := 4) sc_flags_made.nd rfl (by first | exact Or.inl rfl | exact Or.inr rfl)) (pgs_cons (pg_name (i := 5) sc_flags_made.nd rfl (by first | exact Or.inl rfl | exact Or.inr rfl)) pgs_nil))))
        (pss_cons (ps_if (pt_cmpR op_eq (pe_ix (k_ix (K := K) (by rfl)) (pv 0) pe_int (fun _ _ => rfl)) pe_str (nomark _)) (pss_one (ps_ret (pe_callD D_reached_by ⟨rfl, rfl, rfl, rfl, rfl⟩ (hr.mono (by decide)) (by rfl) (pa_cons (pe_ix (k_ix (K := K) (by rfl)) (pv 2) (pe_ix (k_ix (K := K) (by rfl)) (pv 0) pe_int (fun _ _ => rfl)) (fun _ _ => rfl)) pa_nil)))) pss_nil)
        (pss_cons (ps_set (i := 6) sc_flags_made.nd rfl (Or.inl rfl) (pe_lst pa_nil))
        (pss_cons (ps_for PassesOwn.never (by rfl) (pi_range1 (by rfl) T.range (pa_cons (pv 4) pa_nil)) (pg_name (i := 7) sc_flags_made.nd rfl (by first | exact Or.inl rfl | exact Or.inr rfl)) (pss_cons (ps_set (i := 8) sc_flags_made.nd rfl (Or.inl rfl) (pe_lst pa_nil))
        (pss_cons (ps_for PassesOwn.never (by rfl) (pi_range1 (by rfl) T.range (pa_cons (pv 5) pa_nil)) (pg_name (i := 9) sc_flags_made.nd rfl (by first | exact Or.inl rfl | exact Or.inr rfl)) (pss_one (ps_if (pt_cmpR op_eq (pe_ix (k_ix (K := K) (by rfl)) (pv 0) pe_int (fun _ _ => rfl)) pe_str (nomark _)) (pss_one (ps_expr (pe_bm PySem.F.plainAttrs_list PySem.F.slot_list_append PySem.F.type_list_append mt_append (pv 8) (pa_cons (pe_or (pe_ix (k_ix (K := K) (by rfl)) (pe_ix (k_ix (K := K) (by rfl)) (pe_ix (k_ix (K := K) (by rfl)) (pv 2) (pe_ix (k_ix (K := K) (by rfl)) (pv 0) pe_int (fun _ _ => rfl)) (fun _ _ => rfl)) (pv 7) (fun _ _ => rfl)) (pv 9) (fun _ _ => rfl)) (pe_one (pe_ix (k_ix (K := K) (by rfl)) (pe_ix (k_ix (K := K) (by rfl)) (pe_ix (k_ix (K := K) (by rfl)) (pv 2) (pe_ix (k_ix (K := K) (by rfl)) (pv 0) pe_int (fun _ _ => rfl)) (fun _ _ => rfl)) (pv 7) (fun _ _ => rfl)) (pv 9) (fun _ _ => rfl)))) pa_nil)))) (pss_one (ps_if (pt_cmpR op_eq (pe_ix (k_ix (K := K) (by rfl)) (pv 0) pe_int (fun _ _ => rfl)) pe_str (nomark _)) (pss_cons (ps_asg (pe_tup (pa_cons (pe_ix (k_ix (K := K) (by rfl)) (pv 2) (pe_ix (k_ix (K := K) (by rfl)) (pv 0) pe_int (fun _ _ => rfl)) (fun _ _ => rfl)) (pa_cons (pe_ix (k_ix (K := K) (by rfl)) (pv 2) (pe_ix (k_ix (K := K) (by rfl)) (pv 0) pe_int (fun _ _ => rfl)) (fun _ _ => rfl)) pa_nil))) (k_gtup (K := K) (n := 2) (by rfl) (by rfl) (pgs_cons (pg_name (i := 10) sc_flags_made.nd rfl (by first | exact Or.inl rfl | exact Or.inr rfl)) (pgs_cons (pg_name (i := 11) sc_flags_made.nd rfl (by first | exact Or.inl rfl | exact Or.inr rfl)) pgs_nil))))
        (pss_one (ps_expr (pe_bm PySem.F.plainAttrs_list PySem.F.slot_list_append PySem.F.type_list_append mt_append (pv 8) (pa_cons (pe_callB (k_any (K := K) (by rfl) rfl) (by rfl) T.any (by decide +kernel) (pa_cons (pe_lc (own := [("k", 15)]) (by rfl) sc_flags_made.nd (pi_range1 (by rfl) T.range (pa_cons (pe_callB (k_len (K := K) (by rfl)) (by rfl) T.len (by decide +kernel) (pa_cons (pv 11) pa_nil)) pa_nil)) (blkOk_by (by kernel_rfl)) (fun _ _ _ _ _ => (pg_name (i := 15) sc_flags_made.nd rfl (by first | exact Or.inl rfl | exact Or.inr rfl))) (fun _ _ _ _ _ => pts_nil) (fun _ _ _ _ _ => (pe_and (pe_ix (k_ix (K := K) (by rfl)) (pe_ix (k_ix (K := K) (by rfl)) (pv 10) (pv 7) (fun _ _ => rfl)) (pv 15) (fun _ _ => rfl)) (pe_one (pe_ix (k_ix (K := K) (by rfl)) (pe_ix (k_ix (K := K) (by rfl)) (pv 11) (pv 15) (fun _ _ => rfl)) (pv 9) (fun _ _ => rfl)))))) pa_nil)) pa_nil))))) (pss_cons (ps_asg (pe_callD D_source_of ⟨rfl, rfl, rfl, rfl, rfl⟩ (hr.mono (by decide)) (by rfl) (pa_cons (pv 0) (pa_cons (pv 1) (pa_cons (pv 7) (pa_cons (pv 9) pa_nil))))) (k_gtup (K := K) (n := 3) (by rfl) (by rfl) (pgs_cons (pg_name (i := 12) sc_flags_made.nd rfl (by first | exact Or.inl rfl | exact Or.inr rfl)) (pgs_cons (pg_name (i := 13) sc_flags_made.nd rfl (by first | exact Or.inl rfl | exact Or.inr rfl)) (pgs_cons (pg_name (i := 14) sc_flags_made.nd rfl (by first | exact Or.inl rfl | exact Or.inr rfl)) pgs_nil)))))
        (pss_one (ps_expr (pe_bm PySem.F.plainAttrs_list PySem.F.slot_list_append PySem.F.type_list_append mt_append (pv 8) (pa_cons (pe_ix (k_ix (K := K) (by rfl)) (pe_ix (k_ix (K := K) (by rfl)) (pe_ix (k_ix (K := K) (by rfl)) (pv 2) (pv 12) (fun _ _ => rfl)) (pv 13) (fun _ _ => rfl)) (pv 14) (fun _ _ => rfl)) pa_nil))))))))))
        (pss_one (ps_expr (pe_bm PySem.F.plainAttrs_list PySem.F.slot_list_append PySem.F.type_list_append mt_append (pv 6) (pa_cons (pv 8) pa_nil)))))))
        (pss_one (ps_ret (pv 6))))))), ?_⟩
    (try dsimp only [cxOf, Cx.nox, Cx.wish])
    rw [stp_items s]
    refine sj_seq (sj_un2 (EV.imp (P := Is (encSh made)) (ev_var rfl) fun d e => ⟨_, _, e, ?_⟩))
    by_cases hs : ∃ a, s = .star a
    · obtain ⟨a, rfl⟩ := hs
      obtain ⟨ha, n, hn, hq, rfl⟩ : a < Ms.length ∧ ∃ n, n ≤ 100 ∧ SqB n (bm Ms a) ∧ made = (n, n) := hok
      refine sj_seq (sj_ifd (b := true) (ET.is (et_testd (ev_opd (ev_opd (ev_var rfl) ev_c (ro_ix SeqD.t at_head)) ev_c (ro_eq rfl))) ((dec_word _ _).trans (isW_ss a))) (fun _ => ?_) fun e => by cases e)
      exact sj_ret (EV.imp (ev_call (ea_cons (ev_opd (ev_var rfl) (ev_opd (ev_var rfl) ev_c (ro_ix SeqD.t rfl)) (ro_ix (SeqD.m (List.mem_cons_self ..)) (at_fl ha))) ea_nil) (r_reached_by hn hq)) fun d ⟨M, h1, h2⟩ => ⟨M, h1, h2⟩)
    · have hok' : made.1 ≤ 100 ∧ made.2 ≤ 100 ∧ ∀ i j, i < made.1 → j < made.2 → CellF s sh Ms i j := by
        cases s <;> first | exact hok | exact absurd ⟨_, rfl⟩ hs
      obtain ⟨h1, h2, hc⟩ := hok'
      refine sj_seq (sj_ifd (b := false) (ET.is (et_testd (ev_opd (ev_opd (ev_var rfl) ev_c (ro_ix SeqD.t at_head)) ev_c (ro_eq rfl))) ((dec_word s _).trans (isW_star s hs))) (fun e => by cases e) fun _ => sj_next ?_)
      refine sj_seq (sj_newl fun lf => ?_)
      refine sj_seq (sj_forr (n := made.1) (ea_cons (ev_var rfl) ea_nil) (by omega) (fun i Γ own => ∃ (x7 x8 x9 x10 x11 x12 x13 x14 x15 : Option D) (M : BM), Γ = [some (.tup (.str (wordS s) :: (argsS s).map nD)), some (.lst (sh.map encSh)), some (.raw (.ref l)), some (encSh made), some (nD made.1), some (nD made.2), some (.raw (.ref lf)), x7, x8, x9, x10, x11, x12, x13, x14, x15] ∧
        own = [(lf, M.map fun r => .lst (encBr r))] ∧ M.length = i ∧ ∀ r ∈ M, r.length = made.2) ⟨none, none, none, none, none, none, none, none, none, [], rfl, rfl, rfl, fun r hr => by cases hr⟩ ?_ ?_)
      · rintro i Γ' own' hi ⟨x7, x8, x9, x10, x11, x12, x13, x14, x15, M, rfl, rfl, hMl, hMr⟩
        refine sj_seq (sj_newl fun ll => ?_)
        refine sj_seq (sj_forr (n := made.2) (ea_cons (ev_var rfl) ea_nil) (by omega) (fun j Γ own => ∃ (x9 x10 x11 x12 x13 x14 x15 : Option D) (r : List Bool), Γ = [some (.tup (.str (wordS s) :: (argsS s).map nD)), some (.lst (sh.map encSh)), some (.raw (.ref l)), some (encSh made), some (nD made.1), some (nD made.2), some (.raw (.ref lf)), some (nD i), some (.raw (.ref ll)), x9, x10, x11, x12, x13, x14, x15] ∧
          own = [(lf, M.map fun r => .lst (encBr r)), (ll, encBr r)] ∧ r.length = j) ⟨x9, x10, x11, x12, x13, x14, x15, [], rfl, rfl, rfl⟩ ?_ ?_)
        · rintro j Γ' own' hj ⟨x9, x10, x11, x12, x13, x14, x15, r, rfl, rfl, hrl⟩
          have hcc := hc i j hi hj
          have app : ∀ (y10 y11 y12 y13 y14 y15 : Option D) (b : Bool), ∃ (x9 x10 x11 x12 x13 x14 x15 : Option D) (r' : List Bool), ([some (.tup (.str (wordS s) :: (argsS s).map nD)), some (.lst (sh.map encSh)), some (.raw (.ref l)), some (encSh made), some (nD made.1), some (nD made.2), some (.raw (.ref lf)), some (nD i), some (.raw (.ref ll)), some (nD j), y10, y11, y12, y13, y14, y15] : G) = [some (.tup (.str (wordS s) :: (argsS s).map nD)), some (.lst (sh.map encSh)), some (.raw (.ref l)), some (encSh made), some (nD made.1), some (nD made.2), some (.raw (.ref lf)), some (nD i), some (.raw (.ref ll)), x9, x10, x11, x12, x13, x14, x15] ∧
              ([(lf, M.map fun r => .lst (encBr r)), (ll, encBr r ++ [.bl b])] : Mu) = [(lf, M.map fun r => .lst (encBr r)), (ll, encBr r')] ∧ r'.length = j + 1 := fun y10 y11 y12 y13 y14 y15 b =>
            ⟨_, _, _, _, _, _, _, r ++ [b], rfl, by simp [encBr], by simp [hrl]⟩
          have hz : (encBr r).length < 50000 := by simp [encBr]; omega
          cases s with
          | plus a b =>
            obtain ⟨ha, hb, ca, cb⟩ := hcc
            refine sj_ifd (b := true) (ET.is (et_testd (ev_opd (ev_opd (ev_var rfl) ev_c (ro_ix SeqD.t at_head)) ev_c (ro_eq rfl))) ((dec_word _ _).trans (isW_ps a b))) (fun _ => ?_) fun e => by cases e
            refine sj_app (i := 8) (k := 1) (PV := Is (.bl (bat (bm Ms a) i j || bat (bm Ms b) i j))) rfl rfl (ev_or2 (ev_fl ca (ev_opd (ev_var rfl) (ev_opd (ev_var rfl) ev_c (ro_ix SeqD.t rfl)) (ro_ix (SeqD.m (List.mem_cons_self ..)) (at_fl ha))) (ev_var rfl) (ev_var rfl)) fun _ => ev_fl cb (ev_opd (ev_var rfl) (ev_opd (ev_var rfl) ev_c (ro_ix SeqD.t rfl)) (ro_ix (SeqD.m (List.mem_cons_self ..)) (at_fl hb))) (ev_var rfl) (ev_var rfl)) hz (by rintro d rfl; exact app _ _ _ _ _ _ _)
          | times a b =>
            obtain ⟨ha, hb, hl, ca, cb⟩ := hcc
            refine sj_ifd (b := false) (ET.is (et_testd (ev_opd (ev_opd (ev_var rfl) ev_c (ro_ix SeqD.t at_head)) ev_c (ro_eq rfl))) ((dec_word _ _).trans (isW_tp a b))) (fun e => by cases e) fun _ => ?_
            refine sj_ifd (b := true) (ET.is (et_testd (ev_opd (ev_opd (ev_var rfl) ev_c (ro_ix SeqD.t at_head)) ev_c (ro_eq rfl))) ((dec_word _ _).trans (isW_tt a b))) (fun _ => ?_) fun e => by cases e
            refine sj_seq (sj_un2 (EV.imp (P := Is (.tup [encBM (bm Ms a), encBM (bm Ms b)])) (ev_tup (ea_cons (ev_opd (ev_var rfl) (ev_opd (ev_var rfl) ev_c (ro_ix SeqD.t rfl)) (ro_ix (SeqD.m (List.mem_cons_self ..)) (at_fl ha))) (ea_cons (ev_opd (ev_var rfl) (ev_opd (ev_var rfl) ev_c (ro_ix SeqD.t rfl)) (ro_ix (SeqD.m (List.mem_cons_self ..)) (at_fl hb))) ea_nil)) (len_ok rfl)) fun d e => ⟨_, _, e, ?_⟩))
            refine sj_app (i := 8) (k := 1) (PV := Is (.bl (((List.range (bm Ms b).length).map fun k => bat (bm Ms a) i k && bat (bm Ms b) k j).any id))) rfl rfl (ev_cbd (ea_cons (EV.is (ev_lcr (n := (bm Ms b).length) (g := fun k => .bl (bat (bm Ms a) i k && bat (bm Ms b) k j)) (EA.isL (ea_cons (ev_cbd (ea_cons (ev_var rfl) ea_nil) (rc_len SeqD.l)) ea_nil) (by simp)) (by simp) (by omega) fun k hk => ev_and2 (ev_fl (ca k hk) (ev_var rfl) (ev_var rfl) (ev_var rfl)) fun _ => ev_fl (cb k hk) (ev_var rfl) (ev_var rfl) (ev_var rfl))
              (e := .lst (((List.range (bm Ms b).length).map fun k => bat (bm Ms a) i k && bat (bm Ms b) k j).map .bl)) (by rw [List.map_map]; rfl)) ea_nil) rc_any) hz (by rintro d rfl; exact app _ _ _ _ _ _ _)
          | star a => exact hcc.elim
          | _ =>
            obtain ⟨hp, hcl, hci⟩ := hcc
            refine sj_ifd (b := false) (ET.is (et_testd (ev_opd (ev_opd (ev_var rfl) ev_c (ro_ix SeqD.t at_head)) ev_c (ro_eq rfl))) ((dec_word _ _).trans (isW_srcP _ rfl))) (fun e => by cases e) fun _ => ?_
            refine sj_ifd (b := false) (ET.is (et_testd (ev_opd (ev_opd (ev_var rfl) ev_c (ro_ix SeqD.t at_head)) ev_c (ro_eq rfl))) ((dec_word _ _).trans (isW_srcT _ rfl))) (fun e => by cases e) fun _ => ?_
            refine sj_seq (sj_un3 (EV.imp (P := Is (enc3 (src _ sh i j))) (ev_call (ea_cons (ev_var rfl) (ea_cons (ev_var rfl) (ea_cons (ev_var rfl) (ea_cons (ev_var rfl) ea_nil)))) (r_source_of rfl hp)) fun d e => ⟨_, _, _, e, ?_⟩))
            refine sj_app (i := 8) (k := 1) (PV := Is (.bl (bat (bm Ms (src _ sh i j).1) (src _ sh i j).2.1 (src _ sh i j).2.2))) rfl rfl (ev_fl hci (ev_opd (ev_var rfl) (ev_var rfl) (ro_ix (SeqD.m (List.mem_cons_self ..)) (at_fl hcl))) (ev_var rfl) (ev_var rfl)) hz (by rintro d rfl; exact app _ _ _ _ _ _ _)
        · rintro Γ' own' ⟨x9, x10, x11, x12, x13, x14, x15, r, rfl, rfl, hrl⟩
          refine sj_frz (k := 1) (i := 8) rfl rfl (sj_app (i := 6) (k := 0) (PV := Is (.lst (encBr r))) rfl rfl (ev_var rfl) (by simp; omega) ?_)
          rintro d rfl
          refine ⟨_, _, _, _, _, _, _, _, _, M ++ [r], rfl, by simp, by simp [hMl], fun q hq => ?_⟩
          rcases List.mem_append.mp hq with hq | hq
          · exact hMr q hq
          · rw [List.mem_singleton.mp hq]
            exact hrl
      · rintro Γ' own' ⟨x7, x8, x9, x10, x11, x12, x13, x14, x15, M, rfl, rfl, hMl, hMr⟩
        exact sj_frz (k := 0) (i := 6) rfl rfl (sj_ret (EV.imp (ev_var rfl) fun d e => ⟨M, ⟨hMl, hMr⟩, e⟩))
theorem r_flags_made {s : Stp} {sh : List Shp} {l : Addr} {Ms : List BM} {made : Shp} (h : FlOk s sh made Ms) : R_flags_made K [encS s, .lst (sh.map encSh), .raw (.ref l), encSh made] none [(l, Ms.map encBM)] (FlP made) := ⟨s, sh, l, Ms, made, h, rfl, rfl, rfl, rfl⟩
end U
set_option maxHeartbeats 4000000
/-! H7: Grid's and Script's constructors. -/
namespace U
open PySem PyProof.Rows L2 Evl RZ
local macro_rules | `(tactic| walk_at "u") => `(tactic| first
  | ((with_reducible apply ev_cT) <;> assumption)
  | with_reducible apply ev_c
  | ((with_reducible apply ev_var); rfl)
  | with_reducible apply ea_nil
  | ((with_reducible apply ea_cons) <;> (try walk_at "u"))
  | ((with_reducible apply ev_opd) <;> (try walk_at "u"))
  | with_reducible apply ro_I0
  | ((with_reducible apply ro_I) <;> (try walk_at "s"))
  | ((with_reducible apply ro_ix) <;> (try walk_at "s"))
  | ((with_reducible apply ro_eq); rfl)
  | ((with_reducible apply ro_ne); rfl)
  | ((with_reducible apply ev_un) <;> (try walk_at "u"))
  | ((with_reducible apply ev_tup) <;> (try walk_at "u"))
  | ((with_reducible apply ev_lst) <;> (try walk_at "u"))
  | ((with_reducible apply ev_cbd) <;> (try walk_at "u"))
  | ((with_reducible apply rc_len) <;> (try walk_at "s"))
  | with_reducible apply rc_abs
  | with_reducible apply rc_int
  | with_reducible apply rc_intb
  | ((with_reducible apply rc_list) <;> (try walk_at "s"))
  | ((with_reducible apply rc_tup) <;> (try walk_at "s"))
  | ((with_reducible apply rc_isi) <;> (try walk_at "s"))
  | ((with_reducible apply ev_call) <;> (try walk_at "u"))
  | ((with_reducible apply ev_and2) <;> (try walk_at "u"))
  | ((with_reducible apply ev_or2) <;> (try walk_at "u"))
  | ((with_reducible apply ev_notV) <;> (try walk_at "u"))
  | ((with_reducible apply ev_chain) <;> (try walk_at "u"))
  | ((with_reducible apply et_testd) <;> (try walk_at "u"))
  | ((with_reducible apply et_B) <;> (try walk_at "u"))
  | ((with_reducible apply et_and) <;> (try walk_at "u"))
  | ((with_reducible apply et_or) <;> (try walk_at "u"))
  | ((with_reducible apply et_not) <;> (try walk_at "u"))
  | ((with_reducible intro h_) <;> (try walk_at "u"))
  | exact len_ok rfl
  | decide)
local macro_rules | `(tactic| walk_at "s") => `(tactic| first
  | with_reducible assumption
  | exact SeqD.l
  | exact SeqD.t
  | exact seqB_l
  | exact seqB_t
  | with_reducible exact ok_encO _
  | with_reducible exact sh_encO _
  | with_reducible rfl
  | ((with_reducible refine Eq.trans ?_ rfl); rfl)
  | assumption
  | decide)
variable {P : Program} {w : World} {K : PySem.W.Frag} {mg : Str → Option Value} {base : Heap}
abbrev cnI (K : PySem.W.Frag) (st : Stt) : Cn := ⟨K, st, [], fun _ => False, fun _ _ => False, fun _ _ => False, fun _ _ => True⟩
theorem ij_sj {PR : V → Prop} {st : Stt} {t : TS} {Γ : G} {own : Mu} {FIN : Cn → G → Mu → Prop} (h : SJ (cnI K st) t Γ own (fun Γ' own' => FIN (cnI K st) Γ' own')) : IJ PR (cnI K st) t Γ own FIN :=
  ij_of h (fun _ _ q => q) (fun _ _ q => q) (fun _ _ _ q => q.elim) fun _ _ q => q
theorem putF_ne {f g : Str} {x v : V} {r : List (Str × V)} (h : g ≠ f) : putF f v ((g, x) :: r) = (g, x) :: putF f v r := if_neg h
theorem putF_lt {f : Str} {v : V} {r : List (Str × V)} {n : Nat} (h : r.length < n) : (putF f v r).length < n + 1 := by
  have := length_putF f v r
  omega
def grdFs (g : Grd) : List (Str × D) := [("bases", nD g.bases), ("rows", .tup (g.rows.map fun r => .tup (r.map encC)))]
def R_Grid_init (_ : PySem.W.Frag) : List D → (List (Str × D) → Prop) → Prop := fun ds P => ∃ g : Grd, GrdOk g ∧ ds = [nD g.bases, .tup (g.rows.map encCrT)] ∧ P = Is (grdFs g)
theorem d_Grid_init (T : Tx K mg) (A : AtI K mg "Grid" "Grid.__init__" s_Grid_init) (D_check_rows : Def P w K mg base 5 "check_rows" ["bases", "rows"] (R_check_rows K)) (D_is_within : Def P w K mg base 2 "is_within" ["thing", "least", "most"] (R_is_within K)) (D_is_part : Def P w K mg base 1 "is_part" ["thing"] (R_is_part K)) : DefI P w K mg base 6 "Grid" ["self", "bases", "rows"] (R_Grid_init K) := by
  obtain ⟨f, fd, F, M, hm⟩ := A.fn
  refine mk_defI F M hm (def_okI F sc_Grid_init (fun ds PP h => ?_) (by decide) fun cdv A outer s H E hr ds PP h => ?_) fun _ _ _ _ _ _ us hl => match us, hl with | [_, _, _], _ => rfl
  · obtain ⟨g, _, rfl, _⟩ := h
    rfl
  · obtain ⟨g, hg, rfl, rfl⟩ := h
    refine ⟨_, (pss_cons (ps_if (pt_not (pt_val (pe_callD D_is_within ⟨rfl, rfl, rfl, rfl, rfl⟩ (hr.mono (by decide)) (by rfl) (pa_cons (pv 1) (pa_cons pe_int (pa_cons (pe_gint T.MOST_BASES (by rfl)) pa_nil)))))) (pss_one ps_never) pss_nil)
        (pss_cons (ps_if (pt_not (pt_val (pe_callD D_is_part ⟨rfl, rfl, rfl, rfl, rfl⟩ (hr.mono (by decide)) (by rfl) (pa_cons (pv 2) pa_nil)))) (pss_one ps_never) pss_nil)
        (pss_cons (ps_expr (pe_callD D_check_rows ⟨rfl, rfl, rfl, rfl, rfl⟩ (hr.mono (by decide)) (by rfl) (pa_cons (pv 1) (pa_cons (pv 2) pa_nil))))
        (pss_cons (k_pfld (K := K) (by rfl) (pv 0) (pv 1) rfl)
        (pss_one (k_pfld (K := K) (by rfl) (pv 0) (pv 2) rfl)))))), ?_⟩
    (try dsimp only [cxOf, Cx.nox, Cx.wish])
    intro x dx
    have hb := hg.b
    have hr := hg.r
    refine ij_seq (ij_sj (sj_ifd (b := false) (ET.is (et_not (et_testd (ev_call (ea_cons (ev_var rfl) (ea_cons ev_c (ea_cons ev_c ea_nil))) r_is_within))) ?_) (fun e => by cases e) fun _ => sj_next ?_))
    · rw [decide_eq_true (show (1 : Int) ≤ (g.bases : Int) ∧ (g.bases : Int) ≤ 3 by omega)]
      rfl
    refine ij_seq (ij_sj (sj_ifd (b := false) (ET.is (et_not (et_testd (ev_call (ea_cons (ev_var rfl) ea_nil) (r_is_part (xs := g.rows.map encCrT) (by simp; omega) (by simp; omega))))) rfl) (fun e => by cases e) fun _ => sj_next ?_))
    refine ij_seq (ij_sj (sj_drop (ev_call (ea_cons (ev_var rfl) (ea_cons (ev_var rfl) ea_nil)) (r_check_rows hg)) ?_))
    refine ij_seq (ij_fld (P := Is (nD g.bases)) rfl (ev_var rfl) rfl T.gridC T.gB (by decide) fun y d e => ?_)
    refine ij_fld (P := Is (.tup (g.rows.map encCrT))) rfl (ev_var rfl) rfl T.gridC T.gR (putF_lt (n := 999) (by decide)) fun y2 d2 e2 => ?_
    subst e e2
    refine ⟨_, _, _, grdFs g, rfl, rfl, rfl, fun H hok => ?_⟩
    have e3 : putF "rows" y2 (putF "bases" y []) = ([("bases", y), ("rows", y2)] : List (Str × V)) := putF_ne (f := "rows") (g := "bases") (by decide)
    rw [e3]
    exact .cons hok.1.2 (.cons hok.2 .nil)
/-! ### flags by shapes -/
theorem src_in {s : Stp} {sh : List Shp} {made : Shp} {i j : Nat} (hs : isSrc s = true) (hf : fitS s sh) (hq : shapeOf s sh = some made) (hi : i < made.1) (hj : j < made.2) : (src s sh i j).1 ∈ parts s ∧ (src s sh i j).2.1 < (shp sh (src s sh i j).1).1 ∧ (src s sh i j).2.2 < (shp sh (src s sh i j).1).2 := by
  cases s with
  | turned a =>
    simp only [shapeOf, Option.some.injEq] at hq
    subst hq
    exact ⟨by simp [src, parts], hj, hi⟩
  | piece a i0 j0 r c =>
    simp only [shapeOf, Option.some.injEq] at hq
    subst hq
    obtain ⟨h1, h2, h3, h4⟩ := hf
    refine ⟨by simp [src, parts], ?_, ?_⟩
    · show i0 + i < (shp sh a).1
      simp only at hi
      omega
    · show j0 + j < (shp sh a).2
      simp only at hj
      omega
  | beside a b =>
    simp only [shapeOf] at hq
    split at hq
    · rename_i h
      have hq := Option.some.inj hq
      subst hq
      simp only at hi hj
      by_cases h2 : j < (shp sh a).2
      · simp only [src, if_pos h2]
        exact ⟨by simp [parts], hi, h2⟩
      · simp only [src, if_neg h2]
        exact ⟨by simp [parts], by omega, by omega⟩
    · cases hq
  | above a b =>
    simp only [shapeOf] at hq
    split at hq
    · rename_i h
      have hq := Option.some.inj hq
      subst hq
      simp only at hi hj
      by_cases h2 : i < (shp sh a).1
      · simp only [src, if_pos h2]
        exact ⟨by simp [parts], h2, hj⟩
      · simp only [src, if_neg h2]
        exact ⟨by simp [parts], by omega, by omega⟩
    · cases hq
  | _ => cases hs
theorem shb_in {p : Shp} {M : BM} {i j : Nat} (h : ShB p M) (hi : i < p.1) (hj : j < p.2) : bIn M i j := by
  have hl : i < M.length := by rw [h.1]; exact hi
  refine ⟨hl, ?_⟩
  rw [show M.getD i [] = M[i] by simp [List.getD, hl], h.2 _ (List.getElem_mem _)]
  exact hj
theorem fl_ok {s : Stp} {sh : List Shp} {Ms : List BM} {made : Shp} (hp : ∀ a ∈ parts s, a < Ms.length) (hml : Ms.length ≤ sh.length) (hf : fitS s sh) (hq : shapeOf s sh = some made) (h1 : made.1 ≤ 100) (h2 : made.2 ≤ 100) (hz : ∀ a, a < Ms.length → (shp sh a).1 ≤ 100) (hM : ∀ a, a < Ms.length → ShB (shp sh a) (bm Ms a)) : FlOk s sh made Ms := by
  have srcs : isSrc s = true → ∀ i j, i < made.1 → j < made.2 → (∀ a ∈ parts s, a < sh.length) ∧ (src s sh i j).1 < Ms.length ∧ bIn (bm Ms (src s sh i j).1) (src s sh i j).2.1 (src s sh i j).2.2 := fun hs i j hi hj => by
    obtain ⟨q1, q2, q3⟩ := src_in hs hf hq hi hj
    exact ⟨fun a ha => Nat.lt_of_lt_of_le (hp a ha) hml, hp _ q1, shb_in (hM _ (hp _ q1)) q2 q3⟩
  cases s with
  | star a =>
    have ha := hp a (by simp [parts])
    simp only [shapeOf] at hq
    split at hq
    · rename_i h
      have hq := Option.some.inj hq
      have hA := hM a ha
      refine ⟨ha, (shp sh a).1, hz a ha, ⟨hA.1, fun r hr => by rw [hA.2 r hr, ← h]⟩, ?_⟩
      rw [← hq]
      exact Prod.ext rfl h.symm
    · cases hq
  | plus a b =>
    have ha := hp a (by simp [parts])
    have hb := hp b (by simp [parts])
    simp only [shapeOf] at hq
    split at hq
    · rename_i h
      have hq := Option.some.inj hq
      subst hq
      exact ⟨h1, h2, fun i j hi hj => ⟨ha, hb, shb_in (hM a ha) hi hj, shb_in (hM b hb) (by rw [← h]; exact hi) (by rw [← h]; exact hj)⟩⟩
    · cases hq
  | times a b =>
    have ha := hp a (by simp [parts])
    have hb := hp b (by simp [parts])
    simp only [shapeOf] at hq
    split at hq
    · rename_i h
      have hq := Option.some.inj hq
      subst hq
      refine ⟨h1, h2, fun i j hi hj => ⟨ha, hb, by rw [(hM b hb).1]; exact hz b hb, fun k hk => ?_, fun k hk => ?_⟩⟩
      · rw [(hM b hb).1] at hk
        exact shb_in (hM a ha) hi (by rw [h]; exact hk)
      · rw [(hM b hb).1] at hk
        exact shb_in (hM b hb) hk hj
    · cases hq
  | turned a => exact ⟨h1, h2, srcs rfl⟩
  | beside a b => exact ⟨h1, h2, srcs rfl⟩
  | above a b => exact ⟨h1, h2, srcs rfl⟩
  | piece a i j r c => exact ⟨h1, h2, srcs rfl⟩
/-- what Script's constructor is given -/
structure ScrOk (gs : List Grd) (steps : List Stp) (sh : List Shp) : Prop where
  g1 : 1 ≤ gs.length
  g6 : gs.length ≤ 6
  b : ∃ nb, ∀ g ∈ gs, g.bases = nb
  r : ∀ g ∈ gs, g.rows.length ≤ 100 ∧ ∃ n, n ≤ 100 ∧ ∀ r ∈ g.rows, r.length = n
  s : steps.length ≤ 16
  a : ShAll gs steps sh
def flg (g : Grd) : BM := g.rows.map fun r => r.map Option.isSome
def scrFs (K : PySem.W.Frag) (gs : List Grd) (steps : List Stp) (sh : List Shp) (fl : D) : List (Str × D) := [("kept_shapes", .lst (sh.map encSh)), ("kept_flags", fl), ("grids", .tup (gs.map (encG K))), ("steps", .tup (steps.map encS))]
def R_Script_init (K : PySem.W.Frag) : List D → (List (Str × D) → Prop) → Prop := fun ds P => ∃ (gs : List Grd) (steps : List Stp) (sh : List Shp), ScrOk gs steps sh ∧ ds = [.tup (gs.map (encG K)), .tup (steps.map encS)] ∧
  P = fun fs => ∃ fl : D, fs = scrFs K gs steps sh fl
theorem d_Script_init (T : Tx K mg) (A : AtI K mg "Script" "Script.__init__" s_Script_init) (D_shapes_of : Def P w K mg base 5 "shapes_of" ["grids", "steps"] (R_shapes_of K)) (D_are_grids : Def P w K mg base 1 "are_grids" ["thing"] (R_are_grids K)) (D_flags_made : Def P w K mg base 2 "flags_made" ["step", "shapes", "flags", "made"] (R_flags_made K)) : DefI P w K mg base 6 "Script" ["self", "grids", "steps"] (R_Script_init K) := by
  obtain ⟨f, fd, F, M, hm⟩ := A.fn
  refine mk_defI F M hm (def_okI F sc_Script_init (fun ds PP h => ?_) (by decide) fun cdv A outer s H E hr ds PP h => ?_) fun _ _ _ _ _ _ us hl => match us, hl with | [_, _, _], _ => rfl
  · obtain ⟨gs, steps, sh, _, rfl, _⟩ := h
    rfl
  · obtain ⟨gs, steps, sh, ho, rfl, rfl⟩ := h
    refine ⟨_, (pss_cons (ps_if (pt_not (pt_val (pe_callD D_are_grids ⟨rfl, rfl, rfl, rfl, rfl⟩ (hr.mono (by decide)) (by rfl) (pa_cons (pv 1) pa_nil)))) (pss_one ps_never) pss_nil)
        (pss_cons (ps_if (PW.pt (pw_or (pt_not (pt_val (pe_callB (k_isi (K := K) (by rfl)) (by rfl) T.isinstance (by decide +kernel) (pa_cons (pv 2) (pa_cons (pe_bltn (v := .ty "tuple") (by rfl) T.tuple (by decide +kernel) rfl) pa_nil))))) (pw_or1 (pt_cmpR op_gt (pe_callB (k_len (K := K) (by rfl)) (by rfl) T.len (by decide +kernel) (pa_cons (pv 2) pa_nil)) (pe_gint T.MOST_STEPS (by rfl)) (nomark _))))) (pss_one ps_never) pss_nil)
        (pss_cons (k_pfld (K := K) (by rfl) (pv 0) (pe_callD D_shapes_of ⟨rfl, rfl, rfl, rfl, rfl⟩ (hr.mono (by decide)) (by rfl) (pa_cons (pv 1) (pa_cons (pv 2) pa_nil))) rfl)
        (pss_cons (k_pfld (K := K) (by rfl) (pv 0) (pe_lc (own := [("grid", 6)]) (by rfl) sc_Script_init.nd (k_seq (K := K) (by rfl) (pv 1)) (blkOk_by (by kernel_rfl)) (fun _ _ _ _ _ => (pg_name (i := 6) sc_Script_init.nd rfl (by first | exact Or.inl rfl | exact Or.inr rfl))) (fun _ _ _ _ _ => pts_nil) (fun _ _ _ _ _ => (pe_lc (own := [("row", 7)]) (by rfl) sc_Script_init.nd (k_seq (K := K) (by rfl) (k_fld (K := K) (by rfl) (pv 6) rfl)) (blkOk_by (by kernel_rfl)) (fun _ _ _ _ _ => (pg_name (i := 7) sc_Script_init.nd rfl (by first | exact Or.inl rfl | exact Or.inr rfl))) (fun _ _ _ _ _ => pts_nil) (fun _ _ _ _ _ => (pe_lc (own := [("item", 8)]) (by rfl) sc_Script_init.nd (k_seq (K := K) (by rfl) (pv 7)) (blkOk_by (by kernel_rfl)) (fun _ _ _ _ _ => (pg_name (i := 8) sc_Script_init.nd rfl (by first | exact Or.inl rfl | exact Or.inr rfl))) (fun _ _ _ _ _ => pts_nil) (fun _ _ _ _ _ => (pe_cmp (pc_notN (pv 8)) rfl))))))) rfl)
        (pss_cons (ps_for PassesOwn.never (by rfl) (k_enum (K := K) (by rfl) (by rfl) T.enumerate (pa_cons (pv 2) pa_nil)) (k_gtup (K := K) (n := 2) (by rfl) (by rfl) (pgs_cons (pg_name (i := 3) sc_Script_init.nd rfl (by first | exact Or.inl rfl | exact Or.inr rfl)) (pgs_cons (pg_name (i := 4) sc_Script_init.nd rfl (by first | exact Or.inl rfl | exact Or.inr rfl)) pgs_nil))) (pss_cons (ps_set (i := 5) sc_Script_init.nd rfl (Or.inl rfl) (pe_ix (k_ix (K := K) (by rfl)) (k_fld (K := K) (by rfl) (pv 0) rfl) (pe_op op_add (pe_callB (k_len (K := K) (by rfl)) (by rfl) T.len (by decide +kernel) (pa_cons (pv 1) pa_nil)) (pv 3)) (fun _ _ => rfl)))
        (pss_one (ps_expr (pe_bm PySem.F.plainAttrs_list PySem.F.slot_list_append PySem.F.type_list_append mt_append (k_fld (K := K) (by rfl) (pv 0) rfl) (pa_cons (pe_callD D_flags_made ⟨rfl, rfl, rfl, rfl, rfl⟩ (hr.mono (by decide)) (by rfl) (pa_cons (pv 4) (pa_cons (k_fld (K := K) (by rfl) (pv 0) rfl) (pa_cons (k_fld (K := K) (by rfl) (pv 0) rfl) (pa_cons (pv 5) pa_nil))))) pa_nil))))))
        (pss_cons (k_pfld (K := K) (by rfl) (pv 0) (pv 1) rfl)
        (pss_one (k_pfld (K := K) (by rfl) (pv 0) (pv 2) rfl)))))))), ?_⟩
    (try dsimp only [cxOf, Cx.nox, Cx.wish])
    intro x dx
    obtain ⟨nb, hnb⟩ := ho.b
    have h1 := ho.g1
    have h6 := ho.g6
    have hsl := ho.s
    have hA := ho.a
    have hshl := hA.l
    refine ij_seq (ij_sj (sj_ifd (b := false) (ET.is (et_not (et_testd (ev_call (ea_cons (ev_var rfl) ea_nil) (r_are_grids h1 h6 hnb)))) rfl) (fun e => by cases e) fun _ => sj_next ?_))
    refine ij_seq (ij_sj (sj_ifd (b := false) (ET.is (et_or (a := false) (b := false) (ET.is (et_not (et_testd (ev_cbd (ea_cons (ev_var rfl) (ea_cons ev_c ea_nil)) (rc_isi (d := .tup (steps.map encS)) rfl rfl)))) rfl) fun _ => et_testd (EV.is (ev_opd (ev_cbd (ea_cons (ev_var rfl) ea_nil) (rc_len SeqD.t)) ev_c ro_I0) (by simp; omega))) rfl) (fun e => by cases e) fun _ => sj_next ?_))
    refine ij_seq (ij_fld (P := Is (.lst (sh.map encSh))) rfl (ev_call (ea_cons (ev_var rfl) (ea_cons (ev_var rfl) ea_nil)) (r_shapes_of (by omega) (by omega) hA)) rfl T.scrC T.sK (by decide) fun y d e => ?_)
    subst e
    refine ij_seq (ij_fldF (P := Is ((gs.map flg).map encBM)) rfl (EVF.is (evf_lct gs (encG K) (fun g => encBM (flg g)) true (ev_var rfl) seqB_t (by simp) (by omega) fun i g hg => ?_) (by rw [List.map_map]; rfl)) rfl T.scrC T.sF (putF_lt (n := 999) (by decide)) fun l ds e => ?_)
    · obtain ⟨hr1, n, hn, hr2⟩ := ho.r g (List.mem_of_getElem? hg)
      have rowsE : ∀ (stt : Stt) (G0 : G), G0[6]? = some (some (encG K g)) → EV K stt ([] ++ []) (tFld K (tVar 6) "rows") G0 (Is (.tup (g.rows.map fun r => .tup (r.map encC)))) := fun stt G0 h0 => ev_fld (ev_var h0) T.gridC T.gR rfl
      refine EV.is (ev_lct g.rows (fun r => .tup (r.map encC)) (fun r => .lst (encBr (r.map Option.isSome))) true (rowsE _ _ rfl) seqB_t (by simp) (by omega) fun k r hr => ?_) ?_
      · have hrl := hr2 r (List.mem_of_getElem? hr)
        refine EV.is (ev_lct r encC (fun c => .bl c.isSome) true (ev_var rfl) seqB_t (by simp) (by omega) fun m c hc => ev_notN (ev_var rfl) (encC_not c)) ?_
        unfold encBr
        rw [List.map_map]
        rfl
      · unfold encBM flg
        rw [List.map_map]
        rfl
    subst e
    have fst : ∀ fvs : List (Str × V), fvs = putF "kept_flags" (.ref l) (putF "kept_shapes" y []) → fvs = ([("kept_shapes", y), ("kept_flags", .ref l)] : List (Str × V)) := fun fvs e => by rw [e]; exact putF_ne (f := "kept_flags") (g := "kept_shapes") (by decide)
    have hl1 : (putF "kept_flags" (.ref l) (putF "kept_shapes" y [])).lookup ("kept_shapes" : Str) = some y := by rw [fst _ rfl]; rfl
    have hl2 : (putF "kept_flags" (.ref l) (putF "kept_shapes" y [])).lookup ("kept_flags" : Str) = some (.ref l) := by rw [fst _ rfl]; rfl
    refine ij_seq (ij_sj (sj_fore steps encS true (ea_cons (ev_var rfl) ea_nil) seqB_t (fun i Γ own => ∃ (x3 x4 x5 : Option D) (Ms : List BM), Γ = [some (.raw (.ref x)), some (.tup (gs.map (encG K))), some (.tup (steps.map encS)), x3, x4, x5, none, none, none] ∧ own = [(l, Ms.map encBM)] ∧ Ms.length = gs.length + i ∧ ∀ a, a < Ms.length → ShB (shp sh a) (bm Ms a)) ⟨none, none, none, gs.map flg, rfl, rfl, by simp, fun a ha => ?_⟩ ?_ ?_))
    · have ha' : a < gs.length := by simpa using ha
      have e1 : shp sh a = grdSh gs[a] := by
        rw [← shp_take (sh := sh) ha', hA.g]
        simp [shp, List.getD, ha']
      have e2 : bm (gs.map flg) a = flg gs[a] := by simp [bm, List.getD, ha']
      obtain ⟨hr1, n, hn, hr2⟩ := ho.r gs[a] (List.getElem_mem _)
      have h0 := hA.g0 gs[a] (List.getElem_mem _)
      rw [e1, e2]
      refine ⟨by simp [flg, grdSh], fun r hr => ?_⟩
      obtain ⟨q, hq, e⟩ := List.mem_map.mp hr
      rw [← e, List.length_map, hr2 q hq]
      show n = ((gs[a]).rows.getD 0 []).length
      rw [show (gs[a]).rows.getD 0 [] = (gs[a]).rows[0]'h0 by simp [List.getD, h0]]
      exact (hr2 _ (List.getElem_mem _)).symm
    · rintro i s Γ' own' hi ⟨x3, x4, x5, Ms, rfl, rfl, hMl, hM⟩
      have hil : i < steps.length := (List.getElem?_eq_some_iff.mp hi).1
      obtain ⟨hq, q1, q2⟩ := hA.s i s hi
      have hlt : gs.length + i < sh.length := by omega
      refine sj_seq (sj_setd (d := encSh (shp sh (gs.length + i))) (ev_opd (ev_fldS (ev_var rfl) T.scrC T.sK hl1 fun H ok => ok.2) (EV.is (ev_opd (ev_cbd (ea_cons (ev_var rfl) ea_nil) (rc_len SeqD.t)) (ev_var rfl) ro_I0) (e := nD (gs.length + i)) (by simp)) (ro_ix SeqD.l (at_shp hlt))) ?_)
      have hz : ∀ a, a < Ms.length → (shp sh a).1 ≤ 100 := fun a ha => by
        by_cases hag : a < gs.length
        · have e1 : shp sh a = grdSh gs[a] := by
            rw [← shp_take (sh := sh) hag, hA.g]
            simp [shp, List.getD, hag]
          rw [e1]
          exact (ho.r gs[a] (List.getElem_mem _)).1
        · have hk : a - gs.length < steps.length := by omega
          have := (hA.s (a - gs.length) steps[a - gs.length] (List.getElem?_eq_getElem hk)).2.1
          rw [show gs.length + (a - gs.length) = a by omega] at this
          omega
      have hfl := fl_ok (Ms := Ms) (fun a ha => by rw [hMl]; exact hA.p i s hi a ha) (by omega) (hA.f i s hi) hq (by omega) (by omega) hz hM
      refine sj_appE (l := l) (k := 0) (ev_fldS (ev_var rfl) T.scrC T.sF hl2 fun H ok => .raw _) rfl (ev_callM [(l, Ms.map encBM)] (ea_cons (ev_var rfl) (ea_cons (ev_fldS (ev_var rfl) T.scrC T.sK hl1 fun H ok => ok.2) (ea_cons (ev_fldS (ev_var rfl) T.scrC T.sF hl2 fun H ok => .raw _) (ea_cons (ev_var rfl) ea_nil)))) (fun p hp => hp) (r_flags_made hfl)) (by simp; omega) ?_
      rintro d ⟨M, hM1, rfl⟩
      refine ⟨_, _, _, Ms ++ [M], rfl, by simp, by simp [hMl]; omega, fun a ha => ?_⟩
      by_cases hal : a < Ms.length
      · rw [show bm (Ms ++ [M]) a = bm Ms a by simp [bm, List.getD, List.getElem?_append_left hal]]
        exact hM a hal
      · have ea : a = Ms.length := by
          simp at ha
          omega
        subst ea
        rw [show bm (Ms ++ [M]) Ms.length = M by simp [bm, List.getD], hMl]
        exact hM1
    · rintro Γ' own' ⟨x3, x4, x5, Ms, rfl, rfl, hMl, hM⟩
      refine ij_frz (k := 0) rfl rfl ?_
      refine ij_seq (ij_fld (P := Is (.tup (gs.map (encG K)))) rfl (ev_var rfl) rfl T.scrC T.sG (putF_lt (n := 999) (putF_lt (n := 998) (by decide))) fun y3 d3 e3 => ?_)
      refine ij_fld (P := Is (.tup (steps.map encS))) rfl (ev_var rfl) rfl T.scrC T.sS (putF_lt (n := 999) (putF_lt (n := 998) (putF_lt (n := 997) (by decide)))) fun y4 d4 e4 => ?_
      subst e3 e4
      refine ⟨_, _, _, _, rfl, rfl, ⟨.lst (Ms.map encBM), rfl⟩, fun H hok => ?_⟩
      rw [fst _ rfl]
      have e5 : putF "steps" y4 (putF "grids" y3 ([("kept_shapes", y), ("kept_flags", .ref l)] : List (Str × V))) = ([("kept_shapes", y), ("kept_flags", .ref l), ("grids", y3), ("steps", y4)] : List (Str × V)) := by
        have a1 : ∀ v r, putF "grids" v (("kept_shapes", y) :: r) = (("kept_shapes" : Str), y) :: putF "grids" v r := fun v r => putF_ne (f := "grids") (g := "kept_shapes") (by decide)
        have a2 : ∀ v r, putF "grids" v (("kept_flags", V.ref l) :: r) = (("kept_flags" : Str), V.ref l) :: putF "grids" v r := fun v r => putF_ne (f := "grids") (g := "kept_flags") (by decide)
        have a3 : ∀ v r, putF "steps" v (("kept_shapes", y) :: r) = (("kept_shapes" : Str), y) :: putF "steps" v r := fun v r => putF_ne (f := "steps") (g := "kept_shapes") (by decide)
        have a4 : ∀ v r, putF "steps" v (("kept_flags", V.ref l) :: r) = (("kept_flags" : Str), V.ref l) :: putF "steps" v r := fun v r => putF_ne (f := "steps") (g := "kept_flags") (by decide)
        have a5 : ∀ v r, putF "steps" v (("grids", y3) :: r) = (("grids" : Str), y3) :: putF "steps" v r := fun v r => putF_ne (f := "steps") (g := "grids") (by decide)
        rw [a1, a2, show putF "grids" y3 [] = ([("grids", y3)] : List (Str × V)) from rfl, a3, a4, a5]
        rfl
      rw [e5]
      exact .cons hok.1.1.1.2 (.cons hok.1.1.2 (.cons hok.1.2 (.cons hok.2 .nil)))
end U
set_option maxHeartbeats 4000000
/-! H8: l_grid, l_script. -/
namespace U
open PySem PyProof.Rows L2 Evl RZ
local macro_rules | `(tactic| walk_at "u") => `(tactic| first
  | ((with_reducible apply ev_cT) <;> assumption)
  | with_reducible apply ev_c
  | ((with_reducible apply ev_var); rfl)
  | with_reducible apply ea_nil
  | ((with_reducible apply ea_cons) <;> (try walk_at "u"))
  | ((with_reducible apply ev_opd) <;> (try walk_at "u"))
  | with_reducible apply ro_I0
  | ((with_reducible apply ro_I) <;> (try walk_at "s"))
  | ((with_reducible apply ro_ix) <;> (try walk_at "s"))
  | ((with_reducible apply ro_eq); rfl)
  | ((with_reducible apply ro_ne); rfl)
  | ((with_reducible apply ev_un) <;> (try walk_at "u"))
  | ((with_reducible apply ev_tup) <;> (try walk_at "u"))
  | ((with_reducible apply ev_lst) <;> (try walk_at "u"))
  | ((with_reducible apply ev_cbd) <;> (try walk_at "u"))
  | ((with_reducible apply rc_len) <;> (try walk_at "s"))
  | with_reducible apply rc_abs
  | with_reducible apply rc_int
  | with_reducible apply rc_intb
  | ((with_reducible apply rc_list) <;> (try walk_at "s"))
  | ((with_reducible apply rc_tup) <;> (try walk_at "s"))
  | ((with_reducible apply rc_isi) <;> (try walk_at "s"))
  | ((with_reducible apply ev_call) <;> (try walk_at "u"))
  | ((with_reducible apply ev_and2) <;> (try walk_at "u"))
  | ((with_reducible apply ev_or2) <;> (try walk_at "u"))
  | ((with_reducible apply ev_notV) <;> (try walk_at "u"))
  | ((with_reducible apply ev_chain) <;> (try walk_at "u"))
  | ((with_reducible apply et_testd) <;> (try walk_at "u"))
  | ((with_reducible apply et_B) <;> (try walk_at "u"))
  | ((with_reducible apply et_and) <;> (try walk_at "u"))
  | ((with_reducible apply et_or) <;> (try walk_at "u"))
  | ((with_reducible apply et_not) <;> (try walk_at "u"))
  | ((with_reducible intro h_) <;> (try walk_at "u"))
  | exact len_ok rfl
  | decide)
local macro_rules | `(tactic| walk_at "s") => `(tactic| first
  | with_reducible assumption
  | exact SeqD.l
  | exact SeqD.t
  | exact seqB_l
  | exact seqB_t
  | with_reducible exact ok_encO _
  | with_reducible exact sh_encO _
  | with_reducible rfl
  | ((with_reducible refine Eq.trans ?_ rfl); rfl)
  | assumption
  | decide)
variable {P : Program} {w : World} {K : PySem.W.Frag} {mg : Str → Option Value} {base : Heap}
/-- the grid of cells drawn -/
def grdOf (nb : Nat) (rows : List (List Cl)) : Grd := ⟨nb, rows.map fun r => r.map unitC⟩
theorem cellG_of {nb : Nat} {c : Cl} (h : ClOk nb c) : CellG nb (unitC c) := by
  cases c with
  | none => trivial
  | some xs =>
    obtain ⟨hl, hx⟩ := h
    refine ⟨by simp [hl], fun q hq => ?_⟩
    obtain ⟨x, hxm, e⟩ := List.mem_map.mp hq
    obtain ⟨b, b1, b4, t, t1, t2, t3⟩ := hx x hxm
    have e2 : mkRat x 12 = mkRat t b := by
      rw [Rat.mkRat_eq_iff (by decide) (by omega)]
      omega
    have hg : 0 < b.gcd t.natAbs := Nat.gcd_pos_of_pos_left _ (by omega)
    rw [← e, e2]
    refine ⟨?_, ?_⟩
    · rw [Rat.num_mkRat, if_neg (by omega)]
      refine Nat.le_trans (Int.natAbs_ediv_le_natAbs _ _) ?_
      omega
    · rw [Rat.den_mkRat, if_neg (by omega)]
      exact Nat.le_trans (Nat.div_le_self _ _) b4
theorem grdOk_of {nb n : Nat} {rows : List (List Cl)} (h1 : 1 ≤ nb) (h3 : nb ≤ 3) (n1 : 1 ≤ n) (n3 : n ≤ 4) (h : SqCl nb n rows) : GrdOk (grdOf nb rows) := by
  refine ⟨⟨h1, h3⟩, ⟨by simp [grdOf, h.l, n1], by simp [grdOf, h.l]; omega⟩, ⟨n, n1, by omega, fun r hr => ?_⟩, fun r hr c hc => ?_⟩
  · obtain ⟨q, hq, e⟩ := List.mem_map.mp hr
    rw [← e, List.length_map, h.r q hq]
  · obtain ⟨q, hq, e⟩ := List.mem_map.mp hr
    subst e
    obtain ⟨d, hd, e⟩ := List.mem_map.mp hc
    rw [← e]
    exact cellG_of (h.c q hq d hd)
def R_l_grid (K : PySem.W.Frag) : RT := fun ds st mu P => ∃ (nb n : Nat) (rows : List (List Cl)), 1 ≤ nb ∧ nb ≤ 3 ∧ 1 ≤ n ∧ n ≤ 4 ∧ SqCl nb n rows ∧ ds = [nD nb, encCm rows] ∧ st = none ∧ mu = [] ∧ P = Is (encG K (grdOf nb rows))
theorem d_l_grid (T : Tx K mg) (A : At K mg "_law_grid" s_l_grid) (D_Grid : DefI P w K mg base 6 "Grid" ["self", "bases", "rows"] (R_Grid_init K)) (D_l_unit : Def P w K mg base 2 "_law_unit" ["_law_cell_here"] (R_l_unit K)) : Def P w K mg base 8 "_law_grid" ["_law_bases", "_law_rows"] (R_l_grid K) := by
  obtain ⟨f, fd, F, hm⟩ := A.fn
  refine mk_def F hm (def_ok F sc_l_grid (fun ds st mu PP h => ?_) (by decide) fun cdv A outer s H E hr ds st mu PP h => ?_) fun _ _ _ _ _ _ us hl => match us, hl with | [_, _], _ => rfl
  · obtain ⟨nb, n, rows, _, _, _, _, _, rfl, _⟩ := h
    rfl
  · obtain ⟨nb, n, rows, h1, h3, n1, n4, hs, rfl, rfl, rfl, rfl⟩ := h
    refine ⟨_, (pss_one (ps_ret (pe_makeD D_Grid ⟨rfl, rfl, rfl, rfl, rfl⟩ (hr.mono (by decide)) (by rfl) (pa_cons (pv 0) (pa_cons (pe_callTy (k_tup (K := K) (by rfl)) (by rfl) T.tuple (by decide +kernel) (pa_cons (pe_lc (own := [("_law_row_here", 2)]) (by rfl) sc_l_grid.nd (k_seq (K := K) (by rfl) (pv 1)) (blkOk_by (by kernel_rfl)) (fun _ _ _ _ _ => (pg_name (i := 2) sc_l_grid.nd rfl (by first | exact Or.inl rfl | exact Or.inr rfl))) (fun _ _ _ _ _ => pts_nil) (fun _ _ _ _ _ => (pe_callTy (k_tup (K := K) (by rfl)) (by rfl) T.tuple (by decide +kernel) (pa_cons (pe_lc (own := [("_law_cell_here", 3)]) (by rfl) sc_l_grid.nd (k_seq (K := K) (by rfl) (pv 2)) (blkOk_by (by kernel_rfl)) (fun _ _ _ _ _ => (pg_name (i := 3) sc_l_grid.nd rfl (by first | exact Or.inl rfl | exact Or.inr rfl))) (fun _ _ _ _ _ => pts_nil) (fun _ _ _ _ _ => (pe_callD D_l_unit ⟨rfl, rfl, rfl, rfl, rfl⟩ (hr.mono (by decide)) (by rfl) (pa_cons (pv 3) pa_nil)))) pa_nil)))) pa_nil)) pa_nil))))), ?_⟩
    (try dsimp only [cxOf, Cx.nox, Cx.wish])
    have hrl := hs.l
    refine sj_ret (EV.imp (ev_make (ds := [nD nb, .tup ((grdOf nb rows).rows.map encCrT)]) (P := Is (grdFs (grdOf nb rows))) (ea_cons (ev_var rfl) (ea_cons (EV.is (ev_cbd (ea_cons (ev_lct rows encCr (fun r => encCrT (r.map unitC)) false (ev_var rfl) seqB_l (by simp) (by omega) fun i r hr => ?_) ea_nil) (rc_tup SeqD.l)) ?_) ea_nil)) ⟨grdOf nb rows, grdOk_of h1 h3 n1 n4 hs, rfl, rfl⟩) fun d ⟨fs, e1, e2⟩ => ?_)
    · have hr' := hs.r r (List.mem_of_getElem? hr)
      refine EV.is (ev_cbd (ea_cons (ev_lct r encCl (fun c => encC (unitC c)) false (ev_var rfl) seqB_l (by simp) (by omega) fun k c hc => ev_call (ea_cons (ev_var rfl) ea_nil) (r_l_unit (nb := nb) (by omega) (hs.c r (List.mem_of_getElem? hr) c (List.mem_of_getElem? hc)))) ea_nil) (rc_tup SeqD.l)) ?_
      show _ = D.tup ((r.map unitC).map encC)
      rw [List.map_map]
      rfl
    · show _ = D.tup ((rows.map fun r => r.map unitC).map encCrT)
      rw [List.map_map]
      rfl
    · rw [e2, e1]
      rfl
theorem r_l_grid {nb n : Nat} {rows : List (List Cl)} (h1 : 1 ≤ nb) (h3 : nb ≤ 3) (n1 : 1 ≤ n) (n4 : n ≤ 4) (h : SqCl nb n rows) : R_l_grid K [nD nb, encCm rows] none [] (Is (encG K (grdOf nb rows))) := ⟨nb, n, rows, h1, h3, n1, n4, h, rfl, rfl, rfl, rfl⟩
abbrev encWd (nb : Nat) (gc : List (List (List Cl))) (steps : List Stp) (sh : List Shp) : D := .lst [nD nb, .lst (gc.map encCm), .lst (steps.map encS), .lst (sh.map encSh)]
/-- Script's instance -/
def ScrP (K : PySem.W.Frag) (nb : Nat) (gc : List (List (List Cl))) (steps : List Stp) (sh : List Shp) : D → Prop := fun d => ∃ fl, d = encScr K ⟨sh, fl, (gc.map (grdOf nb)).map (encG K), steps⟩
def R_l_script (K : PySem.W.Frag) : RT := fun ds st mu P => ∃ (nb n : Nat) (gc : List (List (List Cl))) (steps : List Stp) (sh : List Shp), 1 ≤ nb ∧ nb ≤ 3 ∧ 1 ≤ n ∧ n ≤ 4 ∧ (∀ rows ∈ gc, SqCl nb n rows) ∧ ScrOk (gc.map (grdOf nb)) steps sh ∧ ds = [encWd nb gc steps sh] ∧ st = none ∧ mu = [] ∧ P = ScrP K nb gc steps sh
theorem d_l_script (T : Tx K mg) (A : At K mg "_law_script" s_l_script) (D_Script : DefI P w K mg base 6 "Script" ["self", "grids", "steps"] (R_Script_init K)) (D_l_grid : Def P w K mg base 8 "_law_grid" ["_law_bases", "_law_rows"] (R_l_grid K)) : Def P w K mg base 9 "_law_script" ["_law_world_here"] (R_l_script K) := by
  obtain ⟨f, fd, F, hm⟩ := A.fn
  refine mk_def F hm (def_ok F sc_l_script (fun ds st mu PP h => ?_) (by decide) fun cdv A outer s H E hr ds st mu PP h => ?_) fun _ _ _ _ _ _ us hl => match us, hl with | [_], _ => rfl
  · obtain ⟨nb, n, gc, steps, sh, _, _, _, _, _, _, rfl, _⟩ := h
    rfl
  · obtain ⟨nb, n, gc, steps, sh, h1, h3, n1, n4, hg, ho, rfl, rfl, rfl, rfl⟩ := h
    refine ⟨_, (pss_one (ps_ret (pe_makeD D_Script ⟨rfl, rfl, rfl, rfl, rfl⟩ (hr.mono (by decide)) (by rfl) (pa_cons (pe_callTy (k_tup (K := K) (by rfl)) (by rfl) T.tuple (by decide +kernel) (pa_cons (pe_lc (own := [("_law_rows", 1)]) (by rfl) sc_l_script.nd (k_seq (K := K) (by rfl) (pe_ix (k_ix (K := K) (by rfl)) (pv 0) pe_int (fun _ _ => rfl))) (blkOk_by (by kernel_rfl)) (fun _ _ _ _ _ => (pg_name (i := 1) sc_l_script.nd rfl (by first | exact Or.inl rfl | exact Or.inr rfl))) (fun _ _ _ _ _ => pts_nil) (fun _ _ _ _ _ => (pe_callD D_l_grid ⟨rfl, rfl, rfl, rfl, rfl⟩ (hr.mono (by decide)) (by rfl) (pa_cons (pe_ix (k_ix (K := K) (by rfl)) (pv 0) pe_int (fun _ _ => rfl)) (pa_cons (pv 1) pa_nil))))) pa_nil)) (pa_cons (pe_callTy (k_tup (K := K) (by rfl)) (by rfl) T.tuple (by decide +kernel) (pa_cons (pe_ix (k_ix (K := K) (by rfl)) (pv 0) pe_int (fun _ _ => rfl)) pa_nil)) pa_nil))))), ?_⟩
    (try dsimp only [cxOf, Cx.nox, Cx.wish])
    have hgl : gc.length ≤ 6 := by have := ho.g6; simpa using this
    have it0 : ∀ {a b c d : D}, atI [a, b, c, d] (1 : Int) = some b := rfl
    have it2 : ∀ {a b c d : D}, atI [a, b, c, d] (2 : Int) = some c := rfl
    refine sj_ret (EV.imp (ev_make (ds := [.tup ((gc.map (grdOf nb)).map (encG K)), .tup (steps.map encS)]) (P := fun fs => ∃ fl : D, fs = scrFs K (gc.map (grdOf nb)) steps sh fl) (ea_cons (EV.is (ev_cbd (ea_cons (ev_lct gc encCm (fun rows => encG K (grdOf nb rows)) false (ev_opd (ev_var rfl) ev_c (ro_ix SeqD.l it0)) seqB_l (by simp) (by omega) fun i rows hr => ?_) ea_nil) (rc_tup SeqD.l)) ?_) (ea_cons (ev_cbd (ea_cons (ev_opd (ev_var rfl) ev_c (ro_ix SeqD.l it2)) ea_nil) (rc_tup SeqD.l)) ea_nil)) ⟨_, steps, sh, ho, rfl, rfl⟩) fun d ⟨fs, ⟨fl, e1⟩, e2⟩ => ⟨fl, by rw [e2, e1]; rfl⟩)
    · exact ev_call (ea_cons (ev_opd (ev_var rfl) ev_c (ro_ix SeqD.l at_head)) (ea_cons (ev_var rfl) ea_nil)) (r_l_grid h1 h3 n1 n4 (hg rows (List.mem_of_getElem? hr)))
    · rw [List.map_map]
      rfl
theorem r_l_script {nb n : Nat} {gc : List (List (List Cl))} {steps : List Stp} {sh : List Shp} (h1 : 1 ≤ nb) (h3 : nb ≤ 3) (n1 : 1 ≤ n) (n4 : n ≤ 4) (hg : ∀ rows ∈ gc, SqCl nb n rows) (h : ScrOk (gc.map (grdOf nb)) steps sh) : R_l_script K [encWd nb gc steps sh] none [] (ScrP K nb gc steps sh) := ⟨nb, n, gc, steps, sh, h1, h3, n1, n4, hg, h, rfl, rfl, rfl, rfl⟩
end U
set_option maxHeartbeats 4000000
/-! H9: l_start; defs that give back lists that may still change. -/
namespace U
open PySem PyProof.Rows L2 Evl RZ
local macro_rules | `(tactic| walk_at "u") => `(tactic| first
  | ((with_reducible apply ev_cT) <;> assumption)
  | with_reducible apply ev_c
  | ((with_reducible apply ev_var); rfl)
  | with_reducible apply ea_nil
  | ((with_reducible apply ea_cons) <;> (try walk_at "u"))
  | ((with_reducible apply ev_opd) <;> (try walk_at "u"))
  | with_reducible apply ro_I0
  | ((with_reducible apply ro_I) <;> (try walk_at "s"))
  | ((with_reducible apply ro_ix) <;> (try walk_at "s"))
  | ((with_reducible apply ro_eq); rfl)
  | ((with_reducible apply ro_ne); rfl)
  | ((with_reducible apply ev_un) <;> (try walk_at "u"))
  | ((with_reducible apply ev_tup) <;> (try walk_at "u"))
  | ((with_reducible apply ev_lst) <;> (try walk_at "u"))
  | ((with_reducible apply ev_cbd) <;> (try walk_at "u"))
  | ((with_reducible apply rc_len) <;> (try walk_at "s"))
  | with_reducible apply rc_abs
  | with_reducible apply rc_int
  | with_reducible apply rc_intb
  | ((with_reducible apply rc_list) <;> (try walk_at "s"))
  | ((with_reducible apply rc_tup) <;> (try walk_at "s"))
  | ((with_reducible apply rc_isi) <;> (try walk_at "s"))
  | ((with_reducible apply ev_call) <;> (try walk_at "u"))
  | ((with_reducible apply ev_and2) <;> (try walk_at "u"))
  | ((with_reducible apply ev_or2) <;> (try walk_at "u"))
  | ((with_reducible apply ev_notV) <;> (try walk_at "u"))
  | ((with_reducible apply ev_chain) <;> (try walk_at "u"))
  | ((with_reducible apply et_testd) <;> (try walk_at "u"))
  | ((with_reducible apply et_B) <;> (try walk_at "u"))
  | ((with_reducible apply et_and) <;> (try walk_at "u"))
  | ((with_reducible apply et_or) <;> (try walk_at "u"))
  | ((with_reducible apply et_not) <;> (try walk_at "u"))
  | ((with_reducible intro h_) <;> (try walk_at "u"))
  | exact len_ok rfl
  | decide)
local macro_rules | `(tactic| walk_at "s") => `(tactic| first
  | with_reducible assumption
  | exact SeqD.l
  | exact SeqD.t
  | exact seqB_l
  | exact seqB_t
  | with_reducible exact ok_encO _
  | with_reducible exact sh_encO _
  | with_reducible rfl
  | ((with_reducible refine Eq.trans ?_ rfl); rfl)
  | assumption
  | decide)
variable {P : Program} {w : World} {K : PySem.W.Frag} {mg : Str → Option Value} {base : Heap}
theorem k_slL {X : Cx} {K : PySem.W.Frag} (h : X.K = K) : SlR X (rSlL K) := by subst h; exact sl_list
theorem k_ilist {X : Cx} {K : PySem.W.Frag} {tg l : Expr} {tl : TE} (h : X.K = K) (hl : PE X l tl) : PI X tg l (iList K tl) := by subst h; exact pi_list hl
/-- for x in a list that is lent -/
theorem it_listM {st : Stt} {mu : Mu} {Γ : G} {tl : TE} {j : Nat} {l : Addr} {ds : List D} (h : EV K st mu tl Γ (Is (.raw (.ref l)))) (hm : (l, ds) ∈ mu) : IT K st mu [(l, ds)] (iList K tl) (gName j) [j] (WIs ds.length (tSet j fun i => ds[i]?)) Γ := fun σ H0 H i s m n R r =>
  h σ H0 H i s m n _ fun v d H1 H2 g1 s1 e rv => by
    subst e
    cases rv
    have m1 := m.gr g1
    have later : ∀ A0 A : Hp, MuR K st [(l, ds)] A0 A → ∃ vs, SqL K A l vs ∧ RpAll K A0 vs ds := fun A0 A mm => by
      obtain ⟨_, vs, h1, r1⟩ := mm (l, ds) (by simp)
      exact ⟨vs, SqL.of h1, r1⟩
    obtain ⟨vs0, q0, _⟩ := later H1 H2 (m1.sub fun p hp => by rw [List.mem_singleton.mp hp]; exact hm)
    refine ⟨l, rfl, ⟨vs0, q0⟩, r _ ds.length _ H1 H2 ⟨rfl, rfl⟩ g1 s1 (fun i' A0 A hi e1 e2 mm => ?_) (fun A0 A e1 e2 mm => ?_) (fun i' A0 A x A' hi e1 e2 mm y σc Γc nc cont hc => ?_)⟩
    · obtain ⟨vs, q, rr⟩ := later A0 A mm
      have hl := rr.length
      exact ⟨vs, vs[i'], q, by simp⟩
    · obtain ⟨vs, q, rr⟩ := later A0 A mm
      exact ⟨vs, q, by rw [rr.length]; exact Nat.le_refl _⟩
    · obtain ⟨vs, q, rr⟩ := later A0 A mm
      obtain ⟨e, hx⟩ := y
      subst e
      obtain ⟨dd, hd, rd⟩ := rr.getV (hx vs q)
      exact to_name rd e2 nc (by show Γc.set j ds[i']? = _; rw [hd]) hc
theorem start_at {K : PySem.W.Frag} {tl : TE} {g : TG} {tt : TT} {te : TE} {vs : List Nat} {tg : TG} {rest : TS} {D : Ends} {σ : L2.St} {H : Hp} {o : HO} (h : ∀ Q : VK, (∀ q, H q = none → Q (.ref q) (upd H q o)) → tl σ H Q) (k : ∀ q, H q = none → (tSeq (tAsg (tLc (iList K (tC (.ref q))) g tt te vs) tg) rest) D σ (upd H q o)) :
    (tSeq (tAsg (tLc (iList K tl) g tt te vs) tg) rest) D σ H := h _ k
section
variable {c : Cn} {Γ : G} {own : Mu} {NX : G → Mu → Prop} {te : TE} {PV : D → Prop}
theorem sj_retW (h : EV c.K c.st (c.bor ++ own) te Γ PV) (k : ∀ d, PV d → c.P d ∧ c.W d own) : SJ c (tRet te) Γ own NX := fun B0 B H0 σ H w D nx ct bk rt =>
  h σ H0 H w.i w.s w.mu w.n _ fun v d H1 H' g s p r => rt v d own H1 H' (w.gr.trans g) s (k d p).1 (k d p).2 (w.o.step g) r
end
theorem sj_run {c : Cn} {ts : TS} {Γ : G} {own : Mu} {NX : G → Mu → Prop} {σ : L2.St} {H : Hp} {D : Ends} (B0 B H0 : Hp) (w : Wd c B0 B H0 Γ own σ H)
    (nx : ∀ Γ' own' H1 σ' H', NX Γ' own' → Wd c B0 B H1 Γ' own' σ' H' → D.nx σ' H') (ct : ∀ Γ' own' H1 σ' H', c.ct Γ' own' → Wd c B0 B H1 Γ' own' σ' H' → D.ct σ' H') (bk : ∀ Γ' own' H1 σ' H', c.bk Γ' own' → Wd c B0 B H1 Γ' own' σ' H' → D.bk σ' H')
    (rt : ∀ v d own' H1 H', Gr (Sx c.st) B0 B H1 H' → StOk c.st H1 H' → c.P d → c.W d own' → OwnOk c.K c.st B H1 H' own' → Rp c.K H1 v d → D.rt v H') (h : SJ c ts Γ own NX) : ts D σ H := h B0 B H0 σ H w D nx ct bk rt
/-! ### l_start -/
def spStart (K : PySem.W.Frag) : Sp := fun vs H Q _ => ∃ (p : Addr) (ns : List Int), vs = [.ref p] ∧ SqL K H p (ns.map V.int) ∧ ∀ a c H' ms, Ex H H' → H a = none → H c = none → StAt a c H' ms 0 0 → Q (.ref a) H'
def StartW (d : D) (own : Mu) : Prop := ∃ (a c : Addr) (ms : List Int) (k1 k2 : Nat), d = .raw (.ref a) ∧ own[k1]? = some (a, [.raw (.ref c), .int 0, .int 0]) ∧ own[k2]? = some (c, ms.map D.int) ∧ k1 ≠ k2 ∧ ms ≠ [] ∧ ms.length ≤ 63 ∧ ∀ x ∈ ms, 0 ≤ x
/-- a def of the top by any promise -/
def DefP (P : Program) (w : World) (K : PySem.W.Frag) (mg : Str → Option Value) (base : Heap) (k : Nat) (x : Str) (ps : List Str) (sp : Sp) : Prop :=
  ∃ (f : Addr) (fd : FuncData), FnOk P w K mg base CX0 k f fd ps sp ∧ mg x = some (.ref f) ∧ PySem.W.keepIn K (.ref f) = true ∧ Binds K fd ps []
theorem mk_defP {k : Nat} {x : Str} {ps : List Str} {sp : Sp} {params : Arguments} {body : List Stmt} {scope : Scope} {f : Addr} {fd : FuncData} (F : FunD K x x params body scope [] [] f fd) (hm : mg x = some (.ref f)) (G : FnOk P w K mg base CX0 k f fd ps sp)
    (h : ∀ (kV doc pm : Value) (an : Option Addr) (cdv ct : Value) (us : List Value), us.length = ps.length → bindArgs (PySem.W.fnOf x x params body scope .none kV doc pm an cdv ct) ⟨us, []⟩ = pure (ps.zip us)) : DefP P w K mg base k x ps sp :=
  ⟨f, fd, G, hm, F.kp, F.bindsN h⟩
theorem d_l_start (T : Tx K mg) (A : At K mg "_law_start" s_l_start) : DefP P w K mg base 1 "_law_start" ["_law_script_here"] (spStart K) := by
  obtain ⟨f, fd, F, hm⟩ := A.fn
  refine mk_defP F hm (F.ok (k := 0) sc_l_start (fun vs H Q E h => ?_) (fun cdv A outer s H vs Q E hr h => ?_)) fun _ _ _ _ _ _ us hl => match us, hl with | [_], _ => rfl
  · obtain ⟨p, ns, rfl, _⟩ := h
    rfl
  · obtain ⟨p, ns, rfl, hS, q⟩ := h
    suffices hh : ∃ t, PSs (cxOf CX0 P w K mg base n_l_start "_law_start" (defScope s_l_start) f cdv A outer s H E).nox (defBody s_l_start) t ∧ t { nx := fun _ H' => Q .non H', rt := Q } (start n_l_start [.ref p]) H by
      obtain ⟨t, h1, h2⟩ := hh
      exact ⟨t, h1.nox, h2⟩
    refine ⟨_, (pss_cons (ps_setLc (i := 1) (own := [("_law_cell_here", 2)]) (by rfl) sc_l_start.nd rfl rfl (sw_true rfl rfl rfl (by decide +kernel)) (k_ilist (K := K) (by rfl) (pe_slice (k_slL (K := K) (by rfl)) (pv 0) po_none (po_some pe_int))) (blkOk_by (by kernel_rfl)) (fun _ _ _ _ _ => (pg_name (i := 2) sc_l_start.nd rfl (by first | exact Or.inl rfl | exact Or.inr rfl))) (fun _ _ _ _ _ => pts_nil) (fun _ _ _ _ _ => (pe_callB cl_abs (by rfl) T.abs (by decide +kernel) (pa_cons (pe_callTy cl_int (by rfl) T.int (by decide +kernel) (pa_cons (pv 2) pa_nil)) pa_nil))))
        (pss_cons (ps_if (pt_cmpR op_eq (pe_callB (k_len (K := K) (by rfl)) (by rfl) T.len (by decide +kernel) (pa_cons (pv 1) pa_nil)) pe_int (nomark _)) (pss_one (ps_set (i := 1) sc_l_start.nd rfl (Or.inl rfl) (pe_lst (pa_cons pe_int pa_nil)))) pss_nil)
        (pss_one (ps_ret (pe_lst (pa_cons (pv 1) (pa_cons pe_int (pa_cons pe_int pa_nil)))))))), ?_⟩
    (try dsimp only [cxOf, Cx.nox, Cx.wish])
    refine start_at (o := .lst (cutV (ns.map V.int) none (some 63))) (fun Q' k => ⟨.ref p, rfl, 63, rfl, p, _, rfl, hS, k⟩) fun l hl => ?_
    have ecut : cutV (ns.map V.int) none (some 63) = (ns.take 63).map V.int := by
      unfold cutV
      rw [HT.sIx_none, show (some (63 : Int)) = some ((63 : Nat) : Int) from rfl, HT.sIx_nat, List.drop_zero, List.map_take]
      by_cases h3 : 63 ≤ (ns.map V.int).length
      · rw [Nat.min_eq_left h3, Nat.sub_zero]
      · rw [Nat.min_eq_right (by omega), Nat.sub_zero, List.take_length, List.take_of_length_le (by omega)]
    rw [ecut]
    have hms : (ns.take 63).length ≤ 63 := by rw [List.length_take]; omega
    generalize ns.take 63 = ms at hms
    refine sj_run (c := ⟨K, none, [(l, ms.map D.int)], fun _ => True, fun _ _ => False, fun _ _ => False, StartW⟩) (Γ := [some (.raw (.ref p)), none, none]) (own := []) (NX := fun _ _ => False) (fun _ => none) (upd H l (.lst (ms.map V.int))) (fun _ => none) ?_ (fun _ _ _ _ _ z => z.elim) (fun _ _ _ _ _ z => z.elim) (fun _ _ _ _ _ z => z.elim) (fun v d own' H1 H' g s' _ hw o r => ?_) ?_
    · have e0 : ∀ H : Hp, Ex (fun _ => none) H := fun H a o h => by cases h
      refine ⟨Gr.refl (e0 _), trivial, fun q hq => ?_, fun q hq => ?_, ?_, ⟨by simp, (fun _ h => by cases h), (fun _ h => by cases h), (fun _ h => by cases h), (fun _ h => by cases h)⟩⟩
      · rw [List.mem_singleton.mp hq]
        refine ⟨by simp [Sx], _, upd_same, ?_⟩
        have := RpAll.ofRaws (K := K) (H := fun _ => none) (ms.map V.int)
        rwa [List.map_map] at this
      · rw [List.mem_singleton.mp hq, upd_same]
        exact fun z => by cases z
      · exact En.start (N := n_l_start) (ds := [.raw (.ref p)]) (.one (.raw _)) (by show 1 ≤ 3; decide)
    · obtain ⟨a, c, ms', k1, k2, rfl, h1, h2, hne, m0, m63, mp⟩ := hw
      cases r
      obtain ⟨vs, q1, q2⟩ := o.h _ (List.mem_of_getElem? h1)
      obtain ⟨ws, q3, q4⟩ := o.h _ (List.mem_of_getElem? h2)
      have e1 : vs = [.ref c, .int 0, .int 0] := RpAll.raws (K := K) (H := H1) (xs := [.ref c, .int 0, .int 0]) q2
      have e2 : ws = ms'.map V.int := ints_of q4
      subst e1 e2
      have fr : ∀ x, upd H l (.lst (ms.map V.int)) x = none → H x = none := fun x hx => by
        by_cases e : x = l
        · rw [e]; exact hl
        · rwa [upd_ne e] at hx
      refine q a c H' ms' ((Ex.new hl).trans (Gr.ex g)) (fr a (o.b _ (List.mem_of_getElem? h1))) (fr c (o.b _ (List.mem_of_getElem? h2))) ⟨q1, q3, fun e => ?_, mp, m0, m63, by decide, by decide⟩
      subst e
      exact hne (nd_keys o.nd h1 h2)
    refine sj_seq (sj_setF (evf_lcd (it_listM (ds := ms.map D.int) ev_c (by simp)) (fun p hp => by simpa using hp) (by simp) (by simp; omega) (fun i => .int ((ms.getD i 0).natAbs : Int)) fun i hi => ?_) fun ds c hds => ?_)
    · have hi' : i < ms.length := by simpa using hi
      have e : (ms.map D.int)[i]? = some (.int (ms.getD i 0)) := by
        rw [List.getElem?_map, List.getElem?_eq_getElem hi']
        simp [List.getD, hi']
      show EV K none _ _ (List.set _ 2 ((ms.map D.int)[i]?)) _
      rw [e]
      exact ev_cbd (ea_cons (ev_cbd (ea_cons (ev_var rfl) ea_nil) rc_int) ea_nil) rc_abs
    have e2 : ds = ((List.range ms.length).map fun i => ((ms.getD i 0).natAbs : Int)).map D.int := by
      rw [hds, List.length_map, List.map_map]
      rfl
    have hp2 : ∀ x ∈ (List.range ms.length).map fun i => ((ms.getD i 0).natAbs : Int), 0 ≤ x := fun x hx => by
      obtain ⟨i, _, e⟩ := List.mem_map.mp hx
      rw [← e]
      omega
    have hl2 : ((List.range ms.length).map fun i => ((ms.getD i 0).natAbs : Int)).length ≤ 63 := by simp; exact hms
    subst e2
    generalize ((List.range ms.length).map fun i => ((ms.getD i 0).natAbs : Int)) = ms2 at hp2 hl2
    have hc : (c, ms2.map D.int) ∈ ([(l, ms.map D.int)] ++ ([] ++ [(c, ms2.map D.int)]) : Mu) := by simp
    have fin : ∀ (c' : Addr) (ms' : List Int) (k2 : Nat) (own : Mu) (x2 : Option D), own[k2]? = some (c', ms'.map D.int) → k2 + 1 = own.length → ms' ≠ [] → ms'.length ≤ 63 → (∀ x ∈ ms', 0 ≤ x) →
        SJ ⟨K, none, [(l, ms.map D.int)], fun _ => True, fun _ _ => False, fun _ _ => False, StartW⟩ (tRet (tLst (tCons (tVar 1) (tCons (tC (.int 0)) (tCons (tC (.int 0)) tNil))))) [some (.raw (.ref p)), some (.raw (.ref c')), x2] own (fun _ _ => False) := fun c' ms' k2 own x2 h1 h2 h3 h4 h5 =>
      sj_retF (evf_lst (PL := Is [.raw (.ref c'), .int 0, .int 0]) (ea_cons (ev_var rfl) (ea_cons ev_c (ea_cons ev_c ea_nil))) fun ds e => by rw [e]; exact len_ok rfl) fun ds a e => ⟨trivial, by
        subst e
        refine ⟨a, c', ms', own.length, k2, rfl, by simp, ?_, by omega, h3, h4, h5⟩
        rw [List.getElem?_append_left (by omega)]
        exact h1⟩
    refine sj_seq (sj_ifd (b := decide (ms2.length = 0)) (ET.is (et_testd (ev_opd (ev_cbd (ea_cons (ev_var rfl) ea_nil) (rc_len (SeqD.m hc))) ev_c (ro_eq rfl))) (by rw [List.length_map, show V.int (0 : Int) = V.int ((0 : Nat) : Int) from rfl, int_eq])) (fun e => ?_) fun e => sj_next ?_)
    · exact sj_setF (evf_lst (PL := Is [.int 0]) (ea_cons ev_c ea_nil) fun ds e => by rw [e]; exact len_ok rfl) fun ds c2 e => by
        subst e
        exact fin c2 [0] 1 _ none rfl rfl (by simp) (by simp) (by simp)
    · have e' := of_decide_eq_false e
      exact fin c ms2 0 _ none rfl rfl (fun z => e' (by rw [z]; rfl)) hl2 hp2
end U
set_option maxHeartbeats 4000000
/-! H10: l_starred. -/
namespace U
open PySem PyProof.Rows L2 Evl RZ
local macro_rules | `(tactic| walk_at "u") => `(tactic| first
  | ((with_reducible apply ev_cT) <;> assumption)
  | with_reducible apply ev_c
  | ((with_reducible apply ev_var); rfl)
  | with_reducible apply ea_nil
  | ((with_reducible apply ea_cons) <;> (try walk_at "u"))
  | ((with_reducible apply ev_opd) <;> (try walk_at "u"))
  | with_reducible apply ro_I0
  | ((with_reducible apply ro_I) <;> (try walk_at "s"))
  | ((with_reducible apply ro_ix) <;> (try walk_at "s"))
  | ((with_reducible apply ro_eq); rfl)
  | ((with_reducible apply ro_ne); rfl)
  | ((with_reducible apply ev_un) <;> (try walk_at "u"))
  | ((with_reducible apply ev_tup) <;> (try walk_at "u"))
  | ((with_reducible apply ev_lst) <;> (try walk_at "u"))
  | ((with_reducible apply ev_cbd) <;> (try walk_at "u"))
  | ((with_reducible apply rc_len) <;> (try walk_at "s"))
  | with_reducible apply rc_abs
  | with_reducible apply rc_int
  | with_reducible apply rc_intb
  | ((with_reducible apply rc_list) <;> (try walk_at "s"))
  | ((with_reducible apply rc_tup) <;> (try walk_at "s"))
  | ((with_reducible apply rc_isi) <;> (try walk_at "s"))
  | ((with_reducible apply ev_call) <;> (try walk_at "u"))
  | ((with_reducible apply ev_and2) <;> (try walk_at "u"))
  | ((with_reducible apply ev_or2) <;> (try walk_at "u"))
  | ((with_reducible apply ev_notV) <;> (try walk_at "u"))
  | ((with_reducible apply ev_chain) <;> (try walk_at "u"))
  | ((with_reducible apply et_testd) <;> (try walk_at "u"))
  | ((with_reducible apply et_B) <;> (try walk_at "u"))
  | ((with_reducible apply et_and) <;> (try walk_at "u"))
  | ((with_reducible apply et_or) <;> (try walk_at "u"))
  | ((with_reducible apply et_not) <;> (try walk_at "u"))
  | ((with_reducible intro h_) <;> (try walk_at "u"))
  | exact len_ok rfl
  | decide)
local macro_rules | `(tactic| walk_at "s") => `(tactic| first
  | with_reducible assumption
  | exact SeqD.l
  | exact SeqD.t
  | exact seqB_l
  | exact seqB_t
  | with_reducible exact ok_encO _
  | with_reducible exact sh_encO _
  | with_reducible rfl
  | ((with_reducible refine Eq.trans ?_ rfl); rfl)
  | assumption
  | decide)
variable {P : Program} {w : World} {K : PySem.W.Frag} {mg : Str → Option Value} {base : Heap}
/-- the promise of a def that gives back lists that may still change -/
def spW (K : PySem.W.Frag) (R : List D → Stt → Mu → (D → Mu → Prop) → Prop) : Sp := fun vs H Q _ => ∃ (H0 : Hp) (ds : List D) (st : Stt) (mu : Mu) (PW : D → Mu → Prop),
  Ex H0 H ∧ StOk st H0 H ∧ MuR K st mu H0 H ∧ RpAll K H0 vs ds ∧ R ds st mu PW ∧ ∀ v d own H1 H', Gr (Sx st) H0 H H1 H' → StOk st H1 H' → PW d own → OwnOk K st H H1 H' own → Rp K H1 v d → Q v H'
theorem def_okW {x qual : Str} {params : Arguments} {body : List Stmt} {scope : Scope} {dvs : List V} {kws : List (Str × V)} {f : Addr} {fd : FuncData} {N ps : List Str} {k : Nat} {R : List D → Stt → Mu → (D → Mu → Prop) → Prop} (F : FunD K x qual params body scope dvs kws f fd) (S : FnScope N ps scope)
    (hl : ∀ ds st mu PW, R ds st mu PW → ds.length = ps.length) (hN : ps.length ≤ N.length)
    (hbody : ∀ (cdv : Value) (A : Around) (outer : List Env) (s : Shared) (H : Hp) (E : XK), Room k (A.deeper (envOfC qual scope s.heap.objs.size f cdv)) → ∀ ds st mu PW, R ds st mu PW →
      ∃ t, PSs (cxOf CX0 P w K mg base N qual scope f cdv A outer s H E).nox body t ∧ SJ ⟨K, st, mu, fun _ => True, fun _ _ => False, fun _ _ => False, PW⟩ t (st0 N ds) [] (fun _ _ => False)) : FnOk P w K mg base CX0 (k + 1) f fd ps (spW K R) := by
  refine F.ok S (fun vs H Q E h => ?_) (fun cdv A outer s H vs Q E hr h => ?_)
  · obtain ⟨H0, ds, st, mu, PW, i, s, m, r, hR, _⟩ := h
    rw [r.length]
    exact hl ds st mu PW hR
  · obtain ⟨H0, ds, st, mu, PW, i, so, m, r, hR, q⟩ := h
    obtain ⟨t, ht, hj⟩ := hbody cdv A outer s H E hr ds st mu PW hR
    have hd := hl ds st mu PW hR
    refine ⟨t, ht.nox, sj_run (c := ⟨K, st, mu, fun _ => True, fun _ _ => False, fun _ _ => False, PW⟩) (NX := fun _ _ => False) H0 H H0 ⟨Gr.refl i, so, m, fun p hp => ?_, En.start r (by omega), ⟨by simp, (fun _ h => by cases h), (fun _ h => by cases h), (fun _ h => by cases h), (fun _ h => by cases h)⟩⟩ (fun _ _ _ _ _ z => z.elim) (fun _ _ _ _ _ z => z.elim) (fun _ _ _ _ _ z => z.elim) (fun v d own' H1 H' g s' _ hw o r' => q v d own' H1 H' g s' hw o r') hj⟩
    obtain ⟨_, us, h, _⟩ := m p hp
    rw [h]
    exact fun z => by cases z
/-! ### worlds -/
def preOk (ng : Nat) (pre : List Stp) : Prop := pre = [] ∨ pre = [.times 0 (ng - 1)] ∨ pre = [.plus 0 (ng - 1)] ∨ pre = [.turned 0]
theorem preOk.len {ng : Nat} {pre : List Stp} (h : preOk ng pre) : pre.length ≤ 1 := by
  rcases h with e | e | e | e <;> rw [e] <;> simp
structure WsOk (ng n : Nat) (pre ws : List Stp) (sh : List Shp) : Prop where
  l : sh.length = ng + pre.length + 1 + ws.length
  q : ∀ i, i < ng + pre.length + 1 → shp sh i = (n, n)
  o : ∀ p ∈ sh, 1 ≤ p.1 ∧ p.1 ≤ 4 ∧ 1 ≤ p.2 ∧ p.2 ≤ 4
  w : ∀ (k : Nat) (s : Stp), ws[k]? = some s → NewOk s (sh.take (ng + pre.length + 1 + k)) ∧ shapeOf s (sh.take (ng + pre.length + 1 + k)) = some (shp sh (ng + pre.length + 1 + k))
theorem WsOk.snoc {ng n : Nat} {pre ws : List Stp} {sh : List Shp} {s : Stp} {q : Shp} (h : WsOk ng n pre ws sh) (hs : NewOk s sh) (hq : shapeOf s sh = some q) : WsOk ng n pre (ws ++ [s]) (sh ++ [q]) := by
  have hl := h.l
  have old : ∀ i, i < sh.length → shp (sh ++ [q]) i = shp sh i := fun i hi => by simp [shp, List.getD, List.getElem?_append_left hi]
  refine ⟨by simp [hl]; omega, fun i hi => by rw [old i (by omega)]; exact h.q i hi, fun p hp => ?_, fun k t hk => ?_⟩
  · rcases List.mem_append.mp hp with hp | hp
    · exact h.o p hp
    · rw [List.mem_singleton.mp hp]
      obtain ⟨q', e, b⟩ := hs.m
      rw [hq] at e
      cases e
      exact b
  · by_cases hlt : k < ws.length
    · rw [List.getElem?_append_left hlt] at hk
      have e : (sh ++ [q]).take (ng + pre.length + 1 + k) = sh.take (ng + pre.length + 1 + k) := List.take_append_of_le_length (by omega)
      rw [e, old _ (by omega)]
      exact h.w k t hk
    · have ek : k = ws.length := by
        have := (List.getElem?_eq_some_iff.mp hk).1
        simp at this
        omega
      subst ek
      have et : s = t := by simpa using hk
      subst et
      have e : (sh ++ [q]).take (ng + pre.length + 1 + ws.length) = sh := by
        rw [← hl]
        simp
      rw [e]
      refine ⟨hs, ?_⟩
      rw [hq, ← hl]
      simp [shp, List.getD]
structure StarredOk (nb n : Nat) (gc : List (List (List Cl))) (pre ws : List Stp) (sh : List Shp) : Prop where
  nb1 : 1 ≤ nb
  nb3 : nb ≤ 3
  n1 : 1 ≤ n
  n3 : n ≤ 3
  g1 : 1 ≤ gc.length
  g2 : gc.length ≤ 2
  c : ∀ rows ∈ gc, SqCl nb n rows
  p : preOk gc.length pre
  s2 : ws.length ≤ 2
  s : WsOk gc.length n pre ws sh
abbrev stepsOf (ng : Nat) (pre ws : List Stp) : List Stp := pre ++ [.star (ng + pre.length - 1)] ++ ws
def StarredP (d : D) (own : Mu) : Prop := ∃ (nb n : Nat) (gc : List (List (List Cl))) (pre ws : List Stp) (sh : List Shp) (ls lsh : Addr), StarredOk nb n gc pre ws sh ∧
  d = .lst [nD nb, .lst (gc.map encCm), .raw (.ref ls), .raw (.ref lsh)] ∧ own = [(ls, (stepsOf gc.length pre ws).map encS), (lsh, sh.map encSh)]
def R_l_starred (_ : PySem.W.Frag) : List D → Stt → Mu → (D → Mu → Prop) → Prop := fun ds st mu PW => ∃ (a c : Addr), ds = [.raw (.ref a)] ∧ st = some (StV.draw a c) ∧ mu = [] ∧ PW = StarredP
theorem pk_add {st : Stt} {mu : Mu} {Γ : G} {tb : TE} {m : Nat} (h : EV K st mu tb Γ (Pk m)) : EV K st mu (tOp (rI0 fun i j => .int (i + j)) (tC (.int 1)) tb) Γ (fun d => ∃ k, 1 ≤ k ∧ k ≤ m ∧ d = nD k) :=
  EV.imp (ev_opI0r (q := fun x => 1 ≤ x ∧ x ≤ m) ev_c (EV.intP h) fun x hx => by omega) fun d ⟨x, e, h1, h2⟩ => ⟨x.toNat, by omega, by omega, by rw [e]; show D.int x = D.int (x.toNat : Int); rw [Int.toNat_of_nonneg (by omega)]⟩
theorem d_l_starred (T : Tx K mg) (A : At K mg "_law_starred" s_l_starred) (D_l_words : Def P w K mg base 2 "_law_words" ["_law_state", "_law_many"] (R_l_words K)) (D_l_pick : Def P w K mg base 1 "_law_pick" ["_law_state", "_law_many"] (R_l_pick K)) (D_l_square : Def P w K mg base 5 "_law_square" ["_law_state", "_law_bottoms", "_law_size"] (R_l_square K)) (D_l_step : Def P w K mg base 2 "_law_step" ["_law_state", "_law_word", "_law_shapes"] (R_l_step K)) (D_l_shape : Def P w K mg base 1 "_law_shape" ["_law_step_here", "_law_shapes"] (R_l_shape K)) : DefP P w K mg base 6 "_law_starred" ["_law_state"] (spW K (R_l_starred K)) := by
  obtain ⟨f, fd, F, hm⟩ := A.fn
  refine mk_defP F hm (def_okW F sc_l_starred (fun ds st mu PW h => ?_) (by decide) fun cdv A outer s H E hr ds st mu PW h => ?_) fun _ _ _ _ _ _ us hl => match us, hl with | [_], _ => rfl
  · obtain ⟨a, c, rfl, _⟩ := h
    rfl
  · obtain ⟨a, c, rfl, rfl, rfl, rfl⟩ := h
    refine ⟨_, (pss_cons (ps_set (i := 1) sc_l_starred.nd rfl (Or.inr rfl) (pe_lc (own := [("_law_base", 8)]) (by rfl) sc_l_starred.nd (pi_range1 (by rfl) T.range (pa_cons (pe_ix (k_ix (K := K) (by rfl)) (pe_lst (pa_cons pe_int (pa_cons pe_int (pa_cons pe_int (pa_cons pe_int (pa_cons pe_int pa_nil)))))) (pe_callD D_l_pick ⟨rfl, rfl, rfl, rfl, rfl⟩ (hr.mono (by decide)) (by rfl) (pa_cons (pv 0) (pa_cons pe_int pa_nil))) (fun _ _ => rfl)) pa_nil)) (blkOk_by (by kernel_rfl)) (fun _ _ _ _ _ => (pg_name (i := 8) sc_l_starred.nd rfl (by first | exact Or.inl rfl | exact Or.inr rfl))) (fun _ _ _ _ _ => pts_nil) (fun _ _ _ _ _ => (pe_ix (k_ix (K := K) (by rfl)) (pe_lst (pa_cons pe_int (pa_cons pe_int (pa_cons pe_int (pa_cons pe_int (pa_cons pe_int pa_nil)))))) (pe_callD D_l_pick ⟨rfl, rfl, rfl, rfl, rfl⟩ (hr.mono (by decide)) (by rfl) (pa_cons (pv 0) (pa_cons pe_int pa_nil))) (fun _ _ => rfl)))))
        (pss_cons (ps_set (i := 2) sc_l_starred.nd rfl (Or.inr rfl) (pe_op op_add pe_int (pe_callD D_l_pick ⟨rfl, rfl, rfl, rfl, rfl⟩ (hr.mono (by decide)) (by rfl) (pa_cons (pv 0) (pa_cons pe_int pa_nil)))))
        (pss_cons (ps_setLc (i := 3) (own := [("_law_at", 9)]) (by rfl) sc_l_starred.nd rfl rfl (sw_true rfl rfl rfl (by decide +kernel)) (pi_range1 (by rfl) T.range (pa_cons (pe_op op_add pe_int (pe_callD D_l_pick ⟨rfl, rfl, rfl, rfl, rfl⟩ (hr.mono (by decide)) (by rfl) (pa_cons (pv 0) (pa_cons pe_int pa_nil)))) pa_nil)) (blkOk_by (by kernel_rfl)) (fun _ _ _ _ _ => (pg_name (i := 9) sc_l_starred.nd rfl (by first | exact Or.inl rfl | exact Or.inr rfl))) (fun _ _ _ _ _ => pts_nil) (fun _ _ _ _ _ => (pe_callD D_l_square ⟨rfl, rfl, rfl, rfl, rfl⟩ (hr.mono (by decide)) (by rfl) (pa_cons (pv 0) (pa_cons (pv 1) (pa_cons (pv 2) pa_nil))))))
        (pss_cons (ps_setLc (i := 4) (own := [("_law_rows", 10)]) (by rfl) sc_l_starred.nd rfl rfl (sw_true rfl rfl rfl (by decide +kernel)) (k_seq (K := K) (by rfl) (pv 3)) (blkOk_by (by kernel_rfl)) (fun _ _ _ _ _ => (pg_name (i := 10) sc_l_starred.nd rfl (by first | exact Or.inl rfl | exact Or.inr rfl))) (fun _ _ _ _ _ => pts_nil) (fun _ _ _ _ _ => (pe_tup (pa_cons (pv 2) (pa_cons (pv 2) pa_nil)))))
        (pss_cons (ps_set (i := 5) sc_l_starred.nd rfl (Or.inl rfl) (pe_lst pa_nil))
        (pss_cons (ps_if (pt_cmpR op_eq (pe_callD D_l_pick ⟨rfl, rfl, rfl, rfl, rfl⟩ (hr.mono (by decide)) (by rfl) (pa_cons (pv 0) (pa_cons pe_int pa_nil))) pe_int (nomark _)) (pss_one (ps_expr (pe_bm PySem.F.plainAttrs_list PySem.F.slot_list_append PySem.F.type_list_append mt_append (pv 5) (pa_cons (pe_ix (k_ix (K := K) (by rfl)) (pe_lst (pa_cons (pe_tup (pa_cons pe_str (pa_cons pe_int (pa_cons (pe_op op_sub (pe_callB (k_len (K := K) (by rfl)) (by rfl) T.len (by decide +kernel) (pa_cons (pv 3) pa_nil)) pe_int) pa_nil)))) (pa_cons (pe_tup (pa_cons pe_str (pa_cons pe_int (pa_cons (pe_op op_sub (pe_callB (k_len (K := K) (by rfl)) (by rfl) T.len (by decide +kernel) (pa_cons (pv 3) pa_nil)) pe_int) pa_nil)))) (pa_cons (pe_tup (pa_cons pe_str (pa_cons pe_int pa_nil))) pa_nil)))) (pe_callD D_l_pick ⟨rfl, rfl, rfl, rfl, rfl⟩ (hr.mono (by decide)) (by rfl) (pa_cons (pv 0) (pa_cons pe_int pa_nil))) (fun _ _ => rfl)) pa_nil)))) pss_nil)
        (pss_cons (ps_expr (pe_bm PySem.F.plainAttrs_list PySem.F.slot_list_append PySem.F.type_list_append mt_append (pv 5) (pa_cons (pe_tup (pa_cons pe_str (pa_cons (pe_op op_sub (pe_op op_add (pe_callB (k_len (K := K) (by rfl)) (by rfl) T.len (by decide +kernel) (pa_cons (pv 3) pa_nil)) (pe_callB (k_len (K := K) (by rfl)) (by rfl) T.len (by decide +kernel) (pa_cons (pv 5) pa_nil))) pe_int) pa_nil))) pa_nil)))
        (pss_cons (ps_set (i := 4) sc_l_starred.nd rfl (Or.inl rfl) (pe_op op_cat (pv 4) (pe_lc (own := [("_law_step_here", 7)]) (by rfl) sc_l_starred.nd (k_seq (K := K) (by rfl) (pv 5)) (blkOk_by (by kernel_rfl)) (fun _ _ _ _ _ => (pg_name (i := 7) sc_l_starred.nd rfl (by first | exact Or.inl rfl | exact Or.inr rfl))) (fun _ _ _ _ _ => pts_nil) (fun _ _ _ _ _ => (pe_tup (pa_cons (pv 2) (pa_cons (pv 2) pa_nil)))))))
        (pss_cons (ps_for PassesOwn.never (by rfl) (k_seq (K := K) (by rfl) (pe_callD D_l_words ⟨rfl, rfl, rfl, rfl, rfl⟩ (hr.mono (by decide)) (by rfl) (pa_cons (pv 0) (pa_cons pe_int pa_nil)))) (pg_name (i := 6) sc_l_starred.nd rfl (by first | exact Or.inl rfl | exact Or.inr rfl)) (pss_cons (ps_set (i := 7) sc_l_starred.nd rfl (Or.inl rfl) (pe_callD D_l_step ⟨rfl, rfl, rfl, rfl, rfl⟩ (hr.mono (by decide)) (by rfl) (pa_cons (pv 0) (pa_cons (pv 6) (pa_cons (pv 4) pa_nil)))))
        (pss_cons (ps_expr (pe_bm PySem.F.plainAttrs_list PySem.F.slot_list_append PySem.F.type_list_append mt_append (pv 5) (pa_cons (pv 7) pa_nil)))
        (pss_one (ps_expr (pe_bm PySem.F.plainAttrs_list PySem.F.slot_list_append PySem.F.type_list_append mt_append (pv 4) (pa_cons (pe_callD D_l_shape ⟨rfl, rfl, rfl, rfl, rfl⟩ (hr.mono (by decide)) (by rfl) (pa_cons (pv 7) (pa_cons (pv 4) pa_nil))) pa_nil)))))))
        (pss_one (ps_ret (pe_lst (pa_cons (pe_callB (k_len (K := K) (by rfl)) (by rfl) T.len (by decide +kernel) (pa_cons (pv 1) pa_nil)) (pa_cons (pv 3) (pa_cons (pv 5) (pa_cons (pv 4) pa_nil)))))))))))))))), ?_⟩
    (try dsimp only [cxOf, Cx.nox, Cx.wish])
    -- the base units' bottoms
    refine sj_seq (sj_set (PV := fun d => ∃ bs : List Nat, d = .lst (bs.map nD) ∧ BsOk bs ∧ 1 ≤ bs.length) (EV.imp (ev_lc (mu' := []) (it_rngP (WP := fun n t => (1 ≤ n ∧ n ≤ 3) ∧ t = tSet 8 fun i => some (.int (i : Nat))) (ea_consP (PL := Is []) (ev_ixP (enc := nD) (xs := [1, 2, 1, 3, 2]) (m := 5) (EV.is (ev_lst (ea_cons ev_c (ea_cons ev_c (ea_cons ev_c (ea_cons ev_c (ea_cons ev_c ea_nil))))) (len_ok rfl)) rfl) SeqD.l (ev_pick (ev_var rfl) ev_c (by decide) (by decide)) (by decide)) ea_nil fun d l ⟨x, hx, e⟩ el => ?_)) (fun p hp => by cases hp) (by simp) (fun n t h => by omega) (fun n t i d => ∃ b, d = nD b ∧ 1 ≤ b ∧ b ≤ 4) fun n t i h hi => ?_) fun d ⟨n, t, es, hw, e, hl, hp⟩ => ?_) fun d hd => ?_)
    · have hx3 : 1 ≤ x ∧ x ≤ 3 := by
        simp only [List.mem_cons, List.not_mem_nil, or_false] at hx
        omega
      exact ⟨x, by rw [e, el], by omega, hx3, rfl⟩
    · obtain ⟨hn, ht⟩ := h
      subst ht
      refine EV.imp (ev_ixP (enc := nD) (xs := [1, 1, 2, 3, 4]) (m := 5) (EV.is (ev_lst (ea_cons ev_c (ea_cons ev_c (ea_cons ev_c (ea_cons ev_c (ea_cons ev_c ea_nil))))) (len_ok rfl)) rfl) SeqD.l (ev_pick (ev_var rfl) ev_c (by decide) (by decide)) (by decide)) fun d ⟨x, hx, e⟩ => ⟨x, e, ?_⟩
      simp only [List.mem_cons, List.not_mem_nil, or_false] at hx
      omega
    · obtain ⟨bs, e1, e2, e3⟩ := list_all (enc := nD) (p := fun _ b => 1 ≤ b ∧ b ≤ 4) hl fun i e h => hp i e h
      refine ⟨bs, by rw [e, e1], ⟨by omega, fun b hb => ?_⟩, by omega⟩
      obtain ⟨k, hk⟩ := List.mem_iff_getElem?.mp hb
      exact e3 k b hk
    obtain ⟨bs, rfl, hbs, hb1⟩ := hd
    refine sj_seq (sj_set (pk_add (m := 3) (ev_pick (ev_var rfl) ev_c (by decide) (by decide))) fun d hd => ?_)
    obtain ⟨n, n1, n3, rfl⟩ := hd
    -- the grids
    refine sj_seq (sj_set (PV := fun d => ∃ gc : List (List (List Cl)), d = .lst (gc.map encCm) ∧ 1 ≤ gc.length ∧ gc.length ≤ 2 ∧ ∀ rows ∈ gc, SqCl bs.length n rows) (EV.imp (ev_lc (mu' := []) (it_rngP (WP := fun n t => (1 ≤ n ∧ n ≤ 2) ∧ t = tSet 9 fun i => some (.int (i : Nat))) (ea_consP (PL := Is []) (pk_add (m := 2) (ev_pick (ev_var rfl) ev_c (by decide) (by decide))) ea_nil fun d l ⟨k, k1, k2, e⟩ el => ⟨k, by rw [e, el], by omega, ⟨k1, k2⟩, rfl⟩)) (fun p hp => by cases hp) (by simp) (fun n t h => by omega) (fun _ t i d => ∃ rows, d = encCm rows ∧ SqCl bs.length n rows) fun m t i h hi => ?_) fun d ⟨m, t, es, hw, e, hl, hp⟩ => ?_) fun d hd => ?_)
    · obtain ⟨hn, ht⟩ := h
      subst ht
      exact ev_callS [] (ea_cons (ev_var rfl) (ea_cons (ev_var rfl) (ea_cons (ev_var rfl) ea_nil))) (fun p hp => by cases hp) (r_l_square hbs (by omega))
    · obtain ⟨gc, e1, e2, e3⟩ := list_all (enc := encCm) (p := fun _ rows => SqCl bs.length n rows) hl fun i e h => hp i e h
      refine ⟨gc, by rw [e, e1], by omega, by omega, fun rows hr => ?_⟩
      obtain ⟨k, hk⟩ := List.mem_iff_getElem?.mp hr
      exact e3 k rows hk
    obtain ⟨gc, rfl, g1, g2, hgc⟩ := hd
    refine sj_seq (sj_setd (d := .lst ((List.replicate gc.length ((n, n) : Shp)).map encSh)) (EV.is (ev_lct gc encCm (fun _ => encSh (n, n)) false (ev_var rfl) seqB_l (by simp) (by omega) fun i rows hr => EV.is (ev_tup (ea_cons (ev_var rfl) (ea_cons (ev_var rfl) ea_nil)) (len_ok rfl)) rfl) (by simp [List.map_const'])) ?_)
    refine sj_seq (sj_newl fun ls => ?_)
    -- the step ahead
    have ngE : ∀ {st : Stt} {mu : Mu} (G0 : G), G0[3]? = some (some (.lst (gc.map encCm))) → EV K st mu (tCB (cLen K) (tCons (tVar 3) tNil)) G0 (Is (nD gc.length)) := fun G0 h0 => EV.is (ev_cbd (ea_cons (ev_var h0) ea_nil) (rc_len SeqD.l)) (by simp)
    refine sj_seq (SJ.imp (NX := fun Γ own => ∃ pre : List Stp, preOk gc.length pre ∧ Γ = [some (.raw (.ref a)), some (.lst (bs.map nD)), some (nD n), some (.lst (gc.map encCm)), some (.lst ((List.replicate gc.length ((n, n) : Shp)).map encSh)), some (.raw (.ref ls)), none, none, none, none, none] ∧ own = [(ls, pre.map encS)]) ?_ ?_)
    · refine sj_if (PB := fun _ => True) (et_test (EV.imp (ev_op (P := fun d => ∃ b : Bool, d = .bl b) (ev_pick (m := 3) (ev_var rfl) ev_c (by decide) (by decide)) ev_c fun x y ⟨k, _, ex⟩ ey => by
      subst ex ey
      intro H0 H vx vy i s m rx ry Q qq
      exact ro_eq (x := .int (k : Nat)) (y := .int 0) rfl H0 H vx vy i s m rx ry Q fun v d H1 H' g s' e r => qq v d H1 H' g s' ⟨_, e⟩ r) fun d ⟨b, e⟩ => ⟨b, e, trivial⟩)) (fun _ => ?_) fun _ => sj_next ⟨[], .inl rfl, rfl, rfl⟩
      have e1 : ∀ x : Str, D.tup [.str x, .int 0, .int ((gc.length : Int) - 1)] = .tup [.str x, nD 0, nD (gc.length - 1)] := fun x => by
        show D.tup [.str x, .int 0, .int ((gc.length : Int) - 1)] = .tup [.str x, .int ((0 : Nat) : Int), .int ((gc.length - 1 : Nat) : Int)]
        rw [show ((gc.length - 1 : Nat) : Int) = (gc.length : Int) - 1 by omega]
        rfl
      refine sj_app (i := 5) (k := 0) (PV := fun d => ∃ s ∈ [Stp.times 0 (gc.length - 1), Stp.plus 0 (gc.length - 1), Stp.turned 0], d = encS s) rfl rfl (ev_ixP (enc := encS) (m := 3) (EV.is (ev_lst (ea_cons (ev_tup (ea_cons ev_c (ea_cons ev_c (ea_cons (ev_opd (ngE _ rfl) ev_c ro_I0) ea_nil))) (len_ok rfl)) (ea_cons (ev_tup (ea_cons ev_c (ea_cons ev_c (ea_cons (ev_opd (ngE _ rfl) ev_c ro_I0) ea_nil))) (len_ok rfl)) (ea_cons (ev_tup (ea_cons ev_c (ea_cons ev_c ea_nil)) (len_ok rfl)) ea_nil))) (len_ok rfl)) (by rw [e1, e1]; rfl)) SeqD.l (ev_pick (ev_var rfl) ev_c (by decide) (by decide)) (Nat.le_refl 3)) (by simp) ?_
      rintro d ⟨s, hs, rfl⟩
      refine ⟨[s], ?_, rfl, rfl⟩
      simp only [List.mem_cons, List.not_mem_nil, or_false] at hs
      rcases hs with e | e | e
      · exact .inr (.inl (by rw [e]))
      · exact .inr (.inr (.inl (by rw [e])))
      · exact .inr (.inr (.inr (by rw [e])))
    rintro Γ' own' ⟨pre, hpre, rfl, rfl⟩
    have hpl := hpre.len
    -- the star
    have mls : ∀ (xs : List D) (o2 : Mu), (ls, xs) ∈ ([] ++ ((ls, xs) :: o2) : Mu) := fun xs o2 => by simp
    refine sj_seq (sj_app (i := 5) (k := 0) (PV := Is (encS (.star (gc.length + pre.length - 1)))) rfl rfl (EV.is (ev_tup (ea_cons ev_c (ea_cons (ev_opd (ev_opd (ngE _ rfl) (ev_cbd (ea_cons (ev_var rfl) ea_nil) (rc_len (SeqD.m (mls _ _)))) ro_I0) ev_c ro_I0) ea_nil)) (len_ok rfl)) ?_) (by simp; omega) fun d e => ?_)
    · show D.tup [.str "star", .int (((gc.length : Nat) : Int) + ((pre.map encS).length : Int) - 1)] = .tup [.str "star", .int ((gc.length + pre.length - 1 : Nat) : Int)]
      rw [List.length_map, show ((gc.length + pre.length - 1 : Nat) : Int) = (gc.length : Int) + (pre.length : Int) - 1 by omega]
    subst e
    have eo : (([(ls, pre.map encS)] : Mu).set 0 (ls, pre.map encS ++ [encS (.star (gc.length + pre.length - 1))])) = [(ls, (stepsOf gc.length pre []).map encS)] := by simp [stepsOf]
    rw [eo]
    have hsl : (stepsOf gc.length pre []).length = pre.length + 1 := by simp [stepsOf]
    -- the shapes
    refine sj_seq (sj_setF (evf_cat (ev_var rfl) (ev_lcd (mu' := [(ls, (stepsOf gc.length pre []).map encS)]) (it_seqM (ev_var rfl) (mls _ _)) (fun p hp => by rw [List.mem_singleton.mp hp]; exact mls _ _) (by simp) (by rw [List.length_map, hsl]; omega) (fun _ => encSh (n, n)) fun i hi => EV.is (ev_tup (ea_cons (ev_var rfl) (ea_cons (ev_var rfl) ea_nil)) (len_ok rfl)) rfl) (by simp; omega)) fun ds lsh e => ?_)
    have eds : ds = (List.replicate (gc.length + pre.length + 1) ((n, n) : Shp)).map encSh := by
      rw [e, List.length_map, hsl, show gc.length + pre.length + 1 = gc.length + (pre.length + 1) by omega, ← List.replicate_append_replicate, List.map_append]
      congr 1
      rw [List.map_const', List.length_range, List.map_replicate]
    subst eds
    have hw0 : WsOk gc.length n pre [] (List.replicate (gc.length + pre.length + 1) ((n, n) : Shp)) := by
      refine ⟨by simp, fun i hi => by simp [shp, List.getD, hi], fun p hp => ?_, fun k s hk => by simp at hk⟩
      rw [List.eq_of_mem_replicate hp]
      exact ⟨n1, by simp only; omega, n1, by simp only; omega⟩
    refine sj_seq (sj_for (WP := fun m t => ∃ ws : List Str, ws.length ≤ 2 ∧ (∀ x ∈ ws, x ∈ menuL) ∧ m = ws.length ∧ t = tSet 6 fun i => (ws.map D.str)[i]?) (it_seqP (P := fun d => ∃ ws : List Str, d = .lst (ws.map D.str) ∧ ws.length ≤ 2 ∧ ∀ x ∈ ws, x ∈ menuL) false (ev_callS [] (ea_cons (ev_var rfl) (ea_cons ev_c ea_nil)) (fun p hp => by cases hp) ⟨a, c, 2, by decide, rfl, rfl, rfl, rfl⟩) (fun p hp => by cases hp) fun d ⟨ws, e, h1, h2⟩ => ⟨ws.map D.str, by rw [e]; exact seqB_l, ws, h1, h2, by simp, rfl⟩)
      (fun m t i Γ own => ∃ (x6 x7 : Option D) (ws : List Stp) (sh : List Shp), Γ = [some (.raw (.ref a)), some (.lst (bs.map nD)), some (nD n), some (.lst (gc.map encCm)), some (.raw (.ref lsh)), some (.raw (.ref ls)), x6, x7, none, none, none] ∧ own = [(ls, (stepsOf gc.length pre ws).map encS), (lsh, sh.map encSh)] ∧ ws.length = i ∧ WsOk gc.length n pre ws sh) ?_ ?_ ?_)
    · exact fun m t _ => ⟨none, none, [], _, rfl, rfl, rfl, hw0⟩
    · rintro m t i Γ' own' ⟨zs, z1, z2, z3, z4⟩ hi ⟨x6, x7, ws, sh, rfl, rfl, hwl, hw⟩
      subst z4
      have hiz : i < zs.length := by omega
      have ez : (zs.map D.str)[i]? = some (.str zs[i]) := by rw [List.getElem?_map, List.getElem?_eq_getElem hiz]; rfl
      show SJ _ _ (List.set _ 6 ((zs.map D.str)[i]?)) _ _
      rw [ez]
      have hmz := z2 zs[i] (List.getElem_mem _)
      generalize zs[i] = z at hmz
      have hshl := hw.l
      have hsh : ShsOk sh := ⟨by omega, by omega, hw.o⟩
      have mlsh : (lsh, sh.map encSh) ∈ ([] ++ [(ls, (stepsOf gc.length pre ws).map encS), (lsh, sh.map encSh)] : Mu) := by simp
      refine sj_seq (sj_set (PV := NewP sh) (ev_callS [(lsh, sh.map encSh)] (ea_cons (ev_var rfl) (ea_cons (ev_var rfl) (ea_cons (ev_var rfl) ea_nil))) (fun p hp => by rw [List.mem_singleton.mp hp]; exact mlsh) (r_l_step hmz hsh)) fun d hd => ?_)
      obtain ⟨s, rfl, hs⟩ := hd
      obtain ⟨q, hq, _⟩ := hs.m
      refine sj_seq (sj_app (i := 5) (k := 0) (PV := Is (encS s)) rfl rfl (ev_var rfl) (by simp [stepsOf]; omega) fun d e => ?_)
      subst e
      have mlsh2 : (lsh, sh.map encSh) ∈ ([] ++ [(ls, (stepsOf gc.length pre ws).map encS ++ [encS s]), (lsh, sh.map encSh)] : Mu) := by simp
      refine sj_app (i := 4) (k := 1) (PV := Is (encSh q)) rfl rfl (EV.is (ev_callM [(lsh, sh.map encSh)] (ea_cons (ev_var rfl) (ea_cons (ev_var rfl) ea_nil)) (fun p hp => by rw [List.mem_singleton.mp hp]; exact mlsh2) (r_l_shape hs.p)) (by rw [hq]; rfl)) (by simp; omega) fun d e => ?_
      subst e
      refine ⟨_, _, ws ++ [s], sh ++ [q], rfl, ?_, by simp [hwl], hw.snoc hs hq⟩
      show [(ls, (stepsOf gc.length pre ws).map encS ++ [encS s]), (lsh, sh.map encSh ++ [encSh q])] = _
      simp [stepsOf]
    · rintro m t Γ' own' ⟨zs, z1, z2, z3, z4⟩ ⟨x6, x7, ws, sh, rfl, rfl, hwl, hw⟩
      refine sj_retW (PV := Is (.lst [nD bs.length, .lst (gc.map encCm), .raw (.ref ls), .raw (.ref lsh)])) (EV.is (ev_lst (ea_cons (ev_cbd (ea_cons (ev_var rfl) ea_nil) (rc_len SeqD.l)) (ea_cons (ev_var rfl) (ea_cons (ev_var rfl) (ea_cons (ev_var rfl) ea_nil)))) (len_ok rfl)) (by simp)) fun d e => ⟨trivial, ?_⟩
      exact ⟨bs.length, n, gc, pre, ws, sh, ls, lsh, ⟨hb1, hbs.1, n1, n3, g1, g2, hgc, hpre, by omega, hw⟩, e, rfl⟩
end U
set_option maxHeartbeats 4000000
/-! H11: the law, over what the plain law says. -/
namespace U
open PySem PyProof.Rows L2 Evl RZ
local macro_rules | `(tactic| walk_at "u") => `(tactic| first
  | ((with_reducible apply ev_cT) <;> assumption)
  | with_reducible apply ev_c
  | ((with_reducible apply ev_var); rfl)
  | with_reducible apply ea_nil
  | ((with_reducible apply ea_cons) <;> (try walk_at "u"))
  | ((with_reducible apply ev_opd) <;> (try walk_at "u"))
  | with_reducible apply ro_I0
  | ((with_reducible apply ro_I) <;> (try walk_at "s"))
  | ((with_reducible apply ro_ix) <;> (try walk_at "s"))
  | ((with_reducible apply ro_eq); rfl)
  | ((with_reducible apply ro_ne); rfl)
  | ((with_reducible apply ev_un) <;> (try walk_at "u"))
  | ((with_reducible apply ev_tup) <;> (try walk_at "u"))
  | ((with_reducible apply ev_lst) <;> (try walk_at "u"))
  | ((with_reducible apply ev_cbd) <;> (try walk_at "u"))
  | ((with_reducible apply rc_len) <;> (try walk_at "s"))
  | with_reducible apply rc_abs
  | with_reducible apply rc_int
  | with_reducible apply rc_intb
  | ((with_reducible apply rc_list) <;> (try walk_at "s"))
  | ((with_reducible apply rc_tup) <;> (try walk_at "s"))
  | ((with_reducible apply rc_isi) <;> (try walk_at "s"))
  | ((with_reducible apply ev_call) <;> (try walk_at "u"))
  | ((with_reducible apply ev_and2) <;> (try walk_at "u"))
  | ((with_reducible apply ev_or2) <;> (try walk_at "u"))
  | ((with_reducible apply ev_notV) <;> (try walk_at "u"))
  | ((with_reducible apply ev_chain) <;> (try walk_at "u"))
  | ((with_reducible apply et_testd) <;> (try walk_at "u"))
  | ((with_reducible apply et_B) <;> (try walk_at "u"))
  | ((with_reducible apply et_and) <;> (try walk_at "u"))
  | ((with_reducible apply et_or) <;> (try walk_at "u"))
  | ((with_reducible apply et_not) <;> (try walk_at "u"))
  | ((with_reducible intro h_) <;> (try walk_at "u"))
  | exact len_ok rfl
  | decide)
local macro_rules | `(tactic| walk_at "s") => `(tactic| first
  | with_reducible assumption
  | exact SeqD.l
  | exact SeqD.t
  | exact seqB_l
  | exact seqB_t
  | with_reducible exact ok_encO _
  | with_reducible exact sh_encO _
  | with_reducible rfl
  | ((with_reducible refine Eq.trans ?_ rfl); rfl)
  | assumption
  | decide)
variable {P : Program} {w : World} {K : PySem.W.Frag} {mg : Str → Option Value} {base : Heap}
theorem pe_callP {X : Cx} {k : Nat} {x : Str} {ps : List Str} {sp : Sp} {p pos : Pos} {e : Expr} {es : List Expr} {t : TA} (F : DefP P w K mg base k x ps sp) (hX : XIs X P w K mg base)
    (hr : Room k X.A) (hg : Gl X x) (ha : PA X (e :: es) t) (hdb : (x == ("__debug__" : Str)) = false := by decide) (he : starEach (e :: es) X.env = (false, eval e X.env) :: starEach es X.env := by rfl)
    (hpl : (backTo pos (starEach es X.env)).any (·.1) = false := by rfl) : PE X (.Call (.Name x p) (e :: es) [] pos) (tCall sp [] E0 t) := by
  obtain ⟨h1, h2, h3, h4, h5⟩ := hX
  subst h1 h2 h3 h4 h5
  obtain ⟨f, fd, F, hm, hk, hb⟩ := F
  exact pe_call F hr hg hm hk hb .nil pass0 ha hdb he hpl
theorem k_mtIndex {X : Cx} {K : PySem.W.Frag} (h : X.K = K) : MtR X "list.index" (rIndex K) := by subst h; exact mt_index
theorem ev_index {st : Stt} {mu : Mu} {Γ : G} {to te : TE} {xs : List Str} {x : Str} {j : Nat} (ho : EV K st mu to Γ (Is (.lst (xs.map D.str)))) (he : EV K st mu te Γ (Is (.str x))) (hj : xs[j]? = some x) (hno : ∀ m y, m < j → xs[m]? = some y → y ≠ x) : EV K st mu (tBM K "list" (rIndex K) to (tCons te tNil)) Γ (Is (nD j)) := fun σ H0 H i s m n Q q =>
  ho σ H0 H i s m n _ fun v d H1 H2 g1 s1 e r => by
    subst e
    obtain ⟨a, vs, rfl, ha, ra⟩ := r.lstI
    refine ⟨.inl ⟨rfl, vs, SqL.of (g1.i _ _ ha)⟩, he σ H1 H2 g1.i s1 (m.gr g1) (n.mono g1.e0) _ fun v2 d2 H3 H4 g2 s2 e2 r2 => ?_⟩
    subst e2
    cases r2
    have ev : vs = xs.map V.str := by
      have e3 : xs.map D.str = (xs.map V.str).map D.raw := by simp
      rw [e3] at ra
      exact ra.raws
    subst ev
    have ha4 : H4 a = some (.lst (xs.map V.str)) := g2.i _ _ (g2.e0 _ _ ha)
    refine ⟨a, xs.map V.str, .str x, j, .str x, rfl, rfl, SqL.of ha4, rfl, ?_, by rw [List.getElem?_map, hj]; rfl, ?_, fun k z hk hz => ?_, q (.int (j : Nat)) (.raw (.int (j : Nat))) H3 H4 (g1.trans g2) s2 rfl (.raw _)⟩
    · rw [List.all_eq_true]
      intro y hy
      obtain ⟨z, _, e⟩ := List.mem_map.mp hy
      rw [← e]
      rfl
    · show (x == x) = true
      exact beq_self_eq_true x
    · rw [List.getElem?_map] at hz
      cases q2 : xs[k]? with
      | none => rw [q2] at hz; cases hz
      | some y =>
        rw [q2] at hz
        have e3 : V.str y = z := Option.some.inj hz
        rw [← e3]
        show (y == x) = false
        exact beq_false_of_ne (hno k y hk q2)
section
variable {c : Cn} {Γ : G} {own : Mu} {NX : G → Mu → Prop} {ts : TS} {i k : Nat}
/-- x = f(..), f giving back lists that may still change -/
theorem sj_setW {R : List D → Stt → Mu → (D → Mu → Prop) → Prop} {E : XK} {ta : TA} {ds : List D} {PW : D → Mu → Prop} (h : EA c.K c.st (c.bor ++ own) ta Γ (Is ds)) (hr : R ds c.st [] PW) (k : ∀ d own2, PW d own2 → NX (Γ.set i (some d)) (own ++ own2)) : SJ c (tAsg (tCall (spW c.K R) [] E ta) (gName i)) Γ own NX := fun B0 B H0 σ H w D nx ct bk rt =>
  h σ H0 H w.i w.s w.mu w.n _ fun vs ds' H1 H' g s e rr => by
    subst e
    rw [List.append_nil]
    have w1 := w.step g s
    exact ⟨H1, ds', c.st, [], PW, w1.i, w1.s, (fun _ h => by cases h), rr, hr, fun v d own2 H2 H2' g2 s2 hp o2 r2 => nx _ _ _ _ _ (k d own2 hp) ((w1.adopt (nw := own2) g2 s2 o2.nd fun q hq => ⟨o2.b q hq, o2.z q hq, o2.h q hq⟩).slot r2 i)⟩
theorem rp_mid {H : Hp} {v : V} {l : Addr} {ds : List D} {pre post : List D} (hl : Rp c.K H (.ref l) (.lst ds)) (r : Rp c.K H v (.lst (pre ++ .raw (.ref l) :: post))) : Rp c.K H v (.lst (pre ++ .lst ds :: post)) := by
  cases r with
  | lst h r =>
    refine .lst h ?_
    clear h
    rename_i vs
    induction pre generalizing vs with
    | nil =>
      cases r with
      | cons r1 t =>
        cases r1
        exact .cons hl t
    | cons d pre ih =>
      cases r with
      | cons r1 t => exact .cons r1 (ih t)
/-- an own list that stands in a list in a slot is frozen -/
theorem sj_frzIn {l : Addr} {ds : List D} (pre post : List D) (hk : own[k]? = some (l, ds)) (hi : Γ[i]? = some (some (.lst (pre ++ .raw (.ref l) :: post)))) (h : SJ c ts (Γ.set i (some (.lst (pre ++ .lst ds :: post)))) (own.eraseIdx k) NX) : SJ c ts Γ own NX := fun B0 B H0 σ H w D nx ct bk rt => by
  obtain ⟨H1, w1, hx, r1⟩ := w.fz hk
  refine h B0 B H1 σ H ⟨w1.gr, w1.s, w1.b, w1.bB, ⟨by rw [List.length_set]; exact w1.n.len, fun j d hj => ?_⟩, w1.o⟩ D nx ct bk rt
  by_cases e : i = j
  · subst e
    have hl' := (List.getElem?_eq_some_iff.mp hi).1
    rw [List.getElem?_set_self hl'] at hj
    cases hj
    obtain ⟨v, h1, h2⟩ := w1.n.get i _ hi
    exact ⟨v, h1, rp_mid r1 h2⟩
  · rw [List.getElem?_set_ne e] at hj
    exact w1.n.get j d hj
end
/-! ### what the plain law says -/
def mtx (vs : List (List (List Rat))) (sh : List Shp) (steps : List Stp) (n : Nat) : Mat := mt (evs vs.length sh steps (valsB vs) steps.length) n
def tld (vs : List (List (List Rat))) (sh : List Shp) (steps : List Stp) (n : Nat) : List BMat := (List.range n).map fun k => (true, mtx vs sh steps k)
def ValsAll (gc : List (List (List Cl))) (vs : List (List (List Rat))) : Prop := vs.length = gc.length ∧ ∀ (i : Nat) (rows : List (List Cl)) (v : List (List Rat)), gc[i]? = some rows → vs[i]? = some v → VsOk rows v
structure LawOk (gs : List Grd) (steps : List Stp) (sh : List Shp) (vs : List (List (List Rat))) : Prop where
  sc : ScrOk gs steps sh
  gv : GvOk gs vs
  run : ∀ n, n < sh.length → RunOk sh steps (valsB vs) n
  out : ∀ n, n < sh.length → OutOk (mtx vs sh steps n) (shp sh n)
  star : ∀ (k a : Nat), steps[k]? = some (.star a) → a < vs.length + k ∧ ∃ m, m ≤ 100 ∧ IsStar m (mtx vs sh steps a) (mtx vs sh steps (vs.length + k))
  cell : ∀ (k : Nat) (s : Stp), steps[k]? = some s → (¬ ∃ a, s = .star a) → (shp sh (vs.length + k)).1 ≤ 100 ∧ (shp sh (vs.length + k)).2 ≤ 100 ∧
    mtx vs sh steps (vs.length + k) = ((List.range (shp sh (vs.length + k)).1).map fun i => (List.range (shp sh (vs.length + k)).2).map fun j => cellMade s sh (tld vs sh steps (vs.length + k + 1)) i j) ∧
    TimesSh s sh (tld vs sh steps (vs.length + k + 1)) ∧ ∀ i j, i < (shp sh (vs.length + k)).1 → j < (shp sh (vs.length + k)).2 → CellsOk s sh (tld vs sh steps (vs.length + k + 1)) i j
/-- a star of the star behind all, or not -/
def FinOk (ng n : Nat) (pre ws : List Stp) (sh0 : List Shp) (steps : List Stp) (sh : List Shp) : Prop := (steps = stepsOf ng pre ws ∧ sh = sh0) ∨ (steps = stepsOf ng pre ws ++ [.star (ng + pre.length)] ∧ sh = sh0 ++ [(n, n)])
def LawAll : Prop := ∀ (nb n : Nat) (gc : List (List (List Cl))) (pre ws : List Stp) (sh0 : List Shp) (steps : List Stp) (sh : List Shp) (vs : List (List (List Rat))), StarredOk nb n gc pre ws sh0 → FinOk gc.length n pre ws sh0 steps sh → ValsAll gc vs → LawOk (gc.map (grdOf nb)) steps sh vs
theorem evs_pre {ng : Nat} {sh : List Shp} {steps : List Stp} {vals : List BMat} (h : vals.length = ng) {a : Nat} : ∀ d k, k + d ≤ steps.length → a < ng + k → mt (evs ng sh steps vals (k + d)) a = mt (evs ng sh steps vals k) a
  | 0, _, _, _ => rfl
  | d + 1, k, hk, ha => by
    have ih := evs_pre (sh := sh) (steps := steps) (vals := vals) h d k (by omega) ha
    have e : steps[k + d]? = some (steps[k + d]'(by omega)) := List.getElem?_eq_getElem (by omega)
    show mt (evs ng sh steps vals (k + d + 1)) a = _
    rw [evs_succ e, ← ih]
    have hl : (evs ng sh steps vals (k + d)).length = ng + (k + d) := evs_len h _ (by omega)
    simp only [mt, List.getD]
    rw [List.getElem?_append_left (by omega)]
theorem allM_mtx {sc : Scr} {vs : List (List (List Rat))} {n : Nat} (h : n < vs.length + sc.steps.length) : mt (allM sc vs n) n = mtx vs sc.sh sc.steps n := by
  unfold allM mtx
  have := evs_pre (ng := vs.length) (sh := sc.sh) (steps := sc.steps) (vals := valsB vs) (by simp) (a := n) (sc.steps.length - min sc.steps.length (n + 1 - vs.length)) (min sc.steps.length (n + 1 - vs.length)) (by omega) (by omega)
  rw [show min sc.steps.length (n + 1 - vs.length) + (sc.steps.length - min sc.steps.length (n + 1 - vs.length)) = sc.steps.length by omega] at this
  exact this.symm
/-! ### == of whole grids -/
theorem eqv_row (r : List Oc) : PyData.eqvAll (pys (r.map encO)) (pys (r.map encO)) = true := by
  induction r with
  | nil => simp [pys, PyData.eqvAll]
  | cons x r ih =>
    show PyData.eqvAll (py (encO x) :: pys (r.map encO)) (py (encO x) :: pys (r.map encO)) = true
    rw [PyData.eqvAll, eqv_encO, ih]
    simp
theorem eqv_encRl (r : List Oc) : PyData.eqv (py (.lst (r.map encO))) (py (.lst (r.map encO))) = true := by
  show PyData.eqv (.list (pys (r.map encO))) (.list (pys (r.map encO))) = true
  rw [PyData.eqv]
  exact eqv_row r
theorem eqv_encRt (r : List Oc) : PyData.eqv (py (encR true r)) (py (encR true r)) = true := by
  show PyData.eqv (.tuple (pys (r.map encO))) (.tuple (pys (r.map encO))) = true
  rw [PyData.eqv]
  exact eqv_row r
theorem ok_mat (M : Mat) : okDs (M.map (encR true)) = true := by
  induction M with
  | nil => rfl
  | cons r M ih => show (okDs (r.map encO) && okDs (M.map (encR true))) = true; rw [ok_row, ih]; rfl
theorem lay_mat (M : Mat) : PyData.canLayAll0 (pys (M.map (encR true))) = true := by
  induction M with
  | nil => rfl
  | cons r M ih =>
    show ((py (encR true r)).canLay0 && PyData.canLayAll0 (pys (M.map (encR true)))) = true
    rw [ih]
    show (PyData.canLay0 (.tuple (pys (r.map encO))) && true) = true
    rw [PyData.canLay0, lay_row]
    rfl
theorem depth_mat (M : Mat) : PyData.depthAll (pys (M.map (encR true))) ≤ 2 := by
  induction M with
  | nil => exact Nat.zero_le _
  | cons r M ih =>
    have h1 := depth_row r
    have h2 : (py (encR true r)).depth ≤ 2 := by
      show PyData.depth (.tuple (pys (r.map encO))) ≤ 2
      rw [PyData.depth]
      omega
    show max (py (encR true r)).depth (PyData.depthAll (pys (M.map (encR true)))) ≤ 2
    omega
theorem sh_mat (M : Mat) : SeqAt.shaped (py (encM true M)) = true := shaped_of (d := .tuple (pys (M.map (encR true)))) (by rw [PyData.canLay0]; exact lay_mat M) (n := 3) (by
  have := depth_mat M
  rw [PyData.depth]
  omega)
theorem eqv_mat (M : Mat) : PyData.eqv (py (encM true M)) (py (encM true M)) = true := by
  show PyData.eqv (.tuple (pys (M.map (encR true)))) (.tuple (pys (M.map (encR true)))) = true
  rw [PyData.eqv]
  induction M with
  | nil => simp [pys, PyData.eqvAll]
  | cons r M ih =>
    show PyData.eqvAll (py (encR true r) :: pys (M.map (encR true))) (py (encR true r) :: pys (M.map (encR true))) = true
    rw [PyData.eqvAll, eqv_encRt, ih]
    rfl
theorem tld_at {vs : List (List (List Rat))} {sh : List Shp} {steps : List Stp} {n a : Nat} (h : a < n) : atI ((tld vs sh steps n).map encMM) (a : Int) = some (encM true (mtx vs sh steps a)) := by
  rw [atI_natE, List.getElem?_map]
  simp [tld, h, encMM]
theorem tld_succ {vs : List (List (List Rat))} {sh : List Shp} {steps : List Stp} {n : Nat} : (tld vs sh steps (n + 1)).map encMM = (tld vs sh steps n).map encMM ++ [encM true (mtx vs sh steps n)] := by
  simp [tld, List.range_succ, encMM]
theorem mtx_val {vs : List (List (List Rat))} {sh : List Shp} {steps : List Stp} {i : Nat} (h : i < vs.length) : mtx vs sh steps i = encV vs[i] := by
  unfold mtx
  have := evs_pre (ng := vs.length) (sh := sh) (steps := steps) (vals := valsB vs) (by simp) (a := i) steps.length 0 (by omega) (by omega)
  rw [Nat.zero_add] at this
  rw [this]
  show mt (valsB vs) i = _
  simp [mt, List.getD, h]
def spLaw (K : PySem.W.Frag) : Sp := fun vs H Q _ => ∃ (p : Addr) (ns : List Int), vs = [.ref p] ∧ SqL K H p (ns.map V.int) ∧ ∀ H', Q (.bl true) H'
end U
set_option maxHeartbeats 4000000
/-! H12: the law walked. -/
namespace U
open PySem PyProof.Rows L2 Evl RZ
local macro_rules | `(tactic| walk_at "u") => `(tactic| first
  | ((with_reducible apply ev_cT) <;> assumption)
  | with_reducible apply ev_c
  | ((with_reducible apply ev_var); rfl)
  | with_reducible apply ea_nil
  | ((with_reducible apply ea_cons) <;> (try walk_at "u"))
  | ((with_reducible apply ev_opd) <;> (try walk_at "u"))
  | with_reducible apply ro_I0
  | ((with_reducible apply ro_I) <;> (try walk_at "s"))
  | ((with_reducible apply ro_ix) <;> (try walk_at "s"))
  | ((with_reducible apply ro_eq); rfl)
  | ((with_reducible apply ro_ne); rfl)
  | ((with_reducible apply ev_un) <;> (try walk_at "u"))
  | ((with_reducible apply ev_tup) <;> (try walk_at "u"))
  | ((with_reducible apply ev_lst) <;> (try walk_at "u"))
  | ((with_reducible apply ev_cbd) <;> (try walk_at "u"))
  | ((with_reducible apply rc_len) <;> (try walk_at "s"))
  | with_reducible apply rc_abs
  | with_reducible apply rc_int
  | with_reducible apply rc_intb
  | ((with_reducible apply rc_list) <;> (try walk_at "s"))
  | ((with_reducible apply rc_tup) <;> (try walk_at "s"))
  | ((with_reducible apply rc_isi) <;> (try walk_at "s"))
  | ((with_reducible apply ev_call) <;> (try walk_at "u"))
  | ((with_reducible apply ev_and2) <;> (try walk_at "u"))
  | ((with_reducible apply ev_or2) <;> (try walk_at "u"))
  | ((with_reducible apply ev_notV) <;> (try walk_at "u"))
  | ((with_reducible apply ev_chain) <;> (try walk_at "u"))
  | ((with_reducible apply et_testd) <;> (try walk_at "u"))
  | ((with_reducible apply et_B) <;> (try walk_at "u"))
  | ((with_reducible apply et_and) <;> (try walk_at "u"))
  | ((with_reducible apply et_or) <;> (try walk_at "u"))
  | ((with_reducible apply et_not) <;> (try walk_at "u"))
  | ((with_reducible intro h_) <;> (try walk_at "u"))
  | exact len_ok rfl
  | decide)
local macro_rules | `(tactic| walk_at "s") => `(tactic| first
  | with_reducible assumption
  | exact SeqD.l
  | exact SeqD.t
  | exact seqB_l
  | exact seqB_t
  | with_reducible exact ok_encO _
  | with_reducible exact sh_encO _
  | with_reducible rfl
  | ((with_reducible refine Eq.trans ?_ rfl); rfl)
  | assumption
  | decide)
variable {P : Program} {w : World} {K : PySem.W.Frag} {mg : Str → Option Value} {base : Heap}
theorem it4_1 {a b c d : D} : atI [a, b, c, d] (1 : Int) = some b := rfl
theorem it4_2 {a b c d : D} : atI [a, b, c, d] (2 : Int) = some c := rfl
theorem it4_3 {a b c d : D} : atI [a, b, c, d] (3 : Int) = some d := rfl
theorem r_l_starred {a c : Addr} : R_l_starred K [.raw (.ref a)] (some (StV.draw a c)) [] StarredP := ⟨a, c, rfl, rfl, rfl, rfl⟩
theorem ok_law (hL : LawAll) (T : Tx K mg) {f : Addr} {fd : FuncData} (F : FunD K "law" "law" (defArgs s_law) (defBody s_law) (defScope s_law) [] [] f fd) (D_l_start : DefP P w K mg base 1 "_law_start" ["_law_script_here"] (spStart K)) (D_l_starred : DefP P w K mg base 6 "_law_starred" ["_law_state"] (spW K (R_l_starred K))) (D_l_script : Def P w K mg base 9 "_law_script" ["_law_world_here"] (R_l_script K)) (D_l_pick : Def P w K mg base 1 "_law_pick" ["_law_state", "_law_many"] (R_l_pick K)) (D_outcome : Def P w K mg base 8 "outcome" ["script", "values", "at"] (R_outcome K)) (D_l_values : Def P w K mg base 2 "_law_values" ["_law_state", "_law_rows"] (R_l_values K)) (D_l_are_outcomes : Def P w K mg base 2 "_law_are_outcomes" ["_law_thing", "_law_shape_here"] (R_l_are_outcomes K)) (D_l_is_star : Def P w K mg base 6 "_law_is_star" ["_law_rows", "_law_told"] (R_l_is_star K)) (D_l_cell_of : Def P w K mg base 4 "_law_cell_of" ["_law_step_here", "_law_shapes", "_law_told", "_law_i", "_law_j"] (R_l_cell_of K)) : FnOk P w K mg base CX0 10 f fd ["_law_script_here"] (spLaw K) := by
  refine F.ok (k := 9) sc_law (fun vs H Q E h => ?_) (fun cdv A outer s H vs Q E hr h => ?_)
  · obtain ⟨p, ns, rfl, _⟩ := h
    rfl
  · obtain ⟨p, ns, rfl, hS, q⟩ := h
    suffices hh : ∃ t, PSs (cxOf CX0 P w K mg base n_law "law" (defScope s_law) f cdv A outer s H E).nox (defBody s_law) t ∧ t { nx := fun _ H' => Q .non H', rt := Q } (start n_law [.ref p]) H by
      obtain ⟨t, h1, h2⟩ := hh
      exact ⟨t, h1.nox, h2⟩
    refine ⟨_, (pss_cons (ps_set (i := 1) sc_law.nd rfl (Or.inr rfl) (pe_callP D_l_start ⟨rfl, rfl, rfl, rfl, rfl⟩ (hr.mono (by decide)) (by rfl) (pa_cons (pv 0) pa_nil)))
        (pss_cons (ps_set (i := 2) sc_law.nd rfl (Or.inr rfl) (pe_callP D_l_starred ⟨rfl, rfl, rfl, rfl, rfl⟩ (hr.mono (by decide)) (by rfl) (pa_cons (pv 1) pa_nil)))
        (pss_cons (ps_if (pt_cmpR op_eq (pe_callD D_l_pick ⟨rfl, rfl, rfl, rfl, rfl⟩ (hr.mono (by decide)) (by rfl) (pa_cons (pv 1) (pa_cons pe_int pa_nil))) pe_int (nomark _)) (pss_cons (ps_expr (pe_bm PySem.F.plainAttrs_list PySem.F.slot_list_append PySem.F.type_list_append mt_append (pe_ix (k_ix (K := K) (by rfl)) (pv 2) pe_int (fun _ _ => rfl)) (pa_cons (pe_tup (pa_cons pe_str (pa_cons (pe_op op_add (pe_callB (k_len (K := K) (by rfl)) (by rfl) T.len (by decide +kernel) (pa_cons (pe_ix (k_ix (K := K) (by rfl)) (pv 2) pe_int (fun _ _ => rfl)) pa_nil)) (pe_bm PySem.F.plainAttrs_list PySem.F.slot_list_index PySem.F.type_list_index (k_mtIndex (K := K) (by rfl)) (pe_lc (own := [("_law_step_here", 8)]) (by rfl) sc_law.nd (k_seq (K := K) (by rfl) (pe_ix (k_ix (K := K) (by rfl)) (pv 2) pe_int (fun _ _ => rfl))) (blkOk_by (by kernel_rfl)) (fun _ _ _ _ _ => (pg_name (i := 8) sc_law.nd rfl (by first | exact Or.inl rfl | exact Or.inr rfl))) (fun _ _ _ _ _ => pts_nil) (fun _ _ _ _ _ => (pe_ix (k_ix (K := K) (by rfl)) (pv 8) pe_int (fun _ _ => rfl)))) (pa_cons pe_str pa_nil))) pa_nil))) pa_nil)))
        (pss_one (ps_expr (pe_bm PySem.F.plainAttrs_list PySem.F.slot_list_append PySem.F.type_list_append mt_append (pe_ix (k_ix (K := K) (by rfl)) (pv 2) pe_int (fun _ _ => rfl)) (pa_cons (pe_ix (k_ix (K := K) (by rfl)) (pe_ix (k_ix (K := K) (by rfl)) (pv 2) pe_int (fun _ _ => rfl)) pe_int (fun _ _ => rfl)) pa_nil))))) pss_nil)
        (pss_cons (ps_set (i := 3) sc_law.nd rfl (Or.inl rfl) (pe_callTy (k_tup (K := K) (by rfl)) (by rfl) T.tuple (by decide +kernel) (pa_cons (pe_lc (own := [("_law_rows", 9)]) (by rfl) sc_law.nd (k_seq (K := K) (by rfl) (pe_ix (k_ix (K := K) (by rfl)) (pv 2) pe_int (fun _ _ => rfl))) (blkOk_by (by kernel_rfl)) (fun _ _ _ _ _ => (pg_name (i := 9) sc_law.nd rfl (by first | exact Or.inl rfl | exact Or.inr rfl))) (fun _ _ _ _ _ => pts_nil) (fun _ _ _ _ _ => (pe_callD D_l_values ⟨rfl, rfl, rfl, rfl, rfl⟩ (hr.mono (by decide)) (by rfl) (pa_cons (pv 1) (pa_cons (pv 9) pa_nil))))) pa_nil)))
        (pss_cons (ps_set (i := 4) sc_law.nd rfl (Or.inl rfl) (pe_callD D_l_script ⟨rfl, rfl, rfl, rfl, rfl⟩ (hr.mono (by decide)) (by rfl) (pa_cons (pv 2) pa_nil)))
        (pss_cons (ps_set (i := 5) sc_law.nd rfl (Or.inr rfl) (pe_lst pa_nil))
        (pss_cons (ps_for PassesOwn.never (by rfl) (pi_range1 (by rfl) T.range (pa_cons (pe_callB (k_len (K := K) (by rfl)) (by rfl) T.len (by decide +kernel) (pa_cons (pe_ix (k_ix (K := K) (by rfl)) (pv 2) pe_int (fun _ _ => rfl)) pa_nil)) pa_nil)) (pg_name (i := 6) sc_law.nd rfl (by first | exact Or.inl rfl | exact Or.inr rfl)) (pss_cons (ps_set (i := 7) sc_law.nd rfl (Or.inl rfl) (pe_callD D_outcome ⟨rfl, rfl, rfl, rfl, rfl⟩ (hr.mono (by decide)) (by rfl) (pa_cons (pv 4) (pa_cons (pv 3) (pa_cons (pv 6) pa_nil)))))
        (pss_cons (ps_if (pt_not (pt_val (pe_callD D_l_are_outcomes ⟨rfl, rfl, rfl, rfl, rfl⟩ (hr.mono (by decide)) (by rfl) (pa_cons (pv 7) (pa_cons (pe_ix (k_ix (K := K) (by rfl)) (pe_ix (k_ix (K := K) (by rfl)) (pv 2) pe_int (fun _ _ => rfl)) (pv 6) (fun _ _ => rfl)) pa_nil))))) (pss_one (ps_ret pe_bl)) pss_nil)
        (pss_cons (ps_expr (pe_bm PySem.F.plainAttrs_list PySem.F.slot_list_append PySem.F.type_list_append mt_append (pv 5) (pa_cons (pv 7) pa_nil)))
        (pss_one (ps_if (pt_cmpR op_lt (pv 6) (pe_callB (k_len (K := K) (by rfl)) (by rfl) T.len (by decide +kernel) (pa_cons (pe_ix (k_ix (K := K) (by rfl)) (pv 2) pe_int (fun _ _ => rfl)) pa_nil)) (nomark _)) (pss_one (ps_if (pt_cmpR (k_neD (K := K) (by rfl) hr.units) (pv 7) (pe_ix (k_ix (K := K) (by rfl)) (pv 3) (pv 6) (fun _ _ => rfl)) (nomark _)) (pss_one (ps_ret pe_bl)) pss_nil)) (pss_cons (ps_set (i := 8) sc_law.nd rfl (Or.inr rfl) (pe_ix (k_ix (K := K) (by rfl)) (pe_ix (k_ix (K := K) (by rfl)) (pv 2) pe_int (fun _ _ => rfl)) (pe_op op_sub (pv 6) (pe_callB (k_len (K := K) (by rfl)) (by rfl) T.len (by decide +kernel) (pa_cons (pe_ix (k_ix (K := K) (by rfl)) (pv 2) pe_int (fun _ _ => rfl)) pa_nil))) (fun _ _ => rfl)))
        (pss_one (ps_if (pt_cmpR op_eq (pe_ix (k_ix (K := K) (by rfl)) (pv 8) pe_int (fun _ _ => rfl)) pe_str (nomark _)) (pss_one (ps_if (pt_not (pt_val (pe_callD D_l_is_star ⟨rfl, rfl, rfl, rfl, rfl⟩ (hr.mono (by decide)) (by rfl) (pa_cons (pe_ix (k_ix (K := K) (by rfl)) (pv 5) (pe_ix (k_ix (K := K) (by rfl)) (pv 8) pe_int (fun _ _ => rfl)) (fun _ _ => rfl)) (pa_cons (pv 7) pa_nil))))) (pss_one (ps_ret pe_bl)) pss_nil)) (pss_cons (ps_asg (pe_ix (k_ix (K := K) (by rfl)) (pe_ix (k_ix (K := K) (by rfl)) (pv 2) pe_int (fun _ _ => rfl)) (pv 6) (fun _ _ => rfl)) (k_gtup (K := K) (n := 2) (by rfl) (by rfl) (pgs_cons (pg_name (i := 9) sc_law.nd rfl (by first | exact Or.inl rfl | exact Or.inr rfl)) (pgs_cons (pg_name (i := 10) sc_law.nd rfl (by first | exact Or.inl rfl | exact Or.inr rfl)) pgs_nil))))
        (pss_one (ps_for PassesOwn.never (by rfl) (pi_range1 (by rfl) T.range (pa_cons (pv 9) pa_nil)) (pg_name (i := 11) sc_law.nd rfl (by first | exact Or.inl rfl | exact Or.inr rfl)) (pss_one (ps_if (pt_cmpR (k_neD (K := K) (by rfl) hr.units) (pe_callTy (k_list (K := K) (by rfl)) (by rfl) T.list (by decide +kernel) (pa_cons (pe_ix (k_ix (K := K) (by rfl)) (pv 7) (pv 11) (fun _ _ => rfl)) pa_nil)) (pe_lc (own := [("_law_j", 12)]) (by rfl) sc_law.nd (pi_range1 (by rfl) T.range (pa_cons (pv 10) pa_nil)) (blkOk_by (by kernel_rfl)) (fun _ _ _ _ _ => (pg_name (i := 12) sc_law.nd rfl (by first | exact Or.inl rfl | exact Or.inr rfl))) (fun _ _ _ _ _ => pts_nil) (fun _ _ _ _ _ => (pe_callD D_l_cell_of ⟨rfl, rfl, rfl, rfl, rfl⟩ (hr.mono (by decide)) (by rfl) (pa_cons (pv 8) (pa_cons (pe_ix (k_ix (K := K) (by rfl)) (pv 2) pe_int (fun _ _ => rfl)) (pa_cons (pv 5) (pa_cons (pv 11) (pa_cons (pv 12) pa_nil)))))))) (nomark _)) (pss_one (ps_ret pe_bl)) pss_nil))))))))))))))
        (pss_one (ps_ret pe_bl))))))))), ?_⟩
    (try dsimp only [cxOf, Cx.nox, Cx.wish])
    refine ⟨.ref p, rfl, p, ns, rfl, hS, fun a c H1 ms hx ha hc hst => ?_⟩
    dsimp only [gName]
    refine sj_run (c := ⟨K, some (StV.draw a c), [], Is (.bl true), fun _ _ => False, fun _ _ => False, fun _ _ => True⟩) (Γ := [some (.raw (.ref p)), some (.raw (.ref a)), none, none, none, none, none, none, none, none, none, none, none]) (own := []) (NX := fun _ _ => False) (fun _ => none) H1 (fun _ => none) ?_ (fun _ _ _ _ _ z => z.elim) (fun _ _ _ _ _ z => z.elim) (fun _ _ _ _ _ z => z.elim) (fun v d own' H2 H' g s' hp _ o r => ?_) ?_
    · have e0 : ∀ H : Hp, Ex (fun _ => none) H := fun H a o h => by cases h
      refine ⟨Gr.refl (e0 _), ⟨rfl, rfl, ms, 0, 0, hst⟩, (fun _ h => by cases h), (fun _ h => by cases h), ?_, ⟨by simp, (fun _ h => by cases h), (fun _ h => by cases h), (fun _ h => by cases h), (fun _ h => by cases h)⟩⟩
      have n0 := En.start (K := K) (H := fun _ => none) (N := n_law) (ds := [.raw (.ref p)]) (.one (.raw (.ref p))) (by show 1 ≤ 13; decide)
      exact n0.set (.raw (.ref a)) 1
    · have hp' : d = .bl true := hp
      subst hp'
      cases r
      exact q H'
    -- the world
    refine sj_seq (sj_setW (ea_cons (ev_var rfl) ea_nil) (r_l_starred (K := K) (a := a) (c := c)) fun d own2 hd => ?_)
    obtain ⟨nb, n, gc, pre, ws, sh0, ls, lsh, hw, rfl, rfl⟩ := hd
    have hpl := hw.p.len
    have hg1 := hw.g1
    have hg2 := hw.g2
    have hn3 := hw.n3
    have hs2 := hw.s2
    have hs := hw.s
    have hsl := hs.l
    have gE : ∀ {st : Stt} {mu : Mu} {x2 x3 : D} (G0 : G), G0[2]? = some (some (.lst [nD nb, .lst (gc.map encCm), x2, x3])) → EV K st mu (tOp (rIx K) (tVar 2) (tC (.int 1))) G0 (Is (.lst (gc.map encCm))) := fun G0 h0 => ev_opd (ev_var h0) ev_c (ro_ix SeqD.l it4_1)
    have ngE : ∀ {st : Stt} {mu : Mu} {x2 x3 : D} (G0 : G), G0[2]? = some (some (.lst [nD nb, .lst (gc.map encCm), x2, x3])) → EV K st mu (tCB (cLen K) (tCons (tOp (rIx K) (tVar 2) (tC (.int 1))) tNil)) G0 (Is (nD gc.length)) := fun G0 h0 => EV.is (ev_cbd (ea_cons (gE G0 h0) ea_nil) (rc_len SeqD.l)) (by simp)
    have stE : ∀ {st : Stt} {mu : Mu} {x0 x1 x2 x3 : D} (G0 : G), G0[2]? = some (some (.lst [x0, x1, x2, x3])) → EV K st mu (tOp (rIx K) (tVar 2) (tC (.int 2))) G0 (Is x2) := fun G0 h0 => ev_opd (ev_var h0) ev_c (ro_ix SeqD.l it4_2)
    have shE : ∀ {st : Stt} {mu : Mu} {x0 x1 x2 x3 : D} (G0 : G), G0[2]? = some (some (.lst [x0, x1, x2, x3])) → EV K st mu (tOp (rIx K) (tVar 2) (tC (.int 3))) G0 (Is x3) := fun G0 h0 => ev_opd (ev_var h0) ev_c (ro_ix SeqD.l it4_3)
    -- a star behind all, or not
    refine sj_seq (SJ.imp (NX := fun Γ own => ∃ (steps : List Stp) (sh : List Shp), FinOk gc.length n pre ws sh0 steps sh ∧ Γ = [some (.raw (.ref p)), some (.raw (.ref a)), some (.lst [nD nb, .lst (gc.map encCm), .raw (.ref ls), .raw (.ref lsh)]), none, none, none, none, none, none, none, none, none, none] ∧ own = [(ls, steps.map encS), (lsh, sh.map encSh)]) ?_ ?_)
    · refine sj_if (PB := fun _ => True) (et_test (EV.imp (ev_op (P := fun d => ∃ b : Bool, d = .bl b) (ev_pick (m := 4) (ev_var rfl) ev_c (by decide) (by decide)) ev_c fun x y ⟨k, _, ex⟩ ey => by
        subst ex ey
        intro H0 H vx vy i s m rx ry Q qq
        exact ro_eq (x := .int (k : Nat)) (y := .int 0) rfl H0 H vx vy i s m rx ry Q fun v d H1 H' g s' e r => qq v d H1 H' g s' ⟨_, e⟩ r) fun d ⟨b, e⟩ => ⟨b, e, trivial⟩)) (fun _ => ?_) fun _ => sj_next ⟨_, _, .inl ⟨rfl, rfl⟩, rfl, rfl⟩
      have mls : (ls, (stepsOf gc.length pre ws).map encS) ∈ ([] ++ [(ls, (stepsOf gc.length pre ws).map encS), (lsh, sh0.map encSh)] : Mu) := by simp
      have hsn : (stepsOf gc.length pre ws).length ≤ 10 := by simp [stepsOf]; omega
      refine sj_seq (sj_appE (l := ls) (k := 0) (PV := Is (encS (.star (gc.length + pre.length)))) (stE _ rfl) rfl (EV.is (ev_tup (ea_cons ev_c (ea_cons (ev_opd (ngE _ rfl) (ev_index (xs := (stepsOf gc.length pre ws).map wordS) (x := "star") (j := pre.length) (EV.is (ev_lcd (mu' := [(ls, (stepsOf gc.length pre ws).map encS)]) (it_seqM (stE _ rfl) mls) (fun p hp => by rw [List.mem_singleton.mp hp]; exact mls) (by simp) (by rw [List.length_map]; omega) (fun i => .str (wordS ((stepsOf gc.length pre ws).getD i (.star 0)))) fun i hi => ?_) ?_) ev_c ?_ ?_) ro_I0) ea_nil)) (len_ok rfl)) ?_) (by rw [List.length_map]; omega) fun d e => ?_)
      · have hi' : i < (stepsOf gc.length pre ws).length := by simpa using hi
        have e : ((stepsOf gc.length pre ws).map encS)[i]? = some (.tup (.str (wordS ((stepsOf gc.length pre ws).getD i (.star 0))) :: (argsS ((stepsOf gc.length pre ws).getD i (.star 0))).map nD)) := by
          generalize stepsOf gc.length pre ws = zs at hi'
          rw [List.getElem?_map, List.getElem?_eq_getElem hi']
          show some (encS _) = _
          rw [stp_items, show zs.getD i (.star 0) = zs[i] by simp [List.getD, hi']]
        show EV K _ _ _ (List.set _ 8 (((stepsOf gc.length pre ws).map encS)[i]?)) _
        rw [e]
        exact ev_opd (ev_var rfl) ev_c (ro_ix SeqD.t at_head)
      · congr 1
        rw [List.length_map]
        have := range_get (stepsOf gc.length pre ws) (fun s => D.str (wordS s)) (.star 0)
        rw [List.map_map]
        exact this
      · simp [stepsOf, wordS]
      · intro m y hmj hy
        have hm1 : m = 0 := by omega
        subst hm1
        rcases hw.p with e | e | e | e
        · rw [e] at hmj; cases hmj
        · rw [e] at hy
          have e2 : ("times" : Str) = y := by simpa [stepsOf, wordS] using hy
          rw [← e2]
          decide
        · rw [e] at hy
          have e2 : ("plus" : Str) = y := by simpa [stepsOf, wordS] using hy
          rw [← e2]
          decide
        · rw [e] at hy
          have e2 : ("turned" : Str) = y := by simpa [stepsOf, wordS] using hy
          rw [← e2]
          decide
      · show D.tup [.str "star", .int ((gc.length : Int) + (pre.length : Int))] = .tup [.str "star", .int ((gc.length + pre.length : Nat) : Int)]
        rw [Int.natCast_add]
      subst e
      have mlsh : (lsh, sh0.map encSh) ∈ ([] ++ [(ls, (stepsOf gc.length pre ws).map encS ++ [encS (.star (gc.length + pre.length))]), (lsh, sh0.map encSh)] : Mu) := by simp
      have h0 : 0 < sh0.length := by omega
      refine sj_appE (l := lsh) (k := 1) (PV := Is (encSh (n, n))) (shE _ rfl) rfl (EV.is (ev_opd (shE _ rfl) ev_c (ro_ix (i := ((0 : Nat) : Int)) (SeqD.m mlsh) (at_shp h0))) (by rw [hs.q 0 (by omega)])) (by rw [List.length_map]; omega) fun d e => ?_
      subst e
      exact ⟨_, _, .inr ⟨rfl, rfl⟩, rfl, by simp⟩
    rintro Γ' own' ⟨steps, sh, hF, rfl, rfl⟩
    have hshn : sh.length = gc.length + steps.length ∧ steps.length ≤ 10 ∧ steps.length ≠ 0 := by
      rcases hF with ⟨e1, e2⟩ | ⟨e1, e2⟩
      · rw [e1, e2]; simp [stepsOf]; omega
      · rw [e1, e2]; simp [stepsOf]; omega
    refine sj_frzIn (k := 0) (i := 2) [nD nb, .lst (gc.map encCm)] [.raw (.ref lsh)] rfl rfl (sj_frzIn (k := 0) (i := 2) [nD nb, .lst (gc.map encCm), .lst (steps.map encS)] [] rfl rfl ?_)
    -- the values
    refine sj_seq (sj_set (PV := fun d => ∃ vs : List (List (List Rat)), d = .tup (vs.map encVt) ∧ ValsAll gc vs) (ev_cb (PL := fun l => ∃ vs : List (List (List Rat)), l = [.lst (vs.map encVt)] ∧ ValsAll gc vs) (ea_consP (ev_lcsP gc encCm encVt (fun i v => ∀ rows, gc[i]? = some rows → VsOk rows v) false (gE _ rfl) seqB_l (by simp) (by omega) fun i rows hr => ?_) ea_nil fun d l ⟨vs, e1, e2, e3⟩ el => ⟨vs, by rw [e1, el], e2, fun i rows v h1 h2 => e3 i v h2 rows h1⟩) fun ds ⟨vs, e, hv⟩ => ?_) fun d hd => ?_)
    · have hsq := hw.c rows (List.mem_of_getElem? hr)
      exact EV.imp (ev_callS [] (ea_cons (ev_var rfl) (ea_cons (ev_var rfl) ea_nil)) (fun p hp => by cases hp) (r_l_values hsq (by omega))) fun d ⟨v, e, hv⟩ => ⟨v, e, fun rows' h' => by
        rw [hr] at h'
        cases h'
        exact hv⟩
    · rw [e]
      exact RC.imp (rc_tup SeqD.l) fun d e => ⟨vs, e, hv⟩
    obtain ⟨vs, rfl, hvs⟩ := hd
    have hO := hL nb n gc pre ws sh0 steps sh vs hw hF hvs
    have hvl : vs.length = gc.length := hvs.1
    -- the script
    refine sj_seq (sj_set (PV := ScrP K nb gc steps sh) (ev_call (ea_cons (ev_var rfl) ea_nil) (r_l_script hw.nb1 hw.nb3 hw.n1 (by omega) hw.c hO.sc)) fun d hd => ?_)
    obtain ⟨fl, rfl⟩ := hd
    refine sj_seq (sj_newl fun lt => ?_)
    refine sj_seq (sj_forr (n := sh.length) (EA.isL (ea_cons (ev_cbd (ea_cons (shE _ rfl) ea_nil) (rc_len SeqD.l)) ea_nil) (by simp)) (by omega) (fun i Γ own => ∃ x6 x7 x8 x9 x10 x11 : Option D, Γ = [some (.raw (.ref p)), some (.raw (.ref a)), some (encWd nb gc steps sh), some (.tup (vs.map encVt)), some (encScr K ⟨sh, fl, (gc.map (grdOf nb)).map (encG K), steps⟩), some (.raw (.ref lt)), x6, x7, x8, x9, x10, x11, none] ∧ own = [(lt, (tld vs sh steps i).map encMM)]) ⟨none, none, none, none, none, none, rfl, rfl⟩ ?_ ?_)
    · rintro i Γ' own' hi ⟨x6, x7, x8, x9, x10, x11, rfl, rfl⟩
      have hout := hO.out i hi
      have hmt := allM_mtx (sc := ⟨sh, fl, (gc.map (grdOf nb)).map (encG K), steps⟩) (vs := vs) (n := i) (by show i < vs.length + steps.length; omega)
      have hm : mt (allM ⟨sh, fl, (gc.map (grdOf nb)).map (encG K), steps⟩ vs i) i = mtx vs sh steps i := hmt
      have hml : (mtx vs sh steps i).length ≤ 100 := by rw [hout.r]; exact hout.z
      refine sj_seq (sj_setd (d := encM true (mtx vs sh steps i)) (EV.is (ev_call (ea_cons (ev_var rfl) (ea_cons (ev_var rfl) (ea_cons (ev_var rfl) ea_nil))) (r_outcome (sc := ⟨sh, fl, (gc.map (grdOf nb)).map (encG K), steps⟩) hO.gv rfl (by show steps.length ≤ 100; omega) (by show sh.length = vs.length + steps.length; omega) hi (hO.run i hi) (by rw [hm]; exact hml))) (by rw [hm])) ?_)
      refine sj_seq (sj_ifd (b := !true) (et_not (et_testd (ev_call (ea_cons (ev_var rfl) (ea_cons (ev_opd (shE _ rfl) (ev_var rfl) (ro_ix SeqD.l (at_shp hi))) ea_nil)) (r_l_are_outcomes hout)))) (fun e => by cases e) fun _ => sj_next ?_)
      refine sj_seq (sj_app (i := 5) (k := 0) (PV := Is (encM true (mtx vs sh steps i))) rfl rfl (ev_var rfl) (by simp [tld]; omega) fun d e => ?_)
      subst e
      have et : ([(lt, (tld vs sh steps i).map encMM)] : Mu).set 0 (lt, (tld vs sh steps i).map encMM ++ [encM true (mtx vs sh steps i)]) = [(lt, (tld vs sh steps (i + 1)).map encMM)] := by rw [tld_succ]; rfl
      rw [et]
      have mlt : (lt, (tld vs sh steps (i + 1)).map encMM) ∈ ([] ++ [(lt, (tld vs sh steps (i + 1)).map encMM)] : Mu) := by simp
      refine sj_ifd (b := decide (i < gc.length)) (ET.is (et_testd (ev_opd (ev_var rfl) (ngE _ rfl) ro_I0)) (by simp)) (fun e => ?_) fun e => ?_
      · have hig : i < gc.length := of_decide_eq_true e
        have hiv : i < vs.length := by omega
        have ev : atI (vs.map encVt) (i : Int) = some (encM true (mtx vs sh steps i)) := by
          rw [atI_natE, List.getElem?_map, List.getElem?_eq_getElem hiv, mtx_val hiv]
          show some (encVt _) = _
          rw [encVt_eq]
        exact sj_ifd (b := !true) (et_testd (ev_opd (ev_var rfl) (ev_opd (ev_var rfl) (ev_var rfl) (ro_ix SeqD.t ev)) (ro_neD (x := encM true (mtx vs sh steps i)) (y := encM true (mtx vs sh steps i)) (ok_mat _) (ok_mat _) (sh_mat _) (sh_mat _) (eqv_mat _)))) (fun e => by cases e) fun _ => sj_next ⟨_, _, _, _, _, _, rfl, rfl⟩
      · have hig : ¬ i < gc.length := of_decide_eq_false e
        obtain ⟨k, hk⟩ : ∃ k, i = vs.length + k := ⟨i - vs.length, by omega⟩
        have hks : k < steps.length := by omega
        have esk : steps[k]? = some steps[k] := List.getElem?_eq_getElem hks
        have eik : D.int ((i : Int) - (gc.length : Int)) = nD k := by
          show D.int _ = D.int (k : Int)
          rw [show (i : Int) - (gc.length : Int) = (k : Int) by omega]
        generalize steps[k] = s at esk
        have sE : atI (steps.map encS) (k : Int) = some (encS s) := by rw [atI_natE, List.getElem?_map, esk]; rfl
        refine sj_seq (sj_setd (d := .tup (.str (wordS s) :: (argsS s).map nD)) (EV.is (ev_opd (stE _ rfl) (EV.is (ev_opd (ev_var rfl) (ngE _ rfl) ro_I0) eik) (ro_ix SeqD.l sE)) (stp_items s)) ?_)
        by_cases hst : ∃ b, s = .star b
        · obtain ⟨b, rfl⟩ := hst
          obtain ⟨hb, m, hm100, hS⟩ := hO.star k b esk
          rw [← hk] at hS
          refine sj_ifd (b := true) (ET.is (et_testd (ev_opd (ev_opd (ev_var rfl) ev_c (ro_ix SeqD.t at_head)) ev_c (ro_eq rfl))) ((dec_word _ _).trans (isW_ss b))) (fun _ => ?_) fun e => by cases e
          exact sj_ifd (b := !true) (et_not (et_testd (ev_call (ea_cons (ev_opd (ev_var rfl) (ev_opd (ev_var rfl) ev_c (ro_ix SeqD.t rfl)) (ro_ix (SeqD.m mlt) (tld_at (by omega)))) (ea_cons (ev_var rfl) ea_nil)) (r_l_is_star hm100 hS)))) (fun e => by cases e) fun _ => sj_next ⟨_, _, _, _, _, _, rfl, rfl⟩
        · obtain ⟨q1, q2, q3, q4, q5⟩ := hO.cell k s esk hst
          rw [← hk] at q1 q2 q3 q4 q5
          refine sj_ifd (b := false) (ET.is (et_testd (ev_opd (ev_opd (ev_var rfl) ev_c (ro_ix SeqD.t at_head)) ev_c (ro_eq rfl))) ((dec_word s _).trans (isW_star s hst))) (fun e => by cases e) fun _ => ?_
          refine sj_seq (sj_un2 (EV.imp (P := Is (encSh (shp sh i))) (ev_opd (shE _ rfl) (ev_var rfl) (ro_ix SeqD.l (at_shp hi))) fun d e => ⟨_, _, e, ?_⟩))
          generalize hM : mtx vs sh steps i = M at q3
          refine sj_forr (n := (shp sh i).1) (ea_cons (ev_var rfl) ea_nil) (by omega) (fun j Γ own => ∃ x11 : Option D, Γ = [some (.raw (.ref p)), some (.raw (.ref a)), some (encWd nb gc steps sh), some (.tup (vs.map encVt)), some (encScr K ⟨sh, fl, (gc.map (grdOf nb)).map (encG K), steps⟩), some (.raw (.ref lt)), some (nD i), some (encM true M), some (.tup (.str (wordS s) :: (argsS s).map nD)), some (nD (shp sh i).1), some (nD (shp sh i).2), x11, none] ∧ own = [(lt, (tld vs sh steps (i + 1)).map encMM)]) ⟨x11, rfl, rfl⟩ ?_ ?_
          · rintro j Γ' own' hj ⟨x11, rfl, rfl⟩
            have hrow : M.getD j [] = (List.range (shp sh i).2).map fun j' => cellMade s sh (tld vs sh steps (i + 1)) j j' := by
              rw [q3]
              simp [List.getD, hj]
            have hjM : j < M.length := by rw [q3]; simp; exact hj
            refine sj_ifd (b := !true) (et_testd (ev_opd (ev_cbd (ea_cons (ev_opd (ev_var rfl) (ev_var rfl) (ro_ix (seqD_mk true _) (at_row hjM))) ea_nil) (rc_list (seqD_mk true _))) (EV.is (ev_lcr (n := (shp sh i).2) (g := fun j' => encO (cellMade s sh (tld vs sh steps (i + 1)) j j')) (ea_cons (ev_var rfl) ea_nil) (by simp) (by omega) fun j' hj' => ev_callM [(lt, (tld vs sh steps (i + 1)).map encMM)] (ea_cons (EV.is (ev_var rfl) (stp_items s).symm) (ea_cons (shE _ rfl) (ea_cons (ev_var rfl) (ea_cons (ev_var rfl) (ea_cons (ev_var rfl) ea_nil))))) (fun p hp => by rw [List.mem_singleton.mp hp]; exact mlt) (r_l_cell_of (q5 j j' hj hj') q4)) (e := .lst ((M.getD j []).map encO)) (by rw [hrow, List.map_map]; rfl)) (ro_neD (x := .lst ((M.getD j []).map encO)) (y := .lst ((M.getD j []).map encO)) (ok_row _) (ok_row _) (sh_row _) (sh_row _) (eqv_encRl _)))) (fun e => by cases e) fun _ => sj_next ⟨_, rfl, rfl⟩
          · rintro Γ' own' ⟨x11, rfl, rfl⟩
            exact ⟨_, _, _, _, _, _, rfl, rfl⟩
    · rintro Γ' own' ⟨x6, x7, x8, x9, x10, x11, rfl, rfl⟩
      exact sj_ret (EV.is ev_c rfl)
end U
set_option maxHeartbeats 4000000
/-! Q1: the plain law of stars. -/
namespace U
/-! ### extended numbers from 0 on: a commutative semiring -/
structure E where
  v : Oc
  nn : ∀ q, v = some q → 0 ≤ q
namespace E
theorem ext' {a b : E} (h : a.v = b.v) : a = b := by
  cases a; cases b; cases h; rfl
instance : DecidableEq E := fun a b => decidable_of_iff (a.v = b.v) ⟨ext', fun h => by rw [h]⟩
def fin (q : Rat) (h : 0 ≤ q) : E := ⟨some q, fun _ e => by cases e; exact h⟩
def inf : E := ⟨none, fun _ e => by cases e⟩
theorem cases' (a : E) : a = inf ∨ ∃ q h, a = fin q h := by
  obtain ⟨v, nn⟩ := a
  cases v with
  | none => exact .inl (ext' rfl)
  | some q => exact .inr ⟨q, nn q rfl, ext' rfl⟩
theorem mul_nn {a b : Rat} (ha : 0 ≤ a) (hb : 0 ≤ b) : 0 ≤ a * b := Rat.mul_nonneg ha hb
theorem nat_nn (n : Nat) : (0 : Rat) ≤ (n : Nat) := by
  exact Rat.natCast_nonneg
def add (a b : E) : E := ⟨oadd a.v b.v, fun q e => by
  obtain ⟨v, nn⟩ := a
  obtain ⟨w, mm⟩ := b
  cases v with
  | none => cases e
  | some x =>
    cases w with
    | none => cases e
    | some y =>
      have e2 : x + y = q := Option.some.inj e
      have h1 := nn x rfl
      have h2 := mm y rfl
      rw [← e2]
      grind⟩
def mul (a b : E) : E := ⟨omul a.v b.v, fun q e => by
  obtain ⟨v, nn⟩ := a
  obtain ⟨w, mm⟩ := b
  simp only [omul] at e
  split at e
  · cases e
    exact Rat.le_refl
  · cases v with
    | none => cases e
    | some x =>
      cases w with
      | none => cases e
      | some y =>
        have e2 : x * y = q := Option.some.inj e
        rw [← e2]
        exact mul_nn (nn x rfl) (mm y rfl)⟩
instance : Add E := ⟨add⟩
instance : Mul E := ⟨mul⟩
instance : NatCast E := ⟨fun n => fin n (nat_nn n)⟩
instance (n : Nat) : OfNat E n := ⟨(n : E)⟩
instance : SMul Nat E := ⟨fun n a => (n : E) * a⟩
def pow (a : E) : Nat → E
  | 0 => 1
  | n + 1 => pow a n * a
instance : HPow E Nat E := ⟨pow⟩
theorem zero_def : (0 : E) = fin 0 Rat.le_refl := rfl
theorem one_def : (1 : E) = fin 1 (by decide) := rfl
theorem add_ff {x y : Rat} {hx : 0 ≤ x} {hy : 0 ≤ y} : fin x hx + fin y hy = fin (x + y) (by grind) := rfl
theorem add_if {b : E} : inf + b = inf := ext' (by cases b; rfl)
theorem add_fi {a : E} : a + inf = inf := ext' (by
  obtain ⟨v, nn⟩ := a
  cases v <;> rfl)
theorem mul_ff {x y : Rat} {hx : 0 ≤ x} {hy : 0 ≤ y} : fin x hx * fin y hy = fin (x * y) (mul_nn hx hy) := ext' (by
  show omul (some x) (some y) = some (x * y)
  unfold omul
  split
  · rename_i h
    rcases h with h | h
    · have := Option.some.inj h
      rw [this, Rat.zero_mul]
    · have := Option.some.inj h
      rw [this, Rat.mul_zero]
  · rfl)
theorem mul_zf {b : E} : 0 * b = 0 := ext' (by
  show omul (some 0) b.v = some 0
  unfold omul
  rw [if_pos (.inl rfl)])
theorem mul_fz {b : E} : b * 0 = 0 := ext' (by
  show omul b.v (some 0) = some 0
  unfold omul
  rw [if_pos (.inr rfl)])
theorem v_ne {b : E} (h : b ≠ 0) : b.v ≠ some 0 := fun e => h (ext' e)
theorem mul_inf {b : E} (h : b ≠ 0) : inf * b = inf := ext' (by
  show omul none b.v = none
  unfold omul
  rw [if_neg (by
    intro z
    rcases z with z | z
    · cases z
    · exact v_ne h z)])
theorem inf_mul {b : E} (h : b ≠ 0) : b * inf = inf := ext' (by
  show omul b.v none = none
  unfold omul
  rw [if_neg (by
    intro z
    rcases z with z | z
    · exact v_ne h z
    · cases z)]
  cases b.v <;> rfl)
theorem fin_inj {x y : Rat} {hx : 0 ≤ x} {hy : 0 ≤ y} : fin x hx = fin y hy ↔ x = y := ⟨fun e => Option.some.inj (congrArg E.v e), fun e => by subst e; rfl⟩
theorem fin_zero {x : Rat} {hx : 0 ≤ x} : fin x hx = 0 ↔ x = 0 := fin_inj (y := 0) (hy := Rat.le_refl)
theorem inf_ne {x : Rat} {hx : 0 ≤ x} : inf ≠ fin x hx := fun e => by cases congrArg E.v e
theorem inf_ne0 : inf ≠ 0 := fun e => by cases congrArg E.v e
theorem one_ne : (1 : E) ≠ 0 := fun e => by
  have e2 : (1 : Rat) = 0 := fin_zero (hx := by decide).mp e
  revert e2
  decide
theorem comm_mul (a b : E) : a * b = b * a := by
  rcases cases' a with rfl | ⟨x, hx, rfl⟩ <;> rcases cases' b with rfl | ⟨y, hy, rfl⟩
  · rfl
  · by_cases h : y = 0
    · subst h
      show inf * 0 = 0 * inf
      rw [mul_zf, mul_fz]
    · rw [mul_inf (fun e => h (fin_zero.mp e)), inf_mul (fun e => h (fin_zero.mp e))]
  · by_cases h : x = 0
    · subst h
      show 0 * inf = inf * 0
      rw [mul_zf, mul_fz]
    · rw [mul_inf (fun e => h (fin_zero.mp e)), inf_mul (fun e => h (fin_zero.mp e))]
  · rw [mul_ff, mul_ff, fin_inj, Rat.mul_comm]
theorem mul_ne {a b : E} (ha : a ≠ 0) (hb : b ≠ 0) : a * b ≠ 0 := by
  rcases cases' a with rfl | ⟨x, hx, rfl⟩ <;> rcases cases' b with rfl | ⟨y, hy, rfl⟩
  · rw [mul_inf inf_ne0]; exact inf_ne0
  · rw [mul_inf hb]; exact inf_ne0
  · rw [inf_mul ha]; exact inf_ne0
  · rw [mul_ff]
    intro e
    have e := fin_zero.mp e
    rcases Rat.mul_eq_zero.mp e with h | h
    · exact ha (fin_zero.mpr h)
    · exact hb (fin_zero.mpr h)
theorem mul_eq0 {a b : E} : a * b = 0 ↔ a = 0 ∨ b = 0 := by
  constructor
  · intro h
    by_cases ha : a = 0
    · exact .inl ha
    · by_cases hb : b = 0
      · exact .inr hb
      · exact absurd h (mul_ne ha hb)
  · rintro (h | h)
    · rw [h, mul_zf]
    · rw [h, mul_fz]
theorem mul_eqI {a b : E} : a * b = inf ↔ (a = inf ∧ b ≠ 0) ∨ (a ≠ 0 ∧ b = inf) := by
  constructor
  · intro h
    have h0 : a * b ≠ 0 := by rw [h]; exact inf_ne0
    have ha : a ≠ 0 := fun e => h0 (by rw [e, mul_zf])
    have hb : b ≠ 0 := fun e => h0 (by rw [e, mul_fz])
    rcases cases' a with rfl | ⟨x, hx, rfl⟩
    · exact .inl ⟨rfl, hb⟩
    · rcases cases' b with rfl | ⟨y, hy, rfl⟩
      · exact .inr ⟨ha, rfl⟩
      · rw [mul_ff] at h
        exact absurd h.symm inf_ne
  · rintro (⟨h1, h2⟩ | ⟨h1, h2⟩)
    · rw [h1, mul_inf h2]
    · rw [h2, inf_mul h1]
theorem add_eqI {a b : E} : a + b = inf ↔ a = inf ∨ b = inf := by
  rcases cases' a with rfl | ⟨x, hx, rfl⟩ <;> rcases cases' b with rfl | ⟨y, hy, rfl⟩
  · simp [add_if]
  · simp [add_if]
  · simp [add_fi]
  · rw [add_ff]
    exact ⟨fun e => absurd e.symm inf_ne, fun e => e.elim (fun e => absurd e.symm inf_ne) fun e => absurd e.symm inf_ne⟩
theorem add_eq0 {a b : E} : a + b = 0 ↔ a = 0 ∧ b = 0 := by
  rcases cases' a with rfl | ⟨x, hx, rfl⟩ <;> rcases cases' b with rfl | ⟨y, hy, rfl⟩
  · simp [add_if, inf_ne0]
  · simp [add_if, inf_ne0]
  · simp [add_fi, inf_ne0]
  · rw [add_ff, fin_zero, fin_zero, fin_zero]
    constructor
    · intro h; constructor <;> grind
    · rintro ⟨h1, h2⟩; rw [h1, h2, Rat.add_zero]
theorem comm_add (a b : E) : a + b = b + a := by
  rcases cases' a with rfl | ⟨x, hx, rfl⟩ <;> rcases cases' b with rfl | ⟨y, hy, rfl⟩
  · rfl
  · rw [add_if, add_fi]
  · rw [add_if, add_fi]
  · rw [add_ff, add_ff, fin_inj, Rat.add_comm]
theorem zero_add' (a : E) : 0 + a = a := by
  rcases cases' a with rfl | ⟨x, hx, rfl⟩
  · rw [add_fi]
  · rw [zero_def, add_ff, fin_inj, Rat.zero_add]
theorem assoc_add (a b c : E) : a + b + c = a + (b + c) := by
  rcases cases' a with rfl | ⟨x, hx, rfl⟩
  · simp [add_if]
  · rcases cases' b with rfl | ⟨y, hy, rfl⟩
    · simp [add_if, add_fi]
    · rcases cases' c with rfl | ⟨z, hz, rfl⟩
      · simp [add_fi]
      · rw [add_ff, add_ff, add_ff, add_ff, fin_inj, Rat.add_assoc]
theorem assoc_mul (a b c : E) : a * b * c = a * (b * c) := by
  by_cases ha : a = 0
  · rw [ha, mul_zf, mul_zf, mul_zf]
  · by_cases hb : b = 0
    · rw [hb, mul_zf, mul_fz, mul_zf]
    · by_cases hc : c = 0
      · rw [hc, mul_fz, mul_fz, mul_fz]
      · rcases cases' a with rfl | ⟨x, hx, rfl⟩
        · rw [mul_inf hb, mul_inf hc, mul_inf (mul_ne hb hc)]
        · rcases cases' b with rfl | ⟨y, hy, rfl⟩
          · rw [inf_mul ha, mul_inf hc, inf_mul ha]
          · rcases cases' c with rfl | ⟨z, hz, rfl⟩
            · rw [inf_mul hb, inf_mul ha, inf_mul (mul_ne ha hb)]
            · rw [mul_ff, mul_ff, mul_ff, mul_ff, fin_inj, Rat.mul_assoc]
theorem distrib (a b c : E) : a * (b + c) = a * b + a * c := by
  by_cases ha : a = 0
  · rw [ha, mul_zf, mul_zf, mul_zf, zero_add']
  · by_cases hb : b = 0
    · rw [hb, mul_fz, zero_add', zero_add']
    · by_cases hc : c = 0
      · rw [hc, mul_fz, comm_add, zero_add', comm_add, zero_add']
      · have hbc : b + c ≠ 0 := fun e => hb (add_eq0.mp e).1
        rcases cases' a with rfl | ⟨x, hx, rfl⟩
        · rw [mul_inf hbc, mul_inf hb, mul_inf hc, add_if]
        · rcases cases' b with rfl | ⟨y, hy, rfl⟩
          · rw [add_if, inf_mul ha, add_if]
          · rcases cases' c with rfl | ⟨z, hz, rfl⟩
            · rw [add_fi, inf_mul ha, add_fi]
            · rw [add_ff, mul_ff, mul_ff, mul_ff, add_ff, fin_inj, Rat.mul_add]
theorem one_mul' (a : E) : 1 * a = a := by
  rcases cases' a with rfl | ⟨x, hx, rfl⟩
  · exact inf_mul one_ne
  · rw [one_def, mul_ff, fin_inj, Rat.one_mul]
instance : Lean.Grind.CommSemiring E where
  add_zero a := by rw [comm_add]; exact zero_add' a
  add_comm := comm_add
  add_assoc := assoc_add
  mul_assoc := assoc_mul
  mul_one a := by rw [comm_mul]; exact one_mul' a
  left_distrib := distrib
  zero_mul a := mul_zf
  mul_zero a := mul_fz
  one_mul := one_mul'
  right_distrib a b c := by rw [comm_mul, distrib, comm_mul c a, comm_mul c b]
  pow_zero a := rfl
  pow_succ a n := rfl
  ofNat_succ n := by
    show fin ((n + 1 : Nat) : Rat) (nat_nn _) = fin (n : Rat) (nat_nn _) + fin ((1 : Nat) : Rat) (nat_nn _)
    rw [add_ff, fin_inj]
    simp
  mul_comm := comm_mul
/-- 1 + c + c c + .. -/
def star (a : E) : E := ⟨orounds a.v, fun q e => by
  obtain ⟨v, nn⟩ := a
  cases v with
  | none => cases e
  | some x =>
    simp only [orounds] at e
    split at e
    · cases e
    · rename_i h
      have e2 : 1 / (1 - x) = q := Option.some.inj e
      have h2 : 0 < 1 - x := by grind
      rw [← e2, Rat.div_def, Rat.one_mul]
      exact Rat.le_of_lt (Rat.inv_pos.mpr h2)⟩
theorem star_inf : star inf = inf := ext' rfl
theorem star_big {x : Rat} {hx : 0 ≤ x} (h : 1 ≤ x) : star (fin x hx) = inf := ext' (by
  show orounds (some x) = none
  simp only [orounds]
  rw [if_pos h])
theorem star_fin {x : Rat} {hx : 0 ≤ x} (h : x < 1) : ∃ h2, star (fin x hx) = fin (1 / (1 - x)) h2 := by
  have h1 : ¬ 1 ≤ x := by grind
  have h2 : 0 < 1 - x := by grind
  refine ⟨by rw [Rat.div_def, Rat.one_mul]; exact Rat.le_of_lt (Rat.inv_pos.mpr h2), ext' ?_⟩
  show orounds (some x) = some _
  simp only [orounds]
  rw [if_neg h1]
theorem star_eq (a : E) : star a = 1 + a * star a := by
  rcases cases' a with rfl | ⟨x, hx, rfl⟩
  · rw [star_inf, mul_inf inf_ne0, add_fi]
  · by_cases h : 1 ≤ x
    · rw [star_big h, inf_mul, add_fi]
      intro e
      have := fin_zero.mp e
      rw [this] at h
      revert h
      decide
    · have h1 : x < 1 := by grind
      obtain ⟨h2, e⟩ := star_fin (hx := hx) h1
      have h3 : 1 - x ≠ 0 := by grind
      rw [e, mul_ff, one_def, add_ff, fin_inj]
      grind
theorem star_ne (a : E) : star a ≠ 0 := by
  rw [star_eq]
  intro e
  exact one_ne (add_eq0.mp e).1
theorem star_infI {a : E} (h : star a = inf) : a = inf ∨ ∃ x hx, a = fin x hx ∧ 1 ≤ x := by
  rcases cases' a with rfl | ⟨x, hx, rfl⟩
  · exact .inl rfl
  · refine .inr ⟨x, hx, rfl, ?_⟩
    by_cases h1 : 1 ≤ x
    · exact h1
    · obtain ⟨h2, e⟩ := star_fin (hx := hx) (show x < 1 by grind)
      rw [e] at h
      exact absurd h.symm inf_ne
end E
/-! ### sums -/
def es (f : Nat → E) : Nat → E
  | 0 => 0
  | k + 1 => es f k + f k
theorem es_congr {f g : Nat → E} : ∀ {n : Nat}, (∀ k, k < n → f k = g k) → es f n = es g n
  | 0, _ => rfl
  | n + 1, h => by
    show es f n + f n = es g n + g n
    rw [es_congr fun k hk => h k (by omega), h n (by omega)]
theorem es_add (f g : Nat → E) : ∀ n, es (fun k => f k + g k) n = es f n + es g n
  | 0 => (E.zero_add' 0).symm
  | n + 1 => by
    show es _ n + (f n + g n) = (es f n + f n) + (es g n + g n)
    rw [es_add f g n]
    grind
theorem es_mulr (f : Nat → E) (c : E) : ∀ n, es (fun k => f k * c) n = es f n * c
  | 0 => E.mul_zf.symm
  | n + 1 => by
    show es _ n + f n * c = (es f n + f n) * c
    rw [es_mulr f c n]
    grind
theorem es_mull (f : Nat → E) (c : E) : ∀ n, es (fun k => c * f k) n = c * es f n
  | 0 => E.mul_fz.symm
  | n + 1 => by
    show es _ n + c * f n = c * (es f n + f n)
    rw [es_mull f c n]
    grind
theorem es_inf {f : Nat → E} : ∀ {n : Nat}, es f n = E.inf ↔ ∃ k, k < n ∧ f k = E.inf
  | 0 => ⟨fun e => absurd e.symm E.inf_ne0, fun ⟨k, h, _⟩ => absurd h (Nat.not_lt_zero k)⟩
  | n + 1 => by
    show es f n + f n = E.inf ↔ _
    rw [E.add_eqI, es_inf]
    constructor
    · rintro (⟨k, h, e⟩ | e)
      · exact ⟨k, by omega, e⟩
      · exact ⟨n, by omega, e⟩
    · rintro ⟨k, h, e⟩
      by_cases hk : k = n
      · subst hk; exact .inr e
      · exact .inl ⟨k, by omega, e⟩
/-! ### the elimination -/
def fstep (W : Nat → Nat → E) (m : Nat) : Nat → Nat → E := fun i j => W i j + W i m * (E.star (W m m) * W m j)
def fiter (A : Nat → Nat → E) : Nat → Nat → Nat → E
  | 0 => A
  | m + 1 => fstep (fiter A m) m
theorem fstep_row {W : Nat → Nat → E} {m j : Nat} : fstep W m m j = E.star (W m m) * W m j := by
  show W m j + W m m * (E.star (W m m) * W m j) = _
  have h := E.star_eq (W m m)
  generalize E.star (W m m) = s at h
  generalize W m m = c at h
  conv => rhs; rw [h]
  grind
theorem fstep_col {W : Nat → Nat → E} {m i : Nat} : fstep W m i m = W i m * E.star (W m m) := by
  show W i m + W i m * (E.star (W m m) * W m m) = _
  have h := E.star_eq (W m m)
  generalize E.star (W m m) = s at h
  generalize W m m = c at h
  conv => rhs; rw [h]
  grind
/-- S is A and A times S -/
theorem fiter_left (A : Nat → Nat → E) : ∀ (m i j : Nat), fiter A m i j = A i j + es (fun k => A i k * fiter A m k j) m
  | 0, i, j => by
    show A i j = A i j + 0
    grind
  | m + 1, i, j => by
    have ih := fiter_left A m
    have e1 : es (fun k => A i k * fiter A (m + 1) k j) (m + 1) = es (fun k => A i k * fiter A m k j + A i k * fiter A m k m * (E.star (fiter A m m m) * fiter A m m j)) m + A i m * (E.star (fiter A m m m) * fiter A m m j) := by
      show es (fun k => A i k * fstep (fiter A m) m k j) m + A i m * fstep (fiter A m) m m j = _
      rw [fstep_row]
      congr 1
      apply es_congr
      intro k _
      show A i k * (_ + _ * _) = _
      grind
    rw [e1, es_add, es_mulr]
    show fiter A m i j + fiter A m i m * (E.star (fiter A m m m) * fiter A m m j) = _
    generalize E.star (fiter A m m m) * fiter A m m j = t
    conv => lhs; rw [ih i j, ih i m]
    grind
/-- .. and A and S times A -/
theorem fiter_right (A : Nat → Nat → E) : ∀ (m i j : Nat), fiter A m i j = A i j + es (fun k => fiter A m i k * A k j) m
  | 0, i, j => by
    show A i j = A i j + 0
    grind
  | m + 1, i, j => by
    have ih := fiter_right A m
    have e1 : es (fun k => fiter A (m + 1) i k * A k j) (m + 1) = es (fun k => fiter A m i k * A k j + (fiter A m i m * E.star (fiter A m m m)) * (fiter A m m k * A k j)) m + fiter A m i m * E.star (fiter A m m m) * A m j := by
      show es (fun k => fstep (fiter A m) m i k * A k j) m + fstep (fiter A m) m i m * A m j = _
      rw [fstep_col]
      congr 1
      apply es_congr
      intro k _
      show (_ + _ * (_ * _)) * _ = _
      grind
    rw [e1, es_add, es_mull]
    show fiter A m i j + fiter A m i m * (E.star (fiter A m m m) * fiter A m m j) = _
    rw [← E.assoc_mul]
    generalize fiter A m i m * E.star (fiter A m m m) = t
    conv => lhs; rw [ih i j, ih m j]
    grind
/-! ### the program's matrices as such -/
def Nn (W : Mat) : Prop := ∀ i j q, at2 W i j = some q → 0 ≤ q
def eM (W : Mat) (h : Nn W) : Nat → Nat → E := fun i j => ⟨at2 W i j, h i j⟩
theorem getD_zipWith {α β γ : Type} {f : α → β → γ} {xs : List α} {ys : List β} {i : Nat} {a : α} {b : β} {c : γ} (h1 : i < xs.length) (h2 : i < ys.length) : (List.zipWith f xs ys).getD i c = f (xs.getD i a) (ys.getD i b) := by
  simp [List.getD, List.getElem?_zipWith, h1, h2]
theorem sq_len {n i : Nat} {W : Mat} (h : Sq n W) (hi : i < n) : (W.getD i []).length = n := by
  have hl : i < W.length := by rw [h.1]; exact hi
  rw [show W.getD i [] = W[i] by simp [List.getD, hl]]
  exact h.2 _ (List.getElem_mem _)
theorem at2_kstep {n m i j : Nat} {W : Mat} (h : Sq n W) (hm : m < n) (hi : i < n) (hj : j < n) : at2 (kstep W m) i j = oadd (at2 W i j) (omul (at2 W i m) (omul (orounds (at2 W m m)) (at2 W m j))) := by
  have hl := h.1
  have h1 := sq_len h hi
  have h2 := sq_len h hm
  have e1 : (kstep W m).getD i [] = krow ((kfirst W m).getD i (some 0)) (W.getD i []) (ksecond W m) := by
    unfold kstep
    exact getD_zipWith (by simp [kfirst, hl, hi]) (by rw [hl]; exact hi)
  have e2 : (kfirst W m).getD i (some 0) = at2 W i m := by
    simp [kfirst, at2, List.getD, hl, hi]
  have e3 : (krow (at2 W i m) (W.getD i []) (ksecond W m)).getD j (some 0) = oadd ((W.getD i []).getD j (some 0)) (omul (at2 W i m) ((ksecond W m).getD j (some 0))) := by
    unfold krow
    exact getD_zipWith (by rw [h1]; exact hj) (by rw [ksecond, List.length_map, h2]; exact hj)
  have e4 : (ksecond W m).getD j (some 0) = omul (kround W m) (at2 W m j) := by
    unfold ksecond at2
    generalize W.getD m [] = r at h2
    simp [List.getD, h2, hj]
  show ((kstep W m).getD i []).getD j (some 0) = _
  rw [e1, e2, e3, e4]
  rfl
theorem sq_step {n m : Nat} {W : Mat} (h : Sq n W) (hm : m < n) : Sq n (kstep W m) := by
  have h2 := sq_len h hm
  refine ⟨by simp [kstep, kfirst, h.1], fun r hr => ?_⟩
  unfold kstep at hr
  obtain ⟨i, hi, e⟩ := List.mem_iff_getElem.mp hr
  rw [List.getElem_zipWith] at e
  rw [← e]
  unfold krow
  rw [List.length_zipWith]
  have h3 : (W[i]'(by simp at hi; omega)).length = n := h.2 _ (List.getElem_mem _)
  have h4 : (ksecond W m).length = n := by rw [ksecond, List.length_map, h2]
  omega
theorem sq_iter {n : Nat} {W : Mat} (h : Sq n W) : ∀ m, m ≤ n → Sq n (kiter W m)
  | 0, _ => h
  | m + 1, hm => sq_step (sq_iter h m (by omega)) (by omega)
theorem kiter_fiter {n : Nat} {W : Mat} (h : Sq n W) (hn : Nn W) : ∀ m, m ≤ n → ∀ i j, i < n → j < n → at2 (kiter W m) i j = (fiter (eM W hn) m i j).v
  | 0, _, i, j, _, _ => rfl
  | m + 1, hm, i, j, hi, hj => by
    have ih := kiter_fiter h hn m (by omega)
    show at2 (kstep (kiter W m) m) i j = _
    rw [at2_kstep (sq_iter h m (by omega)) (by omega) hi hj, ih i j hi hj, ih i m hi (by omega), ih m m (by omega) (by omega), ih m j (by omega) hj]
    rfl
theorem at2_out {W : Mat} {n i j : Nat} (h : Sq n W) (hij : ¬ (i < n ∧ j < n)) : at2 W i j = some 0 := by
  unfold at2
  by_cases hi : i < n
  · have hl := sq_len h hi
    have hj : n ≤ j := by omega
    generalize W.getD i [] = r at hl
    simp [List.getD, List.getElem?_eq_none (show r.length ≤ j by omega)]
  · have : W.getD i [] = [] := by simp [List.getD, List.getElem?_eq_none (show W.length ≤ i by have := h.1; omega)]
    rw [this]
    rfl
theorem nn_iter {n : Nat} {W : Mat} (h : Sq n W) (hn : Nn W) {m : Nat} (hm : m ≤ n) : Nn (kiter W m) := fun i j q e => by
  by_cases hij : i < n ∧ j < n
  · rw [kiter_fiter h hn m hm i j hij.1 hij.2] at e
    exact (fiter (eM W hn) m i j).nn q e
  · rw [at2_out (sq_iter h m hm) hij] at e
    cases e
    exact Rat.le_refl
/-! ### where no walk leads -/
inductive Wk (A : Nat → Nat → E) (n : Nat) : Nat → Nat → Prop
  | one {i j : Nat} : i < n → j < n → A i j ≠ 0 → Wk A n i j
  | cons {i k j : Nat} : i < n → A i k ≠ 0 → Wk A n k j → Wk A n i j
theorem Wk.lt1 {A : Nat → Nat → E} {n i j : Nat} : Wk A n i j → i < n
  | .one h _ _ => h
  | .cons h _ _ => h
theorem Wk.trans {A : Nat → Nat → E} {n i k j : Nat} (h : Wk A n i k) (h2 : Wk A n k j) : Wk A n i j := by
  induction h with
  | one a b c => exact .cons a c h2
  | cons a c _ ih => exact .cons a c (ih h2)
theorem Wk.snoc {A : Nat → Nat → E} {n i k j : Nat} (h : Wk A n i k) (hk : k < n) (hj : j < n) (h2 : A k j ≠ 0) : Wk A n i j := h.trans (.one hk hj h2)
/-- a walk of one edge or more, or of none -/
theorem nz_step {W : Nat → Nat → E} {m i j : Nat} : fstep W m i j ≠ 0 ↔ W i j ≠ 0 ∨ (W i m ≠ 0 ∧ W m j ≠ 0) := by
  have h : fstep W m i j = W i j + W i m * (E.star (W m m) * W m j) := rfl
  rw [h, ne_eq, E.add_eq0, E.mul_eq0, E.mul_eq0]
  have := E.star_ne (W m m)
  simp only [this, false_or]
  by_cases h1 : W i j = 0 <;> by_cases h2 : W i m = 0 <;> by_cases h3 : W m j = 0 <;> simp [h1, h2, h3]
theorem nz_wk {A : Nat → Nat → E} {n : Nat} : ∀ m, m ≤ n → ∀ i j, i < n → j < n → fiter A m i j ≠ 0 → Wk A n i j
  | 0, _, i, j, hi, hj, h => .one hi hj h
  | m + 1, hm, i, j, hi, hj, h => by
    rcases nz_step.mp h with h | ⟨h1, h2⟩
    · exact nz_wk m (by omega) i j hi hj h
    · exact (nz_wk m (by omega) i m hi (by omega) h1).trans (nz_wk m (by omega) m j (by omega) hj h2)
theorem es_eq0 {f : Nat → E} : ∀ {n : Nat}, es f n = 0 ↔ ∀ k, k < n → f k = 0
  | 0 => ⟨fun _ k h => absurd h (Nat.not_lt_zero k), fun _ => rfl⟩
  | n + 1 => by
    show es f n + f n = 0 ↔ _
    rw [E.add_eq0, es_eq0]
    constructor
    · rintro ⟨h, e⟩ k hk
      by_cases q : k = n
      · subst q; exact e
      · exact h k (by omega)
    · intro h
      exact ⟨fun k hk => h k (by omega), h n (by omega)⟩
/-- the star's closure: from A and A S -/
theorem st_left {A : Nat → Nat → E} {n i k j : Nat} (hk : k < n) (h : A i k ≠ 0) : (fiter A n k j ≠ 0 → fiter A n i j ≠ 0) ∧ (fiter A n k j = E.inf → fiter A n i j = E.inf) := by
  have e := fiter_left A n i j
  constructor
  · intro h2 h3
    rw [h3] at e
    exact E.mul_ne h h2 (es_eq0.mp (E.add_eq0.mp e.symm).2 k hk)
  · intro h2
    rw [e, E.add_eqI]
    refine .inr (es_inf.mpr ⟨k, hk, ?_⟩)
    rw [h2, E.inf_mul h]
theorem st_right {A : Nat → Nat → E} {n i k j : Nat} (hk : k < n) (h : A k j ≠ 0) : fiter A n i k = E.inf → fiter A n i j = E.inf := by
  have e := fiter_right A n i j
  intro h2
  rw [e, E.add_eqI]
  refine .inr (es_inf.mpr ⟨k, hk, ?_⟩)
  rw [h2, E.mul_inf h]
theorem st_one {A : Nat → Nat → E} {n i j : Nat} : (A i j ≠ 0 → fiter A n i j ≠ 0) ∧ (A i j = E.inf → fiter A n i j = E.inf) := by
  have e := fiter_left A n i j
  constructor
  · intro h h2
    rw [h2] at e
    exact h (E.add_eq0.mp e.symm).1
  · intro h
    rw [e, h, E.add_if]
theorem wk_nz {A : Nat → Nat → E} {n i j : Nat} (h : Wk A n i j) : fiter A n i j ≠ 0 := by
  induction h with
  | one _ _ c => exact st_one.1 c
  | cons a c w ih => exact (st_left w.lt1 c).1 ih
theorem star_nz {A : Nat → Nat → E} {n i j : Nat} (hi : i < n) (hj : j < n) : fiter A n i j ≠ 0 ↔ Wk A n i j := ⟨nz_wk n (Nat.le_refl _) i j hi hj, wk_nz⟩
theorem wk_infl {A : Nat → Nat → E} {n i k j : Nat} (h : Wk A n i k) (h2 : fiter A n k j = E.inf) : fiter A n i j = E.inf := by
  induction h with
  | one a b c => exact (st_left b c).2 h2
  | cons a c w ih => exact (st_left w.lt1 c).2 (ih h2)
theorem wk_infr {A : Nat → Nat → E} {n k j : Nat} (h : Wk A n k j) : ∀ {i : Nat}, fiter A n i k = E.inf → fiter A n i j = E.inf := by
  induction h with
  | one a b c => exact fun h2 => st_right a c h2
  | cons a c w ih => exact fun h2 => ih (st_right a c h2)
/-! ### the flags of the law (Warshall in place) -/
theorem bat_bset {n i j a b : Nat} {M : BM} {x : Bool} (h : SqB n M) (hi : i < n) (hj : j < n) (ha : a < n) (hb : b < n) : bat (bset M i j x) a b = if a = i ∧ b = j then x else bat M a b := by
  have hl := h.1
  have hr := h.row hi
  unfold bat bset
  by_cases e : a = i
  · subst e
    have e1 : (M.set a ((M.getD a []).set j x)).getD a [] = (M.getD a []).set j x := by
      simp [List.getD, hl, ha]
    rw [e1]
    generalize M.getD a [] = r at hr
    by_cases e2 : b = j
    · subst e2
      simp [List.getD, hr, hb]
    · rw [if_neg (fun z => e2 z.2)]
      simp [List.getD, List.getElem?_set_ne (show j ≠ b from fun z => e2 z.symm)]
  · rw [if_neg (fun z => e z.1)]
    have e1 : (M.set i ((M.getD i []).set j x)).getD a [] = M.getD a [] := by
      simp [List.getD, List.getElem?_set_ne (show i ≠ a from fun z => e z.symm)]
    rw [e1]
/-- what one middle place adds -/
def viaB (M : BM) (k a b : Nat) : Bool := bat M a b || (bat M a k && bat M k b)
theorem via_k1 (M : BM) (k a : Nat) : viaB M k a k = bat M a k := by
  unfold viaB
  cases bat M a k <;> cases bat M k k <;> rfl
theorem via_k2 (M : BM) (k b : Nat) : viaB M k k b = bat M k b := by
  unfold viaB
  cases bat M k b <;> cases bat M k k <;> rfl
def StageB (n k : Nat) (M M' : BM) (p : Nat → Nat → Prop) : Prop := SqB n M' ∧ ∀ a b, a < n → b < n → (p a b → bat M' a b = viaB M k a b) ∧ (¬ p a b → bat M' a b = bat M a b)
theorem StageB.congr {n k : Nat} {M M' : BM} {p p' : Nat → Nat → Prop} (h : StageB n k M M' p) (e : ∀ a b, a < n → b < n → (p' a b ↔ p a b)) : StageB n k M M' p' := ⟨h.1, fun a b ha hb => ⟨fun z => (h.2 a b ha hb).1 ((e a b ha hb).mp z), fun z => (h.2 a b ha hb).2 fun y => z ((e a b ha hb).mpr y)⟩⟩
theorem StageB.col {n k : Nat} {M M' : BM} {p : Nat → Nat → Prop} (h : StageB n k M M' p) {a : Nat} (ha : a < n) (hk : k < n) : bat M' a k = bat M a k := by
  by_cases q : p a k
  · rw [(h.2 a k ha hk).1 q, via_k1]
  · exact (h.2 a k ha hk).2 q
theorem StageB.row {n k : Nat} {M M' : BM} {p : Nat → Nat → Prop} (h : StageB n k M M' p) {b : Nat} (hb : b < n) (hk : k < n) : bat M' k b = bat M k b := by
  by_cases q : p k b
  · rw [(h.2 k b hk hb).1 q, via_k2]
  · exact (h.2 k b hk hb).2 q
theorem StageB.cell {n k i j : Nat} {M M' : BM} {p p' : Nat → Nat → Prop} (h : StageB n k M M' p) (hk : k < n) (hi : i < n) (hj : j < n) (hp : ¬ p i j) (hp' : ∀ a b, p' a b ↔ p a b ∨ (a = i ∧ b = j)) : StageB n k M (wcell k i M' j) p' := by
  refine ⟨h.1.wcell hi, fun a b ha hb => ?_⟩
  have e : bat (wcell k i M' j) a b = if a = i ∧ b = j then (bat M' i j || (bat M' i k && bat M' k j)) else bat M' a b := bat_bset h.1 hi hj ha hb
  rw [e, hp']
  by_cases q : a = i ∧ b = j
  · obtain ⟨q1, q2⟩ := q
    subst q1 q2
    refine ⟨fun _ => ?_, fun z => absurd (.inr ⟨rfl, rfl⟩) z⟩
    rw [if_pos ⟨rfl, rfl⟩, (h.2 a b ha hb).2 hp, h.col ha hk, h.row hb hk]
    rfl
  · rw [if_neg q]
    exact ⟨fun z => (h.2 a b ha hb).1 (z.resolve_right q), fun z => (h.2 a b ha hb).2 fun y => z (.inl y)⟩
theorem stage_row {n k i : Nat} {M M' : BM} (hk : k < n) (hi : i < n) (h : StageB n k M M' fun a _ => a < i) : ∀ m, m ≤ n → StageB n k M ((List.range m).foldl (wcell k i) M') fun a b => a < i ∨ (a = i ∧ b < m)
  | 0, _ => h.congr fun a b _ _ => by omega
  | m + 1, hm => by
    rw [foldl_range]
    exact (stage_row hk hi h m (by omega)).cell hk hi (by omega) (by omega) fun a b => by omega
theorem stage_mid {n k : Nat} {M : BM} (hk : k < n) (h : SqB n M) : ∀ m, m ≤ n → StageB n k M ((List.range m).foldl (wrow n k) M) fun a _ => a < m
  | 0, _ => ⟨h, fun a b ha hb => ⟨fun z => by omega, fun _ => rfl⟩⟩
  | m + 1, hm => by
    rw [foldl_range]
    have q := stage_row hk (by omega) (stage_mid hk h m (by omega)) n (Nat.le_refl _)
    exact q.congr fun a b _ _ => by omega
theorem bat_mid {n k a b : Nat} {M : BM} (h : SqB n M) (hk : k < n) (ha : a < n) (hb : b < n) : bat (wmid n M k) a b = viaB M k a b := ((stage_mid hk h n (Nat.le_refl _)).2 a b ha hb).1 ha
theorem bat_nz {n a b : Nat} {A : Mat} (h : Sq n A) (ha : a < n) (hb : b < n) : bat (nzM A) a b = decide (at2 A a b ≠ some 0) := by
  have hl := h.1
  have hr := sq_len h ha
  unfold bat nzM at2
  have e : (A.map fun r => r.map fun x => decide (x ≠ some 0)).getD a [] = (A.getD a []).map fun x => decide (x ≠ some 0) := by
    simp [List.getD, hl, ha]
  rw [e]
  generalize A.getD a [] = r at hr
  simp [List.getD, hr, hb]
theorem v_zero {x : E} : x.v ≠ some 0 ↔ x ≠ 0 := ⟨fun h e => h (by rw [e]; rfl), fun h e => h (E.ext' e)⟩
theorem bat_reach {n : Nat} {A : Mat} (h : Sq n A) (hn : Nn A) : ∀ m, m ≤ n → ∀ a b, a < n → b < n → bat ((List.range m).foldl (wmid n) (nzM A)) a b = decide (fiter (eM A hn) m a b ≠ 0)
  | 0, _, a, b, ha, hb => by
    show bat (nzM A) a b = _
    rw [bat_nz h ha hb]
    have := v_zero (x := eM A hn a b)
    exact decide_eq_decide.mpr this
  | m + 1, hm, a, b, ha, hb => by
    have ih := bat_reach h hn m (by omega)
    rw [foldl_range, bat_mid (h.nz.wall m (by omega)) (by omega) ha hb]
    unfold viaB
    rw [ih a b ha hb, ih a m ha (by omega), ih m b (by omega) hb]
    have := nz_step (W := fiter (eM A hn) m) (m := m) (i := a) (j := b)
    show _ = decide (fstep (fiter (eM A hn) m) m a b ≠ 0)
    rw [Bool.eq_iff_iff]
    simp only [Bool.or_eq_true, Bool.and_eq_true, decide_eq_true_iff]
    exact this.symm
theorem reach_star {n a b : Nat} {A : Mat} (h : Sq n A) (hn : Nn A) (ha : a < n) (hb : b < n) : bat (reachB A) a b = decide (fiter (eM A hn) n a b ≠ 0) := by
  unfold reachB
  rw [h.1]
  exact bat_reach h hn n (Nat.le_refl _) a b ha hb
theorem reach_wk {n a b : Nat} {A : Mat} (h : Sq n A) (hn : Nn A) (ha : a < n) (hb : b < n) : bat (reachB A) a b = true ↔ Wk (eM A hn) n a b := by
  rw [reach_star h hn ha hb, decide_eq_true_iff]
  exact star_nz ha hb
/-! ### sums of numbers -/
def rs (f : Nat → Rat) : Nat → Rat
  | 0 => 0
  | k + 1 => rs f k + f k
theorem rs_succ (f : Nat → Rat) (n : Nat) : rs f (n + 1) = rs f n + f n := rfl
theorem rs_congr {f g : Nat → Rat} : ∀ {n : Nat}, (∀ k, k < n → f k = g k) → rs f n = rs g n
  | 0, _ => rfl
  | n + 1, h => by rw [rs_succ, rs_succ, rs_congr fun k hk => h k (by omega), h n (by omega)]
theorem rs_add (f g : Nat → Rat) : ∀ n, rs (fun k => f k + g k) n = rs f n + rs g n
  | 0 => by show (0 : Rat) = 0 + 0; grind
  | n + 1 => by rw [rs_succ, rs_succ, rs_succ, rs_add f g n]; grind
theorem rs_sub (f g : Nat → Rat) : ∀ n, rs (fun k => f k - g k) n = rs f n - rs g n
  | 0 => by show (0 : Rat) = 0 - 0; grind
  | n + 1 => by rw [rs_succ, rs_succ, rs_succ, rs_sub f g n]; grind
theorem rs_mul (c : Rat) (f : Nat → Rat) : ∀ n, rs (fun k => c * f k) n = c * rs f n
  | 0 => by show (0 : Rat) = c * 0; grind
  | n + 1 => by rw [rs_succ, rs_succ, rs_mul c f n]; grind
theorem rs_le {f g : Nat → Rat} : ∀ {n : Nat}, (∀ k, k < n → f k ≤ g k) → rs f n ≤ rs g n
  | 0, _ => Rat.le_refl
  | n + 1, h => by
    have h1 := rs_le (n := n) fun k hk => h k (by omega)
    have h2 := h n (by omega)
    rw [rs_succ, rs_succ]
    grind
theorem rs_zero : ∀ n, rs (fun _ => 0) n = 0
  | 0 => rfl
  | n + 1 => by rw [rs_succ, rs_zero n]; grind
theorem rs_nn {f : Nat → Rat} {n : Nat} (h : ∀ k, k < n → 0 ≤ f k) : 0 ≤ rs f n := by
  have := rs_le (f := fun _ => 0) (g := f) h
  rwa [rs_zero] at this
theorem rs_single (f : Nat → Rat) (i : Nat) : ∀ n, rs (fun k => if k = i then f k else 0) n = if i < n then f i else 0
  | 0 => rfl
  | n + 1 => by
    rw [rs_succ, rs_single f i n]
    by_cases h : n = i
    · subst h
      rw [if_neg (Nat.lt_irrefl _), if_pos rfl, if_pos (Nat.lt_succ_self _)]
      grind
    · rw [if_neg h]
      by_cases h2 : i < n
      · rw [if_pos h2, if_pos (by omega)]; grind
      · rw [if_neg h2, if_neg (by omega)]; grind
theorem rs_le_one {f : Nat → Rat} {n i : Nat} (hi : i < n) (h : ∀ k, k < n → k ≠ i → f k ≤ 0) : rs f n ≤ f i := by
  have h1 := rs_le (f := f) (g := fun k => if k = i then f k else 0) (n := n) fun k hk => by
    by_cases e : k = i
    · rw [if_pos e]; exact Rat.le_refl
    · rw [if_neg e]; exact h k hk e
  rw [rs_single, if_pos hi] at h1
  exact h1
theorem rs_eq_one {f : Nat → Rat} {n i : Nat} (hi : i < n) (h : ∀ k, k < n → k ≠ i → f k = 0) : rs f n = f i := by
  rw [rs_congr (g := fun k => if k = i then f k else 0) fun k hk => by
    by_cases e : k = i
    · rw [if_pos e]
    · rw [if_neg e]; exact h k hk e, rs_single, if_pos hi]
theorem rs_ge {f : Nat → Rat} {n i : Nat} (hi : i < n) (h : ∀ k, k < n → 0 ≤ f k) : f i ≤ rs f n := by
  have h1 := rs_le (f := fun k => if k = i then f k else 0) (g := f) (n := n) fun k hk => by
    by_cases e : k = i
    · rw [if_pos e]; exact Rat.le_refl
    · rw [if_neg e]; exact h k hk
  rw [rs_single, if_pos hi] at h1
  exact h1
/-! ### the law's elimination by places -/
theorem lat_initL {n i j : Nat} {A : LM} (hi : i < n) (hj : j < n) : lat (eInit n A) i j = (if i = j then 1 else 0) - lat A i j := by
  have e : (eInit n A).getD i [] = (List.range n).map (fun j => (if i = j then 1 else 0) - lat A i j) ++ [1] := by
    simp [eInit, List.getD, hi]
  show ((eInit n A).getD i []).getD j 0 = _
  rw [e]
  simp [List.getD, List.getElem?_append_left, hj]
theorem lat_initR {n i : Nat} {A : LM} (hi : i < n) : lat (eInit n A) i n = 1 := by
  have e : (eInit n A).getD i [] = (List.range n).map (fun j => (if i = j then 1 else 0) - lat A i j) ++ [1] := by
    simp [eInit, List.getD, hi]
  show ((eInit n A).getD i []).getD n 0 = _
  rw [e]
  simp [List.getD]
theorem lat_swap {n k g i j : Nat} {L : LM} (h : ShL n L) (hk : k < n) (hg : g < n) (hi : i < n) : lat (eSwap L k g) i j = if i = g then lat L k j else if i = k then lat L g j else lat L i j := by
  have hl := h.1
  unfold lat eSwap
  by_cases e : i = g
  · subst e
    rw [if_pos rfl]
    congr 1
    simp [List.getD, hl, hi]
  · rw [if_neg e]
    by_cases e2 : i = k
    · subst e2
      rw [if_pos rfl]
      congr 1
      simp only [List.getD, List.getElem?_set_ne (show g ≠ i from fun z => e z.symm)]
      rw [List.getElem?_set_self (by rw [hl]; exact hi)]
      rfl
    · rw [if_neg e2]
      congr 1
      simp [List.getD, List.getElem?_set_ne (show g ≠ i from fun z => e z.symm), List.getElem?_set_ne (show k ≠ i from fun z => e2 z.symm)]
theorem lat_norm {n k i j : Nat} {L : LM} (h : ShL n L) (hk : k < n) (hj : j < n + 1) : lat (eNorm L k) i j = if i = k then lat L k j / lat L k k else lat L i j := by
  have hl := h.1
  have hr := h.row hk
  unfold eNorm
  generalize hp : lat L k k = p
  unfold lat
  by_cases e : i = k
  · subst e
    rw [if_pos rfl]
    have e1 : (L.set i ((L.getD i []).map fun x => x / p)).getD i [] = (L.getD i []).map fun x => x / p := by
      simp [List.getD, hl, hk]
    rw [e1]
    generalize L.getD i [] = r at hr
    simp [List.getD, hr, hj]
  · rw [if_neg e]
    congr 1
    simp [List.getD, List.getElem?_set_ne (show k ≠ i from fun z => e z.symm)]
theorem lat_row {n k i a j : Nat} {L : LM} (h : ShL n L) (hi : i < n) (hik : i ≠ k) (hj : j < n + 1) : lat (eRow n k L i) a j = if a = i then lat L i j - lat L i k * lat L k j else lat L a j := by
  have hl := h.1
  unfold eRow
  rw [if_neg hik]
  show ((L.set i ((List.range (n + 1)).map fun j => lat L i j - lat L i k * lat L k j)).getD a []).getD j 0 = _
  by_cases e : a = i
  · subst e
    rw [if_pos rfl]
    have e1 : (L.set a ((List.range (n + 1)).map fun j => lat L a j - lat L a k * lat L k j)).getD a [] = (List.range (n + 1)).map fun j => lat L a j - lat L a k * lat L k j := by
      simp [List.getD, hl, hi]
    rw [e1]
    simp [List.getD, hj]
  · rw [if_neg e]
    show _ = (L.getD a []).getD j 0
    congr 1
    simp [List.getD, List.getElem?_set_ne (show i ≠ a from fun z => e z.symm)]
theorem lat_col {n k g : Nat} {L : LM} (h : ShL n L) (hk : k < n) (hg : g < n) : ∀ m, m ≤ n → ∀ a j, a < n → j < n + 1 → lat (eCol n k L g m) a j =
    if a < m ∧ a ≠ k then lat (eNorm (eSwap L k g) k) a j - lat (eNorm (eSwap L k g) k) a k * lat (eNorm (eSwap L k g) k) k j else lat (eNorm (eSwap L k g) k) a j
  | 0, _, a, j, ha, hj => by rw [if_neg (by omega)]; rfl
  | m + 1, hm, a, j, ha, hj => by
    have ih := lat_col h hk hg m (by omega)
    have e : eCol n k L g (m + 1) = eRow n k (eCol n k L g m) m := foldl_range _ _ _
    rw [e]
    by_cases hmk : m = k
    · have e2 : eRow n k (eCol n k L g m) m = eCol n k L g m := by
        unfold eRow
        rw [if_pos hmk]
      rw [e2, ih a j ha hj]
      by_cases q : a < m ∧ a ≠ k
      · rw [if_pos q, if_pos (by omega)]
      · rw [if_neg q, if_neg (by omega)]
    · rw [lat_row (h.col hk hg) (by omega) hmk hj, ih a j ha hj, ih m j (by omega) hj, ih m k (by omega) (by omega), ih k j hk hj]
      rw [if_neg (show ¬ (m < m ∧ m ≠ k) by omega), if_neg (show ¬ (m < m ∧ m ≠ k) by omega), if_neg (show ¬ (k < m ∧ k ≠ k) by omega)]
      by_cases q : a = m
      · subst q
        rw [if_pos rfl, if_pos (by omega)]
      · rw [if_neg q]
        by_cases q2 : a < m ∧ a ≠ k
        · rw [if_pos q2, if_pos (by omega)]
        · rw [if_neg q2, if_neg (by omega)]
/-! ### what solves the lines -/
def Sol (n : Nat) (L : LM) (x : Nat → Rat) : Prop := ∀ i, i < n → rs (fun j => lat L i j * x j) n = lat L i n
/-- the columns done -/
def UC (n k : Nat) (L : LM) : Prop := ∀ i j, i < n → j < k → lat L i j = if i = j then 1 else 0
section
variable {n k g : Nat} {L : LM}
theorem uc_swap (h : ShL n L) (hk : k < n) (hg : g < n) (hkg : k ≤ g) (u : UC n k L) : UC n k (eSwap L k g) := fun i j hi hj => by
  rw [lat_swap h hk hg hi, u k j hk hj, u g j hg hj, u i j hi hj, if_neg (show ¬ k = j by omega), if_neg (show ¬ g = j by omega)]
  by_cases e : i = g
  · rw [if_pos e, if_neg (by omega)]
  · rw [if_neg e]
    by_cases e2 : i = k
    · rw [if_pos e2, if_neg (by omega)]
    · rw [if_neg e2]
theorem uc_norm (h : ShL n L) (hk : k < n) (u : UC n k L) : UC n k (eNorm L k) := fun i j hi hj => by
  rw [lat_norm h hk (by omega), u k j hk hj, u i j hi hj]
  by_cases e : i = k
  · rw [if_pos e, if_neg (show ¬ k = j by omega), if_neg (show ¬ i = j by omega)]
    grind
  · rw [if_neg e]
theorem swap_kk (h : ShL n L) (hk : k < n) (hg : g < n) : lat (eSwap L k g) k k = lat L g k := by
  rw [lat_swap h hk hg hk]
  by_cases e : k = g
  · subst e
    rw [if_pos rfl]
  · rw [if_neg e, if_pos rfl]
theorem norm_kk (h : ShL n L) (hk : k < n) (hp : lat L k k ≠ 0) : lat (eNorm L k) k k = 1 := by
  rw [lat_norm h hk (by omega), if_pos rfl]
  grind
theorem uc_col (h : ShL n L) (hk : k < n) (hg : g < n) (hkg : k ≤ g) (hp : lat L g k ≠ 0) (u : UC n k L) : UC n (k + 1) (eCol n k L g n) := fun i j hi hj => by
  have h1 := h.swap hk hg
  have u2 := uc_norm h1 hk (uc_swap h hk hg hkg u)
  have hkk := norm_kk h1 hk (by rw [swap_kk h hk hg]; exact hp)
  rw [lat_col h hk hg n (Nat.le_refl _) i j hi (by omega)]
  generalize eNorm (eSwap L k g) k = M at u2 hkk
  by_cases e : j = k
  · subst e
    rw [hkk]
    by_cases e2 : i = j
    · subst e2
      rw [if_neg (by omega), if_pos rfl, hkk]
    · rw [if_pos ⟨hi, e2⟩, if_neg e2]
      grind
  · have hj' : j < k := by omega
    rw [u2 i j hi hj', u2 k j hk hj', if_neg (show ¬ k = j by omega)]
    by_cases e2 : i < n ∧ i ≠ k
    · rw [if_pos e2]
      grind
    · rw [if_neg e2]
theorem sol_swap (h : ShL n L) (hk : k < n) (hg : g < n) {x : Nat → Rat} : Sol n (eSwap L k g) x → Sol n L x := fun s i hi => by
  by_cases e : i = k
  · have := s g hg
    simp only [lat_swap h hk hg hg, if_pos] at this
    rw [e]
    exact this
  · by_cases e2 : i = g
    · have := s k hk
      have e3 : ¬ k = g := by omega
      simp only [lat_swap h hk hg hk, if_neg e3, if_pos] at this
      rw [e2]
      exact this
    · have := s i hi
      simp only [lat_swap h hk hg hi, if_neg e2, if_neg e] at this
      exact this
theorem sol_norm (h : ShL n L) (hk : k < n) (hp : lat L k k ≠ 0) {x : Nat → Rat} : Sol n (eNorm L k) x ↔ Sol n L x := by
  constructor
  · intro s i hi
    have := s i hi
    rw [lat_norm h hk (by omega)] at this
    rw [rs_congr (g := fun j => (if i = k then lat L k j / lat L k k else lat L i j) * x j) fun j hj => by rw [lat_norm h hk (by omega)]] at this
    by_cases e : i = k
    · subst e
      simp only [if_pos] at this
      have e2 : rs (fun j => lat L i j * x j) n = lat L i i * rs (fun j => lat L i j / lat L i i * x j) n := by
        rw [← rs_mul]
        exact rs_congr fun j _ => by grind
      rw [e2, this]
      grind
    · simp only [if_neg e] at this
      exact this
  · intro s i hi
    have := s i hi
    rw [lat_norm h hk (by omega)]
    rw [rs_congr (g := fun j => (if i = k then lat L k j / lat L k k else lat L i j) * x j) fun j hj => by rw [lat_norm h hk (by omega)]]
    by_cases e : i = k
    · subst e
      simp only [if_pos]
      have e2 : rs (fun j => lat L i j / lat L i i * x j) n = (1 / lat L i i) * rs (fun j => lat L i j * x j) n := by
        rw [← rs_mul]
        exact rs_congr fun j _ => by grind
      rw [e2, this]
      grind
    · simp only [if_neg e]
      exact this
theorem sol_col (h : ShL n L) (hk : k < n) (hg : g < n) {x : Nat → Rat} : Sol n (eCol n k L g n) x ↔ Sol n (eNorm (eSwap L k g) k) x := by
  have key : ∀ i j, i < n → j < n + 1 → lat (eCol n k L g n) i j = if i = k then lat (eNorm (eSwap L k g) k) i j else lat (eNorm (eSwap L k g) k) i j - lat (eNorm (eSwap L k g) k) i k * lat (eNorm (eSwap L k g) k) k j := fun i j hi hj => by
    rw [lat_col h hk hg n (Nat.le_refl _) i j hi hj]
    by_cases e : i = k
    · rw [if_neg (by omega), if_pos e]
    · rw [if_pos ⟨hi, e⟩, if_neg e]
  generalize eNorm (eSwap L k g) k = M at key
  generalize eCol n k L g n = C at key
  have ek : ∀ j, j < n + 1 → lat C k j = lat M k j := fun j hj => by rw [key k j hk hj, if_pos rfl]
  have er : ∀ i, i < n → i ≠ k → rs (fun j => lat C i j * x j) n = rs (fun j => lat M i j * x j) n - lat M i k * rs (fun j => lat M k j * x j) n := fun i hi e => by
    rw [← rs_mul, ← rs_sub]
    exact rs_congr fun j hj => by
      rw [key i j hi (by omega), if_neg e]
      grind
  constructor
  · intro s
    have sk : rs (fun j => lat M k j * x j) n = lat M k n := by
      have := s k hk
      rw [ek n (by omega)] at this
      rw [← this]
      exact rs_congr fun j hj => by rw [ek j (by omega)]
    intro i hi
    by_cases e : i = k
    · subst e; exact sk
    · have := s i hi
      rw [er i hi e, key i n hi (by omega), if_neg e, sk] at this
      grind
  · intro s i hi
    by_cases e : i = k
    · subst e
      rw [ek n (by omega), ← s i hi]
      exact rs_congr fun j hj => by rw [ek j (by omega)]
    · rw [er i hi e, key i n hi (by omega), if_neg e, s i hi, s k hk]
end
/-- the run's lines have their shape, the columns done -/
theorem run_sh {n : Nat} {A : LM} : ∀ {k : Nat} {L : LM}, k ≤ n → eRun n A k = some L → ShL n L ∧ UC n k L
  | 0, L, _, e => by
    cases e
    exact ⟨ShL.init, fun i j _ hj => absurd hj (Nat.not_lt_zero j)⟩
  | k + 1, L, hk, e => by
    have e1 : (eRun n A k).bind (fun L => eStep n L k) = some L := e
    cases q : eRun n A k with
    | none => rw [q] at e1; cases e1
    | some M =>
      obtain ⟨h1, u1⟩ := run_sh (by omega) q
      rw [q] at e1
      have e2 : eStep n M k = some L := e1
      unfold eStep at e2
      cases p : ePiv n k M with
      | nil => rw [p] at e2; cases e2
      | cons g gs =>
        rw [p] at e2
        have e3 : eCol n k M g n = L := Option.some.inj e2
        obtain ⟨hg, hkg⟩ := piv_lt p
        rw [← e3]
        exact ⟨h1.col (by omega) hg, uc_col h1 (by omega) hg hkg (piv_ne p) u1⟩
/-- what solves the end solves the start -/
theorem run_sol {n : Nat} {A : LM} {x : Nat → Rat} : ∀ {k : Nat} {L : LM}, k ≤ n → eRun n A k = some L → Sol n L x → Sol n (eInit n A) x
  | 0, L, _, e, s => by
    cases e
    exact s
  | k + 1, L, hk, e, s => by
    have e1 : (eRun n A k).bind (fun L => eStep n L k) = some L := e
    cases q : eRun n A k with
    | none => rw [q] at e1; cases e1
    | some M =>
      obtain ⟨h1, u1⟩ := run_sh (by omega) q
      rw [q] at e1
      have e2 : eStep n M k = some L := e1
      unfold eStep at e2
      cases p : ePiv n k M with
      | nil => rw [p] at e2; cases e2
      | cons g gs =>
        rw [p] at e2
        have e3 : eCol n k M g n = L := Option.some.inj e2
        obtain ⟨hg, hkg⟩ := piv_lt p
        rw [← e3] at s
        have s2 := (sol_col h1 (by omega) hg).mp s
        have s3 := (sol_norm (h1.swap (by omega) hg) (by omega) (by rw [swap_kk h1 (by omega) hg]; exact piv_ne p)).mp s2
        exact run_sol (by omega) q (sol_swap h1 (by omega) hg s3)
/-- it shrinks: numbers above 0 that are 1 and what the piece makes of them -/
theorem shr_sol {n : Nat} {A : LM} (h : shrB n A = true) : ∃ x : Nat → Rat, (∀ i, i < n → 0 < x i) ∧ ∀ i, i < n → x i = 1 + rs (fun j => lat A i j * x j) n := by
  unfold shrB at h
  cases q : eRun n A n with
  | none => rw [q] at h; cases h
  | some L =>
    rw [q] at h
    obtain ⟨h1, u⟩ := run_sh (Nat.le_refl _) q
    refine ⟨fun i => lat L i n, fun i hi => ?_, fun i hi => ?_⟩
    · have hl : i < L.length := by rw [h1.1]; exact hi
      have h2 := of_decide_eq_true (List.all_eq_true.mp h L[i] (List.getElem_mem hl))
      show 0 < (L.getD i []).getD n 0
      rw [show L.getD i [] = L[i] by simp [List.getD, hl]]
      exact h2
    · have s : Sol n L fun i => lat L i n := fun i hi => by
        rw [rs_eq_one (i := i) hi fun j hj hne => by rw [u i j hi hj, if_neg (fun z => hne z.symm)]; grind]
        rw [u i i hi hi, if_pos rfl]
        grind
      have s2 := run_sol (Nat.le_refl _) q s i hi
      rw [lat_initR hi] at s2
      have e : rs (fun j => lat (eInit n A) i j * lat L j n) n = rs (fun j => if j = i then lat L j n else 0) n - rs (fun j => lat A i j * lat L j n) n := by
        rw [← rs_sub]
        exact rs_congr fun j hj => by
          rw [lat_initL hi hj]
          by_cases z : i = j
          · rw [if_pos z, if_pos z.symm]; grind
          · rw [if_neg z, if_neg (fun y => z y.symm)]; grind
      rw [e, rs_single, if_pos hi] at s2
      grind
/-! ### numbers above 0 that solve: then it shrinks -/
structure Zk (n k : Nat) (L : LM) (x : Nat → Rat) : Prop where
  h : ShL n L
  u : UC n k L
  s : Sol n L x
  r : ∀ i, i < n → 0 < lat L i n
  z : ∀ i j, i < n → j < n → k ≤ j → i ≠ j → lat L i j ≤ 0
theorem piv_head {n k : Nat} {L : LM} (hk : k < n) (hp : lat L k k ≠ 0) : ∃ gs, ePiv n k L = k :: gs := by
  unfold ePiv
  have e : List.range (n - k) = 0 :: (List.range (n - k - 1)).map Nat.succ := by
    have e2 : n - k = (n - k - 1) + 1 := by omega
    conv => lhs; rw [e2]
    exact List.range_succ_eq_map
  rw [e]
  have e3 : decide (lat L (k + 0) k ≠ 0) = true := decide_eq_true hp
  rw [List.filter_cons, if_pos e3, List.map_cons]
  exact ⟨_, rfl⟩
theorem neg_div {a b : Rat} (ha : a ≤ 0) (hb : 0 < b) : a / b ≤ 0 := by
  have h := Rat.mul_nonneg (show 0 ≤ -a by grind) (Rat.le_of_lt (Rat.inv_pos.mpr hb))
  rw [Rat.div_def]
  grind
theorem pos_div {a b : Rat} (ha : 0 < a) (hb : 0 < b) : 0 < a / b := by
  rw [Rat.div_def]
  exact Rat.mul_pos ha (Rat.inv_pos.mpr hb)
theorem zk_step {n k : Nat} {L : LM} {x : Nat → Rat} (hx : ∀ i, i < n → 0 < x i) (hk : k < n) (q : Zk n k L x) : ∃ M, eStep n L k = some M ∧ Zk n (k + 1) M x := by
  have hp : 0 < lat L k k := by
    have h1 := q.s k hk
    have h2 := q.r k hk
    have h3 : rs (fun j => lat L k j * x j) n ≤ lat L k k * x k := rs_le_one hk fun j hj hne => by
      by_cases e : j < k
      · rw [q.u k j hk e, if_neg (by omega)]
        grind
      · have h4 := q.z k j hk hj (by omega) (fun z => hne z.symm)
        have h5 := hx j hj
        have h6 := Rat.mul_nonneg (show 0 ≤ -lat L k j by grind) (Rat.le_of_lt h5)
        grind
    have h4 : 0 < lat L k k * x k := by grind
    have h5 := hx k hk
    apply Classical.byContradiction
    intro h6
    have h7 := Rat.mul_nonneg (show 0 ≤ -lat L k k by grind) (Rat.le_of_lt h5)
    grind
  have hne : lat L k k ≠ 0 := by grind
  obtain ⟨gs, hg⟩ := piv_head hk hne
  have es : ∀ i j, i < n → lat (eSwap L k k) i j = lat L i j := fun i j hi => by
    rw [lat_swap q.h hk hk hi]
    by_cases e : i = k
    · rw [if_pos e, e]
    · rw [if_neg e, if_neg e]
  have hs := q.h.swap hk hk
  have en : ∀ i j, i < n → j < n + 1 → lat (eNorm (eSwap L k k) k) i j = if i = k then lat L k j / lat L k k else lat L i j := fun i j hi hj => by
    rw [lat_norm hs hk hj, es k j hk, es k k hk, es i j hi]
  have ec : ∀ i j, i < n → j < n + 1 → lat (eCol n k L k n) i j = if i = k then lat L k j / lat L k k else lat L i j - lat L i k * (lat L k j / lat L k k) := fun i j hi hj => by
    rw [lat_col q.h hk hk n (Nat.le_refl _) i j hi hj, en i j hi hj, en i k hi (by omega), en k j hk hj]
    by_cases e : i = k
    · rw [if_neg (by omega), if_pos e, if_pos e]
    · rw [if_pos ⟨hi, e⟩, if_neg e, if_neg e, if_neg e, if_pos rfl]
  refine ⟨eCol n k L k n, by unfold eStep; rw [hg], q.h.col hk hk, uc_col q.h hk hk (Nat.le_refl _) hne q.u, ?_, fun i hi => ?_, fun i j hi hj hkj hij => ?_⟩
  · refine (sol_col q.h hk hk).mpr ((sol_norm hs hk (by rw [es k k hk]; exact hne)).mpr fun i hi => ?_)
    rw [es i n hi, ← q.s i hi]
    exact rs_congr fun j _ => by rw [es i j hi]
  · rw [ec i n hi (by omega)]
    by_cases e : i = k
    · rw [if_pos e]
      exact pos_div (q.r k hk) hp
    · rw [if_neg e]
      have h1 := q.z i k hi hk (Nat.le_refl _) e
      have h2 := pos_div (q.r k hk) hp
      have h3 := Rat.mul_nonneg (show 0 ≤ -lat L i k by grind) (Rat.le_of_lt h2)
      have h4 := q.r i hi
      grind
  · rw [ec i j hi (by omega)]
    by_cases e : i = k
    · rw [if_pos e]
      exact neg_div (q.z k j hk hj (by omega) (by omega)) hp
    · rw [if_neg e]
      have h1 := q.z i k hi hk (Nat.le_refl _) e
      have h2 := neg_div (q.z k j hk hj (by omega) (by omega)) hp
      have h3 := Rat.mul_nonneg (show 0 ≤ -lat L i k by grind) (show 0 ≤ -(lat L k j / lat L k k) by grind)
      have h4 := q.z i j hi hj (by omega) hij
      grind
theorem zk_run {n : Nat} {A : LM} {x : Nat → Rat} (hA : ∀ i j, i < n → j < n → 0 ≤ lat A i j) (hx : ∀ i, i < n → 0 < x i) (hs : ∀ i, i < n → x i = 1 + rs (fun j => lat A i j * x j) n) : ∀ k, k ≤ n → ∃ L, eRun n A k = some L ∧ Zk n k L x
  | 0, _ => by
    refine ⟨_, rfl, ShL.init, fun i j _ hj => absurd hj (Nat.not_lt_zero j), fun i hi => ?_, fun i hi => by rw [lat_initR hi]; decide, fun i j hi hj _ hij => ?_⟩
    · rw [lat_initR hi]
      have e : rs (fun j => lat (eInit n A) i j * x j) n = rs (fun j => if j = i then x j else 0) n - rs (fun j => lat A i j * x j) n := by
        rw [← rs_sub]
        exact rs_congr fun j hj => by
          rw [lat_initL hi hj]
          by_cases z : i = j
          · rw [if_pos z, if_pos z.symm]; grind
          · rw [if_neg z, if_neg (fun y => z y.symm)]; grind
      rw [e, rs_single, if_pos hi]
      have := hs i hi
      grind
    · rw [lat_initL hi hj, if_neg hij]
      have := hA i j hi hj
      grind
  | k + 1, hk => by
    obtain ⟨L, e, q⟩ := zk_run hA hx hs k (by omega)
    obtain ⟨M, e2, q2⟩ := zk_step hx (by omega) q
    refine ⟨M, ?_, q2⟩
    show (eRun n A k).bind _ = _
    rw [e]
    exact e2
theorem sol_shr {n : Nat} {A : LM} {x : Nat → Rat} (hA : ∀ i j, i < n → j < n → 0 ≤ lat A i j) (hx : ∀ i, i < n → 0 < x i) (hs : ∀ i, i < n → x i = 1 + rs (fun j => lat A i j * x j) n) : shrB n A = true := by
  obtain ⟨L, e, q⟩ := zk_run hA hx hs n (Nat.le_refl _)
  unfold shrB
  rw [e]
  refine List.all_eq_true.mpr fun r hr => decide_eq_true ?_
  obtain ⟨i, hi, er⟩ := List.mem_iff_getElem.mp hr
  have h1 := q.r i (by rw [← q.h.1]; exact hi)
  have e2 : lat L i n = r.getD n 0 := by
    unfold lat
    rw [show L.getD i [] = L[i] by simp [List.getD, hi], er]
  rw [e2] at h1
  exact h1
/-! ### finite ones as numbers -/
def E.r (a : E) : Rat := a.v.getD 0
theorem E.r_fin {x : Rat} {h : 0 ≤ x} : (E.fin x h).r = x := rfl
theorem E.r_nn (a : E) : 0 ≤ a.r := by
  rcases E.cases' a with rfl | ⟨x, hx, rfl⟩
  · exact Rat.le_refl
  · exact hx
theorem E.of_fin {a : E} (h : a ≠ E.inf) : a = E.fin a.r a.r_nn := by
  rcases E.cases' a with rfl | ⟨x, hx, rfl⟩
  · exact absurd rfl h
  · rfl
theorem E.r_add {a b : E} (ha : a ≠ E.inf) (hb : b ≠ E.inf) : (a + b).r = a.r + b.r := by
  rw [E.of_fin ha, E.of_fin hb, E.add_ff]
  rfl
theorem E.r_mul {a b : E} (ha : a ≠ E.inf) (hb : b ≠ E.inf) : (a * b).r = a.r * b.r := by
  rw [E.of_fin ha, E.of_fin hb, E.mul_ff]
  rfl
theorem E.fin_add {a b : E} (ha : a ≠ E.inf) (hb : b ≠ E.inf) : a + b ≠ E.inf := fun e => (E.add_eqI.mp e).elim ha hb
theorem E.fin_mul {a b : E} (ha : a ≠ E.inf) (hb : b ≠ E.inf) : a * b ≠ E.inf := fun e => (E.mul_eqI.mp e).elim (fun h => ha h.1) fun h => hb h.2
theorem E.r_zero : (0 : E).r = 0 := rfl
theorem es_r {f : Nat → E} : ∀ {n : Nat}, (∀ k, k < n → f k ≠ E.inf) → (es f n).r = rs (fun k => (f k).r) n
  | 0, _ => rfl
  | n + 1, h => by
    have h1 : es f n ≠ E.inf := fun e => by
      obtain ⟨k, hk, e⟩ := es_inf.mp e
      exact h k (by omega) e
    show (es f n + f n).r = rs _ n + (f n).r
    rw [E.r_add h1 (h n (by omega)), es_r fun k hk => h k (by omega)]
theorem rs_swap (f : Nat → Nat → Rat) (m : Nat) : ∀ n, rs (fun v => rs (fun w => f v w) m) n = rs (fun w => rs (fun v => f v w) n) m
  | 0 => by
    show 0 = rs (fun _ => 0) m
    rw [rs_zero]
  | n + 1 => by
    rw [rs_succ, rs_swap f m n, ← rs_add]
    rfl
/-- a sum over a filtered range -/
theorem rs_filter (p : Nat → Bool) (f : Nat → Rat) : ∀ n, rs (fun b => f (((List.range n).filter p).getD b 0)) ((List.range n).filter p).length = rs (fun k => if p k = true then f k else 0) n
  | 0 => rfl
  | n + 1 => by
    have ih := rs_filter p f n
    rw [rs_succ, ← ih]
    rw [List.range_succ, List.filter_append]
    cases h : p n with
    | false =>
      have e : List.filter p [n] = [] := by simp [h]
      rw [e, List.append_nil, if_neg (by decide)]
      grind
    | true =>
      have e : List.filter p [n] = [n] := by simp [h]
      rw [e, if_pos rfl, List.length_append]
      show rs _ (_ + 1) = _
      rw [rs_succ]
      have e2 : ((List.range n).filter p ++ [n]).getD ((List.range n).filter p).length 0 = n := by
        simp [List.getD]
      rw [e2]
      congr 1
      refine rs_congr fun k hk => ?_
      congr 1
      simp [List.getD, List.getElem?_append_left, hk]
/-! ### what is endless -/
section
variable (A : Nat → Nat → E) (n p : Nat)
/-- the strong piece of a place -/
def Pc (k : Nat) : Prop := k < n ∧ (k = p ∨ (Wk A n p k ∧ Wk A n k p))
end
section
variable {A : Nat → Nat → E} {n p : Nat}
theorem Pc.out (hp : Wk A n p p) {u w v : Nat} (hu : Pc A n p u) (hv : Pc A n p v) (h1 : Wk A n u w) (h2 : Wk A n w v) : Pc A n p w := by
  have a : Wk A n p w := by
    rcases hu.2 with e | e
    · rw [← e]; exact h1
    · exact e.1.trans h1
  have b : Wk A n w p := by
    rcases hv.2 with e | e
    · rw [← e]; exact h2
    · exact h2.trans e.2
  exact ⟨h2.lt1, .inr ⟨a, b⟩⟩
theorem Pc.from_ (hp : Wk A n p p) {u : Nat} (hu : Pc A n p u) : Wk A n p u := by
  rcases hu.2 with e | e
  · rw [e]; exact hp
  · exact e.1
theorem Pc.to (hp : Wk A n p p) {u : Nat} (hu : Pc A n p u) : Wk A n u p := by
  rcases hu.2 with e | e
  · rw [e]; exact hp
  · exact e.2
variable {c : Nat → Bool}
/-- the star is finite at p: then 1 and the star's rows solve -/
theorem piece_sol (hp : Wk A n p p) (hc : ∀ k, k < n → (c k = true ↔ Pc A n p k)) (hf : fiter A n p p ≠ E.inf) :
    ∃ X : Nat → Rat, (∀ k, 0 < X k) ∧ ∀ u, u < n → c u = true → X u = 1 + rs (fun w => if c w = true then (A u w).r * X w else 0) n := by
  have fin : ∀ u v, Pc A n p u → Pc A n p v → fiter A n u v ≠ E.inf := fun u v hu hv e =>
    hf (wk_infr (hv.to hp) (wk_infl (hu.from_ hp) e))
  refine ⟨fun u => 1 + rs (fun v => if c v = true then (fiter A n u v).r else 0) n, fun u => ?_, fun u hu cu => ?_⟩
  · have := rs_nn (f := fun v => if c v = true then (fiter A n u v).r else 0) (n := n) fun k _ => by
      by_cases e : c k = true
      · rw [if_pos e]; exact E.r_nn _
      · rw [if_neg e]; exact Rat.le_refl
    grind
  · have pu := (hc u hu).mp cu
    show 1 + rs (fun v => if c v = true then (fiter A n u v).r else 0) n = 1 + rs (fun w => if c w = true then (A u w).r * (1 + rs (fun v => if c v = true then (fiter A n w v).r else 0) n) else 0) n
    congr 1
    have e1 : ∀ v, v < n → (if c v = true then (fiter A n u v).r else 0) = (if c v = true then (A u v).r else 0) + rs (fun w => if c w = true then (A u w).r * (if c v = true then (fiter A n w v).r else 0) else 0) n := fun v hv => by
      by_cases cv : c v = true
      · have pv := (hc v hv).mp cv
        rw [if_pos cv, if_pos cv]
        have h1 := fin u v pu pv
        have e := fiter_left A n u v
        have h2 : A u v ≠ E.inf := fun z => h1 (by rw [e, z, E.add_if])
        have h3 : ∀ k, k < n → A u k * fiter A n k v ≠ E.inf := fun k hk z => h1 (by
          rw [e, E.add_eqI]
          exact .inr (es_inf.mpr ⟨k, hk, z⟩))
        have h4 : es (fun k => A u k * fiter A n k v) n ≠ E.inf := fun z => by
          obtain ⟨k, hk, z⟩ := es_inf.mp z
          exact h3 k hk z
        rw [e, E.r_add h2 h4, es_r h3]
        congr 1
        refine rs_congr fun w hw => ?_
        rw [if_pos cv]
        by_cases cw : c w = true
        · rw [if_pos cw]
          have pw := (hc w hw).mp cw
          have h5 : A u w ≠ E.inf := fun z => h1 (wk_infr_of hp pw pv (st_one.2 z))
          rw [E.r_mul h5 (fin w v pw pv)]
        · rw [if_neg cw]
          have h6 : A u w * fiter A n w v = 0 := by
            refine E.mul_eq0.mpr ?_
            by_cases z1 : A u w = 0
            · exact .inl z1
            · by_cases z2 : fiter A n w v = 0
              · exact .inr z2
              · exact absurd ((hc w hw).mpr (pu.out hp pv (.one hu hw z1) ((star_nz hw hv).mp z2))) cw
          rw [h6]
          rfl
      · rw [if_neg cv, if_neg cv]
        rw [rs_congr (g := fun _ => 0) fun w _ => by
          rw [if_neg cv]
          by_cases cw : c w = true
          · rw [if_pos cw]; grind
          · rw [if_neg cw], rs_zero]
        grind
    rw [rs_congr e1, rs_add, rs_swap, ← rs_add]
    refine rs_congr fun w hw => ?_
    by_cases cw : c w = true
    · rw [if_pos cw, if_pos cw]
      rw [rs_congr (g := fun v => (A u w).r * (if c v = true then (fiter A n w v).r else 0)) fun v _ => if_pos cw, rs_mul]
      grind
    · rw [if_neg cw, if_neg cw]
      rw [rs_congr (g := fun _ => 0) fun v _ => if_neg cw, rs_zero]
      grind
where
  wk_infr_of {A : Nat → Nat → E} {n p u w v : Nat} (hp : Wk A n p p) (pw : Pc A n p w) (pv : Pc A n p v) (h : fiter A n u w = E.inf) : fiter A n u v = E.inf := wk_infr ((pw.to hp).trans (pv.from_ hp)) h
/-- numbers above 0 that solve: then no turn of the elimination is endless in the piece -/
theorem piece_fin (hp : Wk A n p p) (hpn : p < n) (hc : ∀ k, k < n → (c k = true ↔ Pc A n p k)) (hA : ∀ u v, u < n → v < n → c u = true → c v = true → A u v ≠ E.inf) {X : Nat → Rat} (hX : ∀ k, k < n → c k = true → 0 < X k)
    (hs : ∀ u, u < n → c u = true → X u = 1 + rs (fun w => if c w = true then (A u w).r * X w else 0) n) : ∀ m, m ≤ p → (∀ u v, u < n → v < n → c u = true → c v = true → fiter A m u v ≠ E.inf) ∧
      ∀ u, u < n → c u = true → rs (fun v => if c v = true ∧ m ≤ v then (fiter A m u v).r * X v else 0) n < X u
  | 0, _ => by
    refine ⟨hA, fun u hu cu => ?_⟩
    have h1 := hs u hu cu
    rw [rs_congr (g := fun w => if c w = true then (A u w).r * X w else 0) fun v _ => by
      by_cases cv : c v = true
      · rw [if_pos ⟨cv, Nat.zero_le _⟩, if_pos cv]; rfl
      · rw [if_neg (fun z => cv z.1), if_neg cv]]
    grind
  | m + 1, hm => by
    obtain ⟨ih1, ih2⟩ := piece_fin hp hpn hc hA hX hs m (by omega)
    have hmn : m < n := by omega
    by_cases cm : c m = true
    · have key : (fiter A m m m).r * X m + rs (fun v => if c v = true ∧ m + 1 ≤ v then (fiter A m m v).r * X v else 0) n < X m ∧
        ∀ u, u < n → c u = true → (fiter A m u m).r * X m + rs (fun v => if c v = true ∧ m + 1 ≤ v then (fiter A m u v).r * X v else 0) n < X u := by
        have all : ∀ u, u < n → c u = true → (fiter A m u m).r * X m + rs (fun v => if c v = true ∧ m + 1 ≤ v then (fiter A m u v).r * X v else 0) n < X u := fun u hu cu => by
          have h := ih2 u hu cu
          rw [rs_congr (g := fun v => (if v = m then (fiter A m u v).r * X v else 0) + (if c v = true ∧ m + 1 ≤ v then (fiter A m u v).r * X v else 0)) fun v _ => by
            by_cases e : v = m
            · subst e
              rw [if_pos ⟨cm, Nat.le_refl _⟩, if_pos rfl, if_neg (by omega)]
              grind
            · rw [if_neg e]
              by_cases cv : c v = true ∧ m ≤ v
              · rw [if_pos cv, if_pos ⟨cv.1, by omega⟩]; grind
              · rw [if_neg cv, if_neg (fun z => cv ⟨z.1, by omega⟩)]; grind, rs_add, rs_single, if_pos hmn] at h
          exact h
        exact ⟨all m hmn cm, all⟩
      obtain ⟨k1, k2⟩ := key
      have hXm := hX m hmn cm
      have hcf := ih1 m m hmn hmn cm cm
      have tn : ∀ u, u < n → c u = true → 0 ≤ rs (fun v => if c v = true ∧ m + 1 ≤ v then (fiter A m u v).r * X v else 0) n := fun u hu cu => rs_nn fun v hv => by
        by_cases cv : c v = true ∧ m + 1 ≤ v
        · rw [if_pos cv]
          exact Rat.mul_nonneg (E.r_nn _) (Rat.le_of_lt (hX v hv cv.1))
        · rw [if_neg cv]; exact Rat.le_refl
      have tm := tn m hmn cm
      have c1 : (fiter A m m m).r < 1 := by
        apply Classical.byContradiction
        intro h
        have h2 : 0 ≤ (fiter A m m m).r - 1 := by grind
        have h3 := Rat.mul_nonneg h2 (Rat.le_of_lt hXm)
        grind
      obtain ⟨q0, es⟩ := E.star_fin (hx := E.r_nn (fiter A m m m)) c1
      rw [← E.of_fin hcf] at es
      have sf : E.star (fiter A m m m) ≠ E.inf := by rw [es]; exact fun z => E.inf_ne z.symm
      have sr : (E.star (fiter A m m m)).r = 1 / (1 - (fiter A m m m).r) := by rw [es]; rfl
      refine ⟨fun u v hu hv cu cv => E.fin_add (ih1 u v hu hv cu cv) (E.fin_mul (ih1 u m hu hmn cu cm) (E.fin_mul sf (ih1 m v hmn hv cm cv))), fun u hu cu => ?_⟩
      have e1 : rs (fun v => if c v = true ∧ m + 1 ≤ v then (fiter A (m + 1) u v).r * X v else 0) n = rs (fun v => if c v = true ∧ m + 1 ≤ v then (fiter A m u v).r * X v else 0) n + ((fiter A m u m).r * (E.star (fiter A m m m)).r) * rs (fun v => if c v = true ∧ m + 1 ≤ v then (fiter A m m v).r * X v else 0) n := by
        rw [← rs_mul, ← rs_add]
        refine rs_congr fun v hv => ?_
        by_cases cv : c v = true ∧ m + 1 ≤ v
        · rw [if_pos cv, if_pos cv, if_pos cv]
          show (fiter A m u v + fiter A m u m * (E.star (fiter A m m m) * fiter A m m v)).r * X v = _
          rw [E.r_add (ih1 u v hu hv cu cv.1) (E.fin_mul (ih1 u m hu hmn cu cm) (E.fin_mul sf (ih1 m v hmn hv cm cv.1))), E.r_mul (ih1 u m hu hmn cu cm) (E.fin_mul sf (ih1 m v hmn hv cm cv.1)), E.r_mul sf (ih1 m v hmn hv cm cv.1)]
          grind
        · rw [if_neg cv, if_neg cv, if_neg cv]; grind
      have k3 := k2 u hu cu
      rw [e1, sr]
      generalize rs (fun v => if c v = true ∧ m + 1 ≤ v then (fiter A m m v).r * X v else 0) n = Tm at k1 tm
      generalize rs (fun v => if c v = true ∧ m + 1 ≤ v then (fiter A m u v).r * X v else 0) n = Tu at k3
      have wn := E.r_nn (fiter A m u m)
      generalize (fiter A m u m).r = w at k3 wn
      generalize (fiter A m m m).r = cc at k1 c1
      generalize X m = xm at k1 k3 hXm
      generalize X u = xu at k3
      have d0 : 0 < 1 - cc := by grind
      have d1 : 0 < 1 / (1 - cc) := by
        rw [Rat.div_def, Rat.one_mul]
        exact Rat.inv_pos.mpr d0
      have d2 : (1 / (1 - cc)) * (1 - cc) = 1 := by
        have : 1 - cc ≠ 0 := by grind
        grind
      generalize 1 / (1 - cc) = s at d1 d2
      have f1 : 0 ≤ s * ((1 - cc) * xm - Tm) := Rat.mul_nonneg (Rat.le_of_lt d1) (by grind)
      have f2 : s * Tm ≤ xm := by
        have e : s * ((1 - cc) * xm - Tm) = (s * (1 - cc)) * xm - s * Tm := by grind
        rw [e, d2] at f1
        grind
      have f3 : 0 ≤ w * (xm - s * Tm) := Rat.mul_nonneg wn (by grind)
      grind
    · have e0 : ∀ u v, u < n → v < n → c u = true → c v = true → fiter A (m + 1) u v = fiter A m u v := fun u v hu hv cu cv => by
        show fiter A m u v + fiter A m u m * (E.star (fiter A m m m) * fiter A m m v) = _
        have z : fiter A m u m * (E.star (fiter A m m m) * fiter A m m v) = 0 := by
          refine E.mul_eq0.mpr ?_
          by_cases z1 : fiter A m u m = 0
          · exact .inl z1
          · refine .inr (E.mul_eq0.mpr (.inr ?_))
            apply Classical.byContradiction
            intro z2
            exact cm ((hc m hmn).mpr (((hc u hu).mp cu).out hp ((hc v hv).mp cv) (nz_wk m (by omega) u m hu hmn z1) (nz_wk m (by omega) m v hmn hv z2)))
        rw [z]
        grind
      refine ⟨fun u v hu hv cu cv => by rw [e0 u v hu hv cu cv]; exact ih1 u v hu hv cu cv, fun u hu cu => ?_⟩
      rw [rs_congr (g := fun v => if c v = true ∧ m ≤ v then (fiter A m u v).r * X v else 0) fun v hv => by
        by_cases cv : c v = true ∧ m ≤ v
        · have hne : v ≠ m := fun e => cm (by rw [← e]; exact cv.1)
          rw [if_pos ⟨cv.1, by omega⟩, if_pos cv, e0 u v hu hv cu cv.1]
        · rw [if_neg (fun z => cv ⟨z.1, by omega⟩), if_neg cv]]
      exact ih2 u hu cu
end
/-! ### the law's words for it -/
def W0 (A : Nat → Nat → E) (n a b : Nat) : Prop := a = b ∨ Wk A n a b
theorem W0.trans {A : Nat → Nat → E} {n a b c : Nat} (h : W0 A n a b) (h2 : Wk A n b c) : W0 A n a c := by
  rcases h with e | e
  · rw [e]; exact .inr h2
  · exact .inr (e.trans h2)
theorem W0.pre {A : Nat → Nat → E} {n a b c : Nat} (h : Wk A n a b) (h2 : W0 A n b c) : W0 A n a c := by
  rcases h2 with e | e
  · rw [← e]; exact .inr h
  · exact .inr (h.trans e)
section
variable {n p : Nat} {A : Mat}
def prB (A : Mat) (p k : Nat) : Bool := decide (k = p) || (bat (reachB A) p k && bat (reachB A) k p)
theorem piece_eq (h : Sq n A) : pieceL A (reachB A) p = (List.range n).filter (prB A p) := by
  unfold pieceL
  rw [h.1]
  rfl
theorem pr_iff (h : Sq n A) (hn : Nn A) (hp : p < n) {k : Nat} (hk : k < n) : prB A p k = true ↔ Pc (eM A hn) n p k := by
  unfold prB Pc
  rw [Bool.or_eq_true, Bool.and_eq_true, decide_eq_true_iff, reach_wk h hn hp hk, reach_wk h hn hk hp]
  exact ⟨fun z => ⟨hk, z⟩, fun z => z.2⟩
theorem lat_inner {C : List Nat} {a b : Nat} (ha : a < C.length) (hb : b < C.length) : lat (innerQ A C) a b = (at2 A (C.getD a 0) (C.getD b 0)).getD 0 := by
  unfold lat innerQ
  have e : (C.map fun i => C.map fun j => (at2 A i j).getD 0).getD a [] = C.map fun j => (at2 A (C.getD a 0) j).getD 0 := by
    simp [List.getD, ha]
  rw [e]
  simp [List.getD, hb]
theorem eM_r (hn : Nn A) (i j : Nat) : (eM A hn i j).r = (at2 A i j).getD 0 := rfl
theorem fil_mem {c : Nat → Bool} {a : Nat} (ha : a < ((List.range n).filter c).length) : ((List.range n).filter c).getD a 0 < n ∧ c (((List.range n).filter c).getD a 0) = true := by
  have e : ((List.range n).filter c).getD a 0 = ((List.range n).filter c)[a] := by simp [List.getD, ha]
  have hm := List.mem_filter.mp (List.getElem_mem ha)
  rw [e]
  exact ⟨List.mem_range.mp hm.1, hm.2⟩
/-- sums over the piece, by its places -/
theorem inner_sum (hn : Nn A) (c : Nat → Bool) (X : Nat → Rat) {a : Nat} (ha : a < ((List.range n).filter c).length) :
    rs (fun b => lat (innerQ A ((List.range n).filter c)) a b * X (((List.range n).filter c).getD b 0)) ((List.range n).filter c).length = rs (fun w => if c w = true then (eM A hn (((List.range n).filter c).getD a 0) w).r * X w else 0) n := by
  rw [← rs_filter c fun w => (eM A hn (((List.range n).filter c).getD a 0) w).r * X w]
  exact rs_congr fun b hb => by rw [lat_inner ha hb, eM_r]
theorem shr_of_sol (hn : Nn A) (c : Nat → Bool) {X : Nat → Rat} (hX : ∀ k, 0 < X k) (hs : ∀ u, u < n → c u = true → X u = 1 + rs (fun w => if c w = true then (eM A hn u w).r * X w else 0) n) : shrB ((List.range n).filter c).length (innerQ A ((List.range n).filter c)) = true := by
  refine sol_shr (x := fun a => X (((List.range n).filter c).getD a 0)) (fun i j hi hj => ?_) (fun i _ => hX _) fun i hi => ?_
  · rw [lat_inner hi hj, ← eM_r hn]
    exact E.r_nn _
  · obtain ⟨h1, h2⟩ := fil_mem hi
    rw [inner_sum hn c X hi]
    exact hs _ h1 h2
theorem sol_of_shr (hn : Nn A) (c : Nat → Bool) (h : shrB ((List.range n).filter c).length (innerQ A ((List.range n).filter c)) = true) :
    ∃ X : Nat → Rat, (∀ k, k < n → c k = true → 0 < X k) ∧ ∀ u, u < n → c u = true → X u = 1 + rs (fun w => if c w = true then (eM A hn u w).r * X w else 0) n := by
  obtain ⟨x, h1, h2⟩ := shr_sol h
  have nd : ((List.range n).filter c).Nodup := List.Nodup.sublist List.filter_sublist List.nodup_range
  have idx : ∀ u, u < n → c u = true → ((List.range n).filter c).idxOf u < ((List.range n).filter c).length ∧ ((List.range n).filter c).getD (((List.range n).filter c).idxOf u) 0 = u := fun u hu cu => by
    have hm : u ∈ (List.range n).filter c := List.mem_filter.mpr ⟨List.mem_range.mpr hu, cu⟩
    have hl := List.idxOf_lt_length_of_mem hm
    refine ⟨hl, ?_⟩
    rw [show ∀ (L : List Nat) (i : Nat) (h : i < L.length), L.getD i 0 = L[i] from fun L i h => by simp [List.getD, h]]
    · exact List.getElem_idxOf hl
  have inv : ∀ b, b < ((List.range n).filter c).length → ((List.range n).filter c).idxOf (((List.range n).filter c).getD b 0) = b := fun b hb => by
    rw [show ((List.range n).filter c).getD b 0 = ((List.range n).filter c)[b] by simp [List.getD, hb]]
    exact nd.idxOf_getElem b hb
  refine ⟨fun k => x (((List.range n).filter c).idxOf k), fun k hk ck => h1 _ (idx k hk ck).1, fun u hu cu => ?_⟩
  obtain ⟨hl, hg⟩ := idx u hu cu
  have e := inner_sum hn c (fun k => x (((List.range n).filter c).idxOf k)) hl
  rw [hg] at e
  show x _ = 1 + rs (fun w => if c w = true then (eM A hn u w).r * x (((List.range n).filter c).idxOf w) else 0) n
  rw [← e, h2 _ hl]
  congr 1
  exact rs_congr fun b hb => by
    show _ = _ * x (((List.range n).filter c).idxOf (((List.range n).filter c).getD b 0))
    rw [inv b hb]
theorem inner_any {C : List Nat} : (innerM A C).any (fun r => r.any fun x => decide (x = none)) = true ↔ ∃ u v, u ∈ C ∧ v ∈ C ∧ at2 A u v = none := by
  unfold innerM
  rw [List.any_eq_true]
  constructor
  · rintro ⟨r, hr, h⟩
    obtain ⟨u, hu, e⟩ := List.mem_map.mp hr
    subst e
    obtain ⟨x, hx, h⟩ := List.any_eq_true.mp h
    obtain ⟨v, hv, e⟩ := List.mem_map.mp hx
    exact ⟨u, v, hu, hv, e.trans (of_decide_eq_true h)⟩
  · rintro ⟨u, v, hu, hv, e⟩
    exact ⟨_, List.mem_map.mpr ⟨u, hu, rfl⟩, List.any_eq_true.mpr ⟨_, List.mem_map.mpr ⟨v, hv, rfl⟩, decide_eq_true e⟩⟩
theorem v_inf {x : E} : x.v = none ↔ x = E.inf := ⟨fun h => E.ext' h, fun h => by rw [h]; rfl⟩
/-- a heavy place: its star is endless -/
theorem heavy_inf (h : Sq n A) (hn : Nn A) (hp : p < n) (hh : heavyB A (reachB A) p = true) : Wk (eM A hn) n p p ∧ fiter (eM A hn) n p p = E.inf := by
  unfold heavyB at hh
  obtain ⟨h1, h2⟩ := Bool.and_eq_true_iff.mp hh
  have hpp := (reach_wk h hn hp hp).mp h1
  refine ⟨hpp, ?_⟩
  rw [Bool.or_eq_true, inner_any, piece_eq h] at h2
  rcases h2 with ⟨u, v, hu, hv, e⟩ | h2
  · obtain ⟨u1, u2⟩ := List.mem_filter.mp hu
    obtain ⟨v1, v2⟩ := List.mem_filter.mp hv
    have pu := (pr_iff h hn hp (List.mem_range.mp u1)).mp u2
    have pv := (pr_iff h hn hp (List.mem_range.mp v1)).mp v2
    have e2 : eM A hn u v = E.inf := v_inf.mp e
    exact wk_infr (pv.to hpp) (wk_infl (pu.from_ hpp) (st_one.2 e2))
  · apply Classical.byContradiction
    intro hf
    obtain ⟨X, hX, hs⟩ := piece_sol (c := prB A p) hpp (fun k hk => pr_iff h hn hp hk) hf
    rw [shr_of_sol hn (prB A p) hX hs] at h2
    cases h2
/-- 1 or more at a turn: the place is heavy -/
theorem big_heavy (h : Sq n A) (hn : Nn A) (hp : p < n) {x : Rat} {hx : 0 ≤ x} (e : fiter (eM A hn) p p p = E.fin x hx) (h1 : 1 ≤ x) : heavyB A (reachB A) p = true := by
  have hne : fiter (eM A hn) p p p ≠ 0 := fun z => by
    rw [e] at z
    have := E.fin_zero.mp z
    rw [this] at h1
    revert h1
    decide
  have hpp := nz_wk p (by omega) p p hp hp hne
  unfold heavyB
  rw [(reach_wk h hn hp hp).mpr hpp, Bool.true_and, Bool.or_eq_true, inner_any, piece_eq h]
  apply Classical.byContradiction
  intro hno
  have hA : ∀ u v, u < n → v < n → prB A p u = true → prB A p v = true → eM A hn u v ≠ E.inf := fun u v hu hv cu cv z => hno (.inl ⟨u, v, List.mem_filter.mpr ⟨List.mem_range.mpr hu, cu⟩, List.mem_filter.mpr ⟨List.mem_range.mpr hv, cv⟩, v_inf.mpr z⟩)
  have hshr : shrB ((List.range n).filter (prB A p)).length (innerQ A ((List.range n).filter (prB A p))) = true := by
    cases q : shrB ((List.range n).filter (prB A p)).length (innerQ A ((List.range n).filter (prB A p))) with
    | true => rfl
    | false => exact absurd (.inr (by rw [q]; rfl)) hno
  obtain ⟨X, hX, hs⟩ := sol_of_shr hn (prB A p) hshr
  have cp : prB A p p = true := by simp [prB]
  obtain ⟨f1, f2⟩ := piece_fin (c := prB A p) hpp hp (fun k hk => pr_iff h hn hp hk) hA hX hs p (Nat.le_refl _)
  have f3 := f2 p hp cp
  have f4 : (if prB A p p = true ∧ p ≤ p then (fiter (eM A hn) p p p).r * X p else 0) ≤ rs (fun v => if prB A p v = true ∧ p ≤ v then (fiter (eM A hn) p p v).r * X v else 0) n := rs_ge hp fun k hk => by
    by_cases ck : prB A p k = true ∧ p ≤ k
    · rw [if_pos ck]
      exact Rat.mul_nonneg (E.r_nn _) (Rat.le_of_lt (hX k hk ck.1))
    · rw [if_neg ck]; exact Rat.le_refl
  rw [if_pos ⟨cp, Nat.le_refl _⟩, e] at f4
  have f5 : (E.fin x hx).r = x := rfl
  rw [f5] at f4
  have f6 := hX p hp cp
  have f7 := Rat.mul_nonneg (show 0 ≤ x - 1 by grind) (Rat.le_of_lt f6)
  grind
end
/-- where the law says «endless» -/
def EndP (A : Mat) (hn : Nn A) (n i j : Nat) : Prop := ∃ p, p < n ∧ W0 (eM A hn) n i p ∧ ((heavyB A (reachB A) p = true ∧ W0 (eM A hn) n p j) ∨ ∃ q, q < n ∧ eM A hn p q = E.inf ∧ W0 (eM A hn) n q j)
section
variable {n : Nat} {A : Mat}
theorem EndP.pre {hn : Nn A} {i k j : Nat} (h : Wk (eM A hn) n i k) : EndP A hn n k j → EndP A hn n i j := fun ⟨p, hp, a, b⟩ => ⟨p, hp, a.pre h, b⟩
theorem EndP.suf {hn : Nn A} {i k j : Nat} (h : Wk (eM A hn) n k j) : EndP A hn n i k → EndP A hn n i j := fun ⟨p, hp, a, b⟩ => ⟨p, hp, a, b.imp (fun z => ⟨z.1, z.2.trans h⟩) fun ⟨q, hq, e, z⟩ => ⟨q, hq, e, z.trans h⟩⟩
theorem inf_end (h : Sq n A) (hn : Nn A) : ∀ m, m ≤ n → ∀ i j, i < n → j < n → fiter (eM A hn) m i j = E.inf → EndP A hn n i j
  | 0, _, i, j, hi, hj, e => ⟨i, hi, .inl rfl, .inr ⟨j, hj, e, .inl rfl⟩⟩
  | m + 1, hm, i, j, hi, hj, e => by
    have ih := inf_end h hn m (by omega)
    have hmn : m < n := by omega
    have e1 : fiter (eM A hn) m i j + fiter (eM A hn) m i m * (E.star (fiter (eM A hn) m m m) * fiter (eM A hn) m m j) = E.inf := e
    rcases E.add_eqI.mp e1 with e2 | e2
    · exact ih i j hi hj e2
    · rcases E.mul_eqI.mp e2 with ⟨a, b⟩ | ⟨a, b⟩
      · have b2 : fiter (eM A hn) m m j ≠ 0 := fun z => b (by rw [z, E.mul_fz])
        exact (ih i m hi hmn a).suf (nz_wk m (by omega) m j hmn hj b2)
      · have wim := nz_wk m (by omega) i m hi hmn a
        rcases E.mul_eqI.mp b with ⟨b1, b2⟩ | ⟨b1, b2⟩
        · have wmj := nz_wk m (by omega) m j hmn hj b2
          rcases E.star_infI b1 with z | ⟨x, hx, z, h1⟩
          · exact ((ih m m hmn hmn z).suf wmj).pre wim
          · exact ⟨m, hmn, .inr wim, .inl ⟨big_heavy h hn hmn z h1, .inr wmj⟩⟩
        · exact (ih m j hmn hj b2).pre wim
theorem end_inf (h : Sq n A) (hn : Nn A) {i j : Nat} : EndP A hn n i j → fiter (eM A hn) n i j = E.inf := fun ⟨p, hp, a, b⟩ => by
  have pre : ∀ k, fiter (eM A hn) n p k = E.inf → fiter (eM A hn) n i k = E.inf := fun k z => by
    rcases a with e | e
    · rw [e]; exact z
    · exact wk_infl e z
  have suf : ∀ q k, W0 (eM A hn) n q k → fiter (eM A hn) n i q = E.inf → fiter (eM A hn) n i k = E.inf := fun q k w z => by
    rcases w with e | e
    · rw [← e]; exact z
    · exact wk_infr e z
  rcases b with ⟨hv, w⟩ | ⟨q, hq, e, w⟩
  · exact suf p j w (pre p (heavy_inf h hn hp hv).2)
  · exact suf q j w (pre q (st_one.2 e))
theorem isEnd_iff (h : Sq n A) (hn : Nn A) {i j : Nat} (hi : i < n) (hj : j < n) : isEnd A (reachB A) (heavies A) i j = true ↔ EndP A hn n i j := by
  have begins : ∀ p, p < n → (endB A (reachB A) i p = true ↔ W0 (eM A hn) n i p) := fun p hp => by
    unfold endB W0
    rw [Bool.or_eq_true, decide_eq_true_iff, reach_wk h hn hi hp]
    exact ⟨fun z => z.imp (fun e => e.symm) id, fun z => z.imp (fun e => e.symm) id⟩
  have ends : ∀ p, p < n → ((decide (p = j) || bat (reachB A) p j) = true ↔ W0 (eM A hn) n p j) := fun p hp => by
    unfold W0
    rw [Bool.or_eq_true, decide_eq_true_iff, reach_wk h hn hp hj]
  have hv : ∀ p, p < n → (heavies A).getD p false = heavyB A (reachB A) p := fun p hp => by
    simp [heavies, List.getD, h.1, hp]
  unfold isEnd
  rw [h.1, List.any_eq_true]
  constructor
  · rintro ⟨p, hp, e⟩
    have hp := List.mem_range.mp hp
    rcases Bool.or_eq_true_iff.mp e with e | e
    · unfold endP at e
      obtain ⟨e1, e2⟩ := Bool.and_eq_true_iff.mp e
      obtain ⟨e3, e4⟩ := Bool.and_eq_true_iff.mp e1
      rw [hv p hp] at e4
      exact ⟨p, hp, (begins p hp).mp e3, .inl ⟨e4, (ends p hp).mp e2⟩⟩
    · obtain ⟨q, hq, e⟩ := List.any_eq_true.mp e
      have hq := List.mem_range.mp hq
      unfold endQ at e
      obtain ⟨e1, e2⟩ := Bool.and_eq_true_iff.mp e
      obtain ⟨e3, e4⟩ := Bool.and_eq_true_iff.mp e1
      exact ⟨p, hp, (begins p hp).mp e3, .inr ⟨q, hq, v_inf.mp (of_decide_eq_true e4), (ends q hq).mp e2⟩⟩
  · rintro ⟨p, hp, a, b⟩
    refine ⟨p, List.mem_range.mpr hp, Bool.or_eq_true_iff.mpr ?_⟩
    rcases b with ⟨b1, b2⟩ | ⟨q, hq, e, w⟩
    · left
      unfold endP
      rw [(begins p hp).mpr a, hv p hp, b1, (ends p hp).mpr b2]
      rfl
    · right
      refine List.any_eq_true.mpr ⟨q, List.mem_range.mpr hq, ?_⟩
      unfold endQ
      have e2 : at2 A p q = none := v_inf.mpr e
      rw [(begins p hp).mpr a, (ends q hq).mpr w, e2]
      rfl
/-- the star's endless places -/
theorem star_end (h : Sq n A) (hn : Nn A) {i j : Nat} (hi : i < n) (hj : j < n) : decide (at2 (kstar A) i j = none) = isEnd A (reachB A) (heavies A) i j := by
  rw [Bool.eq_iff_iff, decide_eq_true_iff, isEnd_iff h hn hi hj]
  have e : at2 (kstar A) i j = (fiter (eM A hn) n i j).v := by
    unfold kstar
    rw [h.1]
    exact kiter_fiter h hn n (Nat.le_refl _) i j hi hj
  rw [e, v_inf]
  exact ⟨inf_end h hn n (Nat.le_refl _) i j hi hj, end_inf h hn⟩
theorem star_at (h : Sq n A) (hn : Nn A) {i j : Nat} (hi : i < n) (hj : j < n) : at2 (kstar A) i j = (fiter (eM A hn) n i j).v := by
  unfold kstar
  rw [h.1]
  exact kiter_fiter h hn n (Nat.le_refl _) i j hi hj
theorem star_zero (h : Sq n A) (hn : Nn A) {i j : Nat} (hi : i < n) (hj : j < n) : decide (at2 (kstar A) i j = some 0) = !bat (reachB A) i j := by
  rw [star_at h hn hi hj, reach_star h hn hi hj]
  have := v_zero (x := fiter (eM A hn) n i j)
  by_cases e : fiter (eM A hn) n i j = 0
  · rw [e]
    rfl
  · have e2 := this.mpr e
    simp [e, e2]
end
/-! ### sizes: numbers over one bottom -/
def Fr (d b : Nat) (q : Rat) : Prop := ∃ t : Int, q * (d : Rat) = (t : Rat) ∧ t.natAbs < 2 ^ b
theorem fr_sm {d b : Nat} {q : Rat} (h : Fr d b q) (h0 : 0 < d) (hd : d < 2 ^ b) (hb : b ≤ 4000) : Sm q := by
  obtain ⟨t, e, ht⟩ := h
  have hd0 : (d : Rat) ≠ 0 := by
    intro z
    have : d = 0 := by exact_mod_cast z
    omega
  have hq : q = mkRat t d := by
    have h1 : mkRat t d = (t : Rat) / (d : Rat) := Rat.mkRat_eq_div t d
    rw [h1, ← e]
    grind
  have hg : 0 < d.gcd t.natAbs := Nat.gcd_pos_of_pos_left _ h0
  rw [hq]
  refine ⟨lt_B4 (n := b) ?_ hb, lt_B4 (n := b) ?_ hb⟩
  · rw [Rat.num_mkRat, if_neg (by omega)]
    refine Nat.lt_of_le_of_lt ?_ ht
    exact Int.natAbs_ediv_le_natAbs _ _
  · rw [Rat.den_mkRat, if_neg (by omega)]
    exact Nat.lt_of_le_of_lt (Nat.div_le_self _ _) hd
theorem fr_mono {d b c : Nat} {q : Rat} (h : Fr d b q) (hc : b ≤ c) : Fr d c q := by
  obtain ⟨t, e, ht⟩ := h
  exact ⟨t, e, Nat.lt_of_lt_of_le ht (pow_le hc)⟩
theorem fr_zero {d b : Nat} : Fr d b 0 := ⟨0, by grind, Nat.pow_pos (by decide)⟩
theorem pow_add' (a b : Nat) : 2 ^ a * 2 ^ b = 2 ^ (a + b) := (Nat.pow_add 2 a b).symm
theorem mul_lt_pow {x y a b : Nat} (hx : x < 2 ^ a) (hy : y < 2 ^ b) : x * y < 2 ^ (a + b) := by
  rw [← pow_add']
  exact Nat.mul_lt_mul'' hx hy
/-- over a greater bottom -/
theorem fr_up {d b e c : Nat} {q : Rat} (h : Fr d b q) (he : e * 2 ^ b ≤ 2 ^ c) (h0 : 0 < e) : Fr (d * e) c q := by
  obtain ⟨t, e1, ht⟩ := h
  refine ⟨t * e, ?_, ?_⟩
  · rw [Rat.natCast_mul, Rat.intCast_mul, Rat.intCast_natCast, ← Rat.mul_assoc, e1]
  · rw [Int.natAbs_mul, Int.natAbs_natCast]
    have := Nat.mul_lt_mul_of_pos_right ht h0
    rw [Nat.mul_comm] at he
    exact Nat.lt_of_lt_of_le this he
theorem fr_mul {d b e c : Nat} {p q : Rat} (h : Fr d b p) (h2 : Fr e c q) : Fr (d * e) (b + c) (p * q) := by
  obtain ⟨t, e1, ht⟩ := h
  obtain ⟨u, e2, hu⟩ := h2
  refine ⟨t * u, ?_, ?_⟩
  · rw [Rat.natCast_mul, Rat.intCast_mul, ← e1, ← e2]
    grind
  · rw [Int.natAbs_mul]
    exact mul_lt_pow ht hu
theorem fr_add {d b c : Nat} {p q : Rat} (h : Fr d b p) (h2 : Fr d c q) : Fr d (max b c + 1) (p + q) := by
  obtain ⟨t, e1, ht⟩ := h
  obtain ⟨u, e2, hu⟩ := h2
  refine ⟨t + u, ?_, ?_⟩
  · rw [Rat.intCast_add, ← e1, ← e2]
    grind
  · have h3 := Int.natAbs_add_le t u
    have h4 : t.natAbs < 2 ^ (max b c) := Nat.lt_of_lt_of_le ht (pow_le (Nat.le_max_left ..))
    have h5 : u.natAbs < 2 ^ (max b c) := Nat.lt_of_lt_of_le hu (pow_le (Nat.le_max_right ..))
    rw [Nat.pow_succ]
    omega
/-- outcomes over one bottom -/
def FrO (d b : Nat) : Oc → Prop
  | none => True
  | some q => Fr d b q
theorem fro_sm {d b : Nat} {x : Oc} (h : FrO d b x) (h0 : 0 < d) (hd : d < 2 ^ b) (hb : b ≤ 4000) : SmO x := by
  cases x with
  | none => trivial
  | some q => exact fr_sm h h0 hd hb
theorem fro_mono {d b c : Nat} {x : Oc} (h : FrO d b x) (hc : b ≤ c) : FrO d c x := by
  cases x with
  | none => trivial
  | some q => exact fr_mono h hc
theorem fro_up {d b e c : Nat} {x : Oc} (h : FrO d b x) (he : e * 2 ^ b ≤ 2 ^ c) (h0 : 0 < e) : FrO (d * e) c x := by
  cases x with
  | none => trivial
  | some q => exact fr_up h he h0
theorem fro_mul {d b e c : Nat} {x y : Oc} (h : FrO d b x) (h2 : FrO e c y) : FrO (d * e) (b + c) (omul x y) := by
  unfold omul
  split
  · exact fr_zero
  · cases x with
    | none => trivial
    | some p =>
      cases y with
      | none => trivial
      | some q => exact fr_mul h h2
theorem fro_add {d b c : Nat} {x y : Oc} (h : FrO d b x) (h2 : FrO d c y) : FrO d (max b c + 1) (oadd x y) := by
  cases x with
  | none => trivial
  | some p =>
    cases y with
    | none => trivial
    | some q => exact fr_add h h2
def MF (d b : Nat) (W : Mat) : Prop := ∀ i j, FrO d b (at2 W i j)
theorem mem_at2 {W : Mat} {row : List Oc} {x : Oc} (hr : row ∈ W) (hx : x ∈ row) : ∃ i j, at2 W i j = x := by
  obtain ⟨i, hi, e⟩ := List.mem_iff_getElem.mp hr
  obtain ⟨j, hj, e2⟩ := List.mem_iff_getElem.mp hx
  refine ⟨i, j, ?_⟩
  unfold at2
  rw [show W.getD i [] = row by simp [List.getD, hi, e]]
  simp [List.getD, hj, e2]
/-- one turn: the round's bottom -/
theorem round_fr {d b : Nat} {W : Mat} {m : Nat} (hW : MF d b W) (hn : Nn W) (h0 : 0 < d) (hd : d < 2 ^ b) :
    (∃ e : Nat, 0 < e ∧ e ≤ d ∧ (∃ q, at2 W m m = some q ∧ q < 1 ∧ (1 - q) * (d : Rat) = (e : Rat) ∧ kround W m = some (1 / (1 - q)) ∧ (1 / (1 - q)) * (e : Rat) = (d : Rat))) ∨ kround W m = none := by
  unfold kround
  have h1 := hW m m
  have h2 := hn m m
  generalize at2 W m m = x at h1 h2
  cases x with
  | none => exact .inr rfl
  | some q =>
    by_cases hq : 1 ≤ q
    · refine .inr ?_
      show (if 1 ≤ q then none else some _) = none
      rw [if_pos hq]
    · obtain ⟨t, et, ht⟩ := h1
      have hq1 : q < 1 := by grind
      have hq0 : 0 ≤ q := h2 q rfl
      have hdR : (0 : Rat) < (d : Rat) := by exact_mod_cast h0
      have ht0 : 0 ≤ t := by
        have h3 : (0 : Rat) ≤ (t : Rat) := by
          rw [← et]
          exact Rat.mul_nonneg hq0 (Rat.le_of_lt hdR)
        exact_mod_cast h3
      have htd : t < d := by
        have h3 : (0 : Rat) < (1 - q) * (d : Rat) := Rat.mul_pos (by grind) hdR
        have h4 : (t : Rat) < ((d : Int) : Rat) := by
          rw [← et, Rat.intCast_natCast]
          grind
        exact_mod_cast h4
      have e1 : (1 - q) * (d : Rat) = ((d - t.toNat : Nat) : Rat) := by
        have e2 : ((d - t.toNat : Nat) : Int) = (d : Int) - t := by omega
        have e3 : ((d - t.toNat : Nat) : Rat) = (((d - t.toNat : Nat) : Int) : Rat) := (Rat.intCast_natCast _).symm
        rw [e3, e2, Rat.intCast_sub, ← et, Rat.intCast_natCast]
        grind
      refine .inl ⟨d - t.toNat, by omega, by omega, q, rfl, hq1, e1, ?_, ?_⟩
      · show (if 1 ≤ q then none else some _) = _
        rw [if_neg hq]
      · rw [← e1]
        have : 1 - q ≠ 0 := by grind
        grind
theorem step_ok {d b : Nat} {W : Mat} {m : Nat} (hW : MF d b W) (hn : Nn W) (h0 : 0 < d) (hd : d < 2 ^ b) (hb : 2 * b ≤ 4000) : StepOk W m ∧ ∃ e : Nat, 0 < e ∧ e < 2 ^ b ∧ ∀ x, x ∈ ksecond W m → ∀ i, FrO (d * e) (2 * b) (omul (at2 W i m) x) := by
  have sm : ∀ i j, SmO (at2 W i j) := fun i j => fro_sm (hW i j) h0 hd (by omega)
  have sec : ∀ x, x ∈ ksecond W m → ∃ j, x = omul (kround W m) (at2 W m j) := fun x hx => by
    obtain ⟨y, hy, e⟩ := List.mem_map.mp hx
    obtain ⟨j, hj, e2⟩ := List.mem_iff_getElem.mp hy
    refine ⟨j, ?_⟩
    rw [← e]
    congr 1
    unfold at2
    rw [← e2]
    generalize W.getD m [] = r at hj
    simp [List.getD, hj]
  have fst : ∀ f, f ∈ kfirst W m → ∃ i, f = at2 W i m := fun f hf => by
    obtain ⟨r, hr, e⟩ := List.mem_map.mp hf
    obtain ⟨i, hi, e2⟩ := List.mem_iff_getElem.mp hr
    refine ⟨i, ?_⟩
    rw [← e]
    unfold at2
    rw [show W.getD i [] = r by simp [List.getD, hi, e2]]
  have all : ∀ row ∈ W, ∀ x ∈ row, SmO x := fun row hr x hx => by
    obtain ⟨i, j, e⟩ := mem_at2 hr hx
    rw [← e]
    exact sm i j
  have d2 : d < 2 ^ (2 * b) := Nat.lt_of_lt_of_le hd (pow_le (by omega))
  rcases round_fr (m := m) hW hn h0 hd with ⟨e, he0, hed, q, hq, hq1, e1, ek, e2⟩ | ek
  · have heb : e < 2 ^ b := by omega
    have hde : 0 < d * e := Nat.mul_pos h0 he0
    have hde2 : d * e < 2 ^ (2 * b) := by
      rw [show 2 * b = b + b by omega]
      exact mul_lt_pow hd heb
    have secF : ∀ x, x ∈ ksecond W m → FrO e b x := fun x hx => by
      obtain ⟨j, ex⟩ := sec x hx
      have hj := hW m j
      rw [ex, ek]
      generalize at2 W m j = y at hj
      unfold omul
      split
      · exact fr_zero
      · cases y with
        | none => trivial
        | some z =>
          obtain ⟨t, et, ht⟩ := hj
          refine ⟨t, ?_, ht⟩
          rw [← et, ← e2]
          grind
    have pF : ∀ x, x ∈ ksecond W m → ∀ i, FrO (d * e) (2 * b) (omul (at2 W i m) x) := fun x hx i => by
      rw [show 2 * b = b + b by omega]
      exact fro_mul (hW i m) (secF x hx)
    refine ⟨⟨sm m m, fun q' hq' _ => ?_, ?_, all, fun x hx => fro_sm (secF x hx) he0 heb (by omega), fun f hf x hx => ?_⟩, e, he0, heb, pF⟩
    · have : q = q' := Option.some.inj (hq.symm.trans hq')
      subst this
      exact fr_sm (d := d) (b := b) ⟨(e : Int), by rw [e1, Rat.intCast_natCast], by rw [Int.natAbs_natCast]; exact heb⟩ h0 hd (by omega)
    · rw [ek]
      exact fr_sm (d := e) (b := b) ⟨(d : Int), by rw [e2, Rat.intCast_natCast], by rw [Int.natAbs_natCast]; exact hd⟩ he0 heb (by omega)
    · obtain ⟨i, ef⟩ := fst f hf
      rw [ef]
      exact fro_sm (pF x hx i) hde hde2 hb
  · have secF : ∀ x, x ∈ ksecond W m → x = none ∨ x = some 0 := fun x hx => by
      obtain ⟨j, ex⟩ := sec x hx
      rw [ex, ek]
      unfold omul
      split
      · exact .inr rfl
      · exact .inl rfl
    have pF : ∀ x, x ∈ ksecond W m → ∀ y : Oc, omul y x = none ∨ omul y x = some 0 := fun x hx y => by
      rcases secF x hx with e | e
      · rw [e]
        unfold omul
        split
        · exact .inr rfl
        · left
          cases y <;> rfl
      · rw [e]
        unfold omul
        rw [if_pos (.inr rfl)]
        exact .inr rfl
    have sz : SmO (some 0) := fr_sm (d := 1) (b := 1) fr_zero (by decide) (by decide) (by omega)
    refine ⟨⟨sm m m, fun q' hq' hlt => ?_, by rw [ek]; trivial, all, fun x hx => ?_, fun f hf x hx => ?_⟩, 1, by decide, ?_, fun x hx i => ?_⟩
    · exfalso
      unfold kround at ek
      rw [hq'] at ek
      have ek2 : (if 1 ≤ q' then none else some (1 / (1 - q'))) = none := ek
      rw [if_neg (by grind)] at ek2
      cases ek2
    · rcases secF x hx with e | e
      · rw [e]; trivial
      · rw [e]; exact sz
    · rcases pF x hx f with e | e
      · rw [e]; trivial
      · rw [e]; exact sz
    · exact Nat.lt_of_le_of_lt (by omega) hd
    · rcases pF x hx (at2 W i m) with e | e
      · rw [e]; trivial
      · rw [e]; exact fr_zero
theorem step_mf {d b n : Nat} {W : Mat} {m : Nat} (hq : Sq n W) (hm : m < n) (hW : MF d b W) (hn : Nn W) (h0 : 0 < d) (hd : d < 2 ^ b) (hb : 2 * b ≤ 4000) : ∃ e : Nat, 0 < e ∧ e < 2 ^ b ∧ MF (d * e) (2 * b + 1) (kstep W m) := by
  obtain ⟨_, e, he0, heb, hp⟩ := step_ok (m := m) hW hn h0 hd hb
  refine ⟨e, he0, heb, fun i j => ?_⟩
  by_cases hij : i < n ∧ j < n
  · rw [at2_kstep hq hm hij.1 hij.2]
    have h1 : FrO (d * e) (2 * b) (at2 W i j) := fro_up (hW i j) (by
      rw [show 2 * b = b + b by omega, ← pow_add']
      exact Nat.mul_le_mul_right _ (Nat.le_of_lt heb)) he0
    have h2 : omul (orounds (at2 W m m)) (at2 W m j) ∈ ksecond W m := by
      have hl := sq_len hq hm
      unfold ksecond
      refine List.mem_map.mpr ⟨at2 W m j, ?_, rfl⟩
      unfold at2
      generalize W.getD m [] = r at hl
      rw [show r.getD j (some 0) = r[j]'(by omega) by simp [List.getD, show j < r.length by omega]]
      exact List.getElem_mem _
    have h3 := fro_add h1 (hp _ h2 i)
    rw [Nat.max_self] at h3
    exact h3
  · rw [at2_out (sq_step hq hm) hij]
    exact fr_zero
/-- bits behind m turns -/
def bts (b : Nat) : Nat → Nat
  | 0 => b
  | m + 1 => 2 * bts b m + 1
theorem iter_mf {d b n : Nat} {W : Mat} (hq : Sq n W) (hW : MF d b W) (hn : Nn W) (h0 : 0 < d) (hd : d < 2 ^ b) : ∀ m, m ≤ n → 2 * bts b m ≤ 4001 → ∃ e : Nat, 0 < e ∧ e * 2 ^ b ≤ 2 ^ bts b m ∧ MF (d * e) (bts b m) (kiter W m)
  | 0, _, _ => ⟨1, by decide, by rw [Nat.one_mul]; exact Nat.le_refl _, by rw [Nat.mul_one]; exact hW⟩
  | m + 1, hm, hb => by
    have hb2 : 2 * (2 * bts b m + 1) ≤ 4001 := hb
    obtain ⟨e, he0, heb, hM⟩ := iter_mf hq hW hn h0 hd m (by omega) (by omega)
    have hde : d * e < 2 ^ bts b m := by
      refine Nat.lt_of_lt_of_le ?_ heb
      rw [Nat.mul_comm]
      exact Nat.mul_lt_mul_of_pos_left hd he0
    obtain ⟨e2, h20, h2b, hM2⟩ := step_mf (n := n) (m := m) (sq_iter hq m (by omega)) (by omega) hM (nn_iter hq hn (show m ≤ n by omega)) (Nat.mul_pos h0 he0) hde (by omega)
    refine ⟨e * e2, Nat.mul_pos he0 h20, ?_, ?_⟩
    · show e * e2 * 2 ^ b ≤ 2 ^ (2 * bts b m + 1)
      have h5 : e * e2 * 2 ^ b = (e * 2 ^ b) * e2 := by rw [Nat.mul_assoc, Nat.mul_comm e2, ← Nat.mul_assoc]
      rw [h5]
      refine Nat.le_trans (Nat.mul_le_mul heb (Nat.le_of_lt h2b)) ?_
      rw [pow_add']
      exact pow_le (by omega)
    · rw [← Nat.mul_assoc]
      exact hM2
theorem bts_le {b c m n : Nat} (h : m ≤ n) : bts b m ≤ bts b n := by
  induction n with
  | zero =>
    have : m = 0 := by omega
    subst this
    exact Nat.le_refl _
  | succ n ih =>
    by_cases e : m = n + 1
    · rw [e]; exact Nat.le_refl _
    · have := ih (by omega)
      show bts b m ≤ 2 * bts b n + 1
      omega
theorem bts3 (b : Nat) : bts b 3 = 8 * b + 7 := by
  show 2 * (2 * (2 * b + 1) + 1) + 1 = _
  omega
/-- the star of a grid of at most three rows -/
theorem star_mf {d b n : Nat} {W : Mat} (hq : Sq n W) (h3 : n ≤ 3) (hW : MF d b W) (hn : Nn W) (h0 : 0 < d) (hd : d < 2 ^ b) (hb : 8 * b + 7 ≤ 2000) : StarOk W ∧ ∃ e : Nat, 0 < e ∧ e * 2 ^ b ≤ 2 ^ (8 * b + 7) ∧ MF (d * e) (8 * b + 7) (kstar W) := by
  have hbt : ∀ m, m ≤ n → bts b m ≤ 8 * b + 7 := fun m hm => by
    have := bts_le (b := b) (c := 0) (show m ≤ 3 by omega)
    rw [bts3] at this
    exact this
  refine ⟨fun m hm => ?_, ?_⟩
  · have hmn : m < n := by rw [← hq.1]; exact hm
    have h1 := hbt m (by omega)
    obtain ⟨e, he0, heb, hM⟩ := iter_mf hq hW hn h0 hd m (by omega) (by omega)
    have hde : d * e < 2 ^ bts b m := by
      refine Nat.lt_of_lt_of_le ?_ heb
      rw [Nat.mul_comm]
      exact Nat.mul_lt_mul_of_pos_left hd he0
    exact (step_ok (m := m) hM (nn_iter hq hn (show m ≤ n by omega)) (Nat.mul_pos h0 he0) hde (by omega)).1
  · have h1 := hbt n (Nat.le_refl _)
    obtain ⟨e, he0, heb, hM⟩ := iter_mf hq hW hn h0 hd n (Nat.le_refl _) (by omega)
    refine ⟨e, he0, Nat.le_trans heb (pow_le h1), fun i j => fro_mono ?_ h1⟩
    unfold kstar
    rw [hq.1]
    exact hM i j
/-! ### sizes in the law's elimination -/
def LF (d b n : Nat) (L : LM) : Prop := ∀ i j, i < n → j < n + 1 → Fr d b (lat L i j)
theorem fr_neg {d b : Nat} {q : Rat} (h : Fr d b q) : Fr d b (-q) := by
  obtain ⟨t, e, ht⟩ := h
  refine ⟨-t, ?_, by rw [Int.natAbs_neg]; exact ht⟩
  rw [Rat.intCast_neg, ← e]
  grind
theorem fr_sub {d b : Nat} {p q : Rat} (h : Fr d b p) (h2 : Fr d b q) : Fr d (b + 1) (p - q) := by
  have := fr_add h (fr_neg h2)
  rw [Nat.max_self] at this
  rwa [Rat.sub_eq_add_neg]
theorem lf_sm {d b n : Nat} {L : LM} (hs : ShL n L) (h : LF d b n L) (h0 : 0 < d) (hd : d < 2 ^ b) (hb : b ≤ 4000) : AllSm L := fun r hr x hx => by
  obtain ⟨i, hi, e⟩ := List.mem_iff_getElem.mp hr
  obtain ⟨j, hj, e2⟩ := List.mem_iff_getElem.mp hx
  have hrl := hs.2 r hr
  have e3 : lat L i j = x := by
    unfold lat
    rw [show L.getD i [] = r by simp [List.getD, hi, e]]
    simp [List.getD, hj, e2]
  rw [← e3]
  exact fr_sm (h i j (by rw [← hs.1]; exact hi) (by omega)) h0 hd hb
theorem lf_init {d b n : Nat} {A : LM} (hA : ∀ i j, i < n → j < n → 0 ≤ lat A i j ∧ Fr d b (lat A i j)) (hd : d < 2 ^ b) : LF d b n (eInit n A) := fun i j hi hj => by
  by_cases e : j < n
  · rw [lat_initL hi e]
    obtain ⟨h0, t, et, ht⟩ := hA i j hi e
    have ht0 : 0 ≤ t := by
      have h3 : (0 : Rat) ≤ (t : Rat) := by
        rw [← et]
        exact Rat.mul_nonneg h0 (by exact_mod_cast Nat.zero_le d)
      exact_mod_cast h3
    by_cases z : i = j
    · rw [if_pos z]
      refine ⟨(d : Int) - t, ?_, by omega⟩
      rw [Rat.intCast_sub, ← et, Rat.intCast_natCast]
      grind
    · rw [if_neg z]
      refine ⟨-t, ?_, by omega⟩
      rw [Rat.intCast_neg, ← et]
      grind
  · have : j = n := by omega
    subst this
    rw [lat_initR hi]
    exact ⟨(d : Int), by rw [Rat.intCast_natCast]; grind, by rw [Int.natAbs_natCast]; exact hd⟩
theorem abs_sgn {t : Int} (h : t ≠ 0) : ∃ s : Int, s.natAbs = 1 ∧ (t.natAbs : Rat) = (s : Rat) * (t : Rat) ∧ (s : Rat) * (s : Rat) = 1 := by
  by_cases h0 : 0 ≤ t
  · refine ⟨1, rfl, ?_, by decide +kernel⟩
    have e : (t.natAbs : Int) = t := by omega
    have e2 : ((t.natAbs : Nat) : Rat) = ((t.natAbs : Int) : Rat) := (Rat.intCast_natCast _).symm
    rw [e2, e]
    grind
  · refine ⟨-1, rfl, ?_, by decide +kernel⟩
    have e : (t.natAbs : Int) = -t := by omega
    have e2 : ((t.natAbs : Nat) : Rat) = ((t.natAbs : Int) : Rat) := (Rat.intCast_natCast _).symm
    rw [e2, e, Rat.intCast_neg, Rat.intCast_neg]
    grind
theorem lf_col {d b n k g : Nat} {L : LM} (hs : ShL n L) (hk : k < n) (hg : g < n) (hp : lat L g k ≠ 0) (h : LF d b n L) (h0 : 0 < d) (hd : d < 2 ^ b) : ∃ e : Nat, 0 < e ∧ d * e < 2 ^ (2 * b) ∧ ∀ m, m ≤ n → LF (d * e) (2 * b + 1) n (eCol n k L g m) := by
  obtain ⟨T, eT, hT⟩ := h g k hg (by omega)
  have hd0 : (d : Rat) ≠ 0 := by
    intro z
    have : d = 0 := by exact_mod_cast z
    omega
  have hT0 : T ≠ 0 := by
    intro z
    rw [z] at eT
    rcases Rat.mul_eq_zero.mp eT with z | z
    · exact hp z
    · exact hd0 z
  obtain ⟨s, hs1, es, ess⟩ := abs_sgn hT0
  have he0 : 0 < T.natAbs := by omega
  refine ⟨T.natAbs, he0, by rw [show 2 * b = b + b by omega]; exact mul_lt_pow hd hT, fun m hm => ?_⟩
  have S : ∀ i j, i < n → j < n + 1 → Fr d b (lat (eSwap L k g) i j) := fun i j hi hj => by
    rw [lat_swap hs hk hg hi]
    split
    · exact h k j hk hj
    · split
      · exact h g j hg hj
      · exact h i j hi hj
  have hss := hs.swap hk hg
  have ekk := swap_kk hs hk hg
  generalize hM : eSwap L k g = M at S hss ekk
  have up : ∀ i j, i < n → j < n + 1 → Fr (d * T.natAbs) (2 * b) (lat M i j) := fun i j hi hj => fr_up (S i j hi hj) (by rw [show 2 * b = b + b by omega, ← pow_add']; exact Nat.mul_le_mul_right _ (Nat.le_of_lt hT)) he0
  have quo : ∀ j, j < n + 1 → Fr (d * T.natAbs) (2 * b) (lat M k j / lat M k k) := fun j hj => by
    obtain ⟨u, eu, hu⟩ := S k j hk hj
    refine ⟨u * s * d, ?_, ?_⟩
    · rw [Rat.natCast_mul, es, Rat.intCast_mul, Rat.intCast_mul, Rat.intCast_natCast, ekk, ← eu, ← eT]
      grind
    · rw [Int.natAbs_mul, Int.natAbs_mul, hs1, Int.natAbs_natCast, Nat.mul_one, show 2 * b = b + b by omega]
      exact mul_lt_pow hu hd
  have pr : ∀ a j, a < n → j < n + 1 → Fr (d * T.natAbs) (2 * b) (lat M a k * (lat M k j / lat M k k)) := fun a j ha hj => by
    obtain ⟨u, eu, hu⟩ := S k j hk hj
    obtain ⟨v, ev, hv⟩ := S a k ha (by omega)
    refine ⟨v * u * s, ?_, ?_⟩
    · rw [Rat.natCast_mul, es, Rat.intCast_mul, Rat.intCast_mul, ekk, ← eu, ← ev, ← eT]
      grind
    · rw [Int.natAbs_mul, Int.natAbs_mul, hs1, Nat.mul_one, show 2 * b = b + b by omega]
      exact mul_lt_pow hv hu
  intro a j ha hj
  rw [lat_col hs hk hg m hm a j ha hj, hM, lat_norm hss hk hj, lat_norm hss hk (by omega), lat_norm hss hk hj]
  by_cases e : a = k
  · rw [if_neg (by omega), if_pos e]
    exact fr_mono (quo j hj) (by omega)
  · rw [if_neg e, if_neg e, if_pos rfl]
    split
    · exact fr_sub (up a j ha hj) (pr a j ha hj)
    · exact fr_mono (up a j ha hj) (by omega)
theorem run_lf {d b n : Nat} {A : LM} (hA : ∀ i j, i < n → j < n → 0 ≤ lat A i j ∧ Fr d b (lat A i j)) (h0 : 0 < d) (hd : d < 2 ^ b) : ∀ {k : Nat} {L : LM}, k ≤ n → eRun n A k = some L → ∃ e, 0 < e ∧ e < 2 ^ bts b k ∧ LF e (bts b k) n L
  | 0, L, _, e => by
    cases e
    exact ⟨d, h0, hd, lf_init hA hd⟩
  | k + 1, L, hk, e => by
    have e1 : (eRun n A k).bind (fun L => eStep n L k) = some L := e
    cases q : eRun n A k with
    | none => rw [q] at e1; cases e1
    | some M =>
      obtain ⟨h1, u1⟩ := run_sh (by omega) q
      obtain ⟨d', hd0, hd1, hM⟩ := run_lf hA h0 hd (by omega) q
      rw [q] at e1
      have e2 : eStep n M k = some L := e1
      unfold eStep at e2
      cases p : ePiv n k M with
      | nil => rw [p] at e2; cases e2
      | cons g gs =>
        rw [p] at e2
        have e3 : eCol n k M g n = L := Option.some.inj e2
        obtain ⟨hg, hkg⟩ := piv_lt p
        obtain ⟨ee, he0, he1, hC⟩ := lf_col h1 (by omega) hg (piv_ne p) hM hd0 hd1
        refine ⟨d' * ee, Nat.mul_pos hd0 he0, Nat.lt_of_lt_of_le he1 (pow_le (by show _ ≤ 2 * bts b k + 1; omega)), ?_⟩
        rw [← e3]
        exact hC n (Nat.le_refl _)
theorem shr_ok {d b n : Nat} {A : LM} (h3 : n ≤ 3) (hA : ∀ i j, i < n → j < n → 0 ≤ lat A i j ∧ Fr d b (lat A i j)) (h0 : 0 < d) (hd : d < 2 ^ b) (hb : 16 * b + 14 ≤ 4000) : ShrOk n A := by
  refine ⟨fun i j hi hj => fr_sm (hA i j hi hj).2 h0 hd (by omega), fun k L g gs hk e p => ?_⟩
  obtain ⟨h1, u1⟩ := run_sh (by omega) e
  obtain ⟨d', hd0, hd1, hM⟩ := run_lf hA h0 hd (by omega) e
  obtain ⟨hg, hkg⟩ := piv_lt p
  obtain ⟨ee, he0, he1, hC⟩ := lf_col h1 hk hg (piv_ne p) hM hd0 hd1
  have hbk : bts b k ≤ 4 * b + 3 := by
    have := bts_le (b := b) (c := 0) (show k ≤ 2 by omega)
    have e2 : bts b 2 = 4 * b + 3 := by show 2 * (2 * b + 1) + 1 = _; omega
    omega
  have hde := Nat.mul_pos hd0 he0
  have hde1 : d' * ee < 2 ^ (2 * bts b k + 1) := Nat.lt_of_lt_of_le he1 (pow_le (by omega))
  refine ⟨lf_sm h1 hM hd0 hd1 (by omega), fun m hm => ⟨lf_sm (h1.col hk hg) (hC m hm) hde hde1 (by omega), fun i j hi hj => ?_⟩⟩
  refine fr_sm (fr_mul (hC m hm i k hi (by omega)) (hC m hm k j hk hj)) (Nat.mul_pos hde hde) ?_ (by omega)
  exact mul_lt_pow hde1 hde1
theorem fil_le (c : Nat → Bool) (n : Nat) : ((List.range n).filter c).length ≤ n := by
  have := List.length_filter_le c (List.range n)
  rwa [List.length_range] at this
theorem hv_ok {d b n p : Nat} {A : Mat} (h : Sq n A) (h3 : n ≤ 3) (hn : Nn A) (hA : MF d b A) (h0 : 0 < d) (hd : d < 2 ^ b) (hb : 16 * b + 14 ≤ 4000) : HvOk A (reachB A) p := fun _ hfin => by
  rw [piece_eq h] at hfin ⊢
  have hl := fil_le (prB A p) n
  refine shr_ok (by omega) (fun i j hi hj => ?_) h0 hd hb
  rw [lat_inner hi hj]
  have h1 := hA (((List.range n).filter (prB A p)).getD i 0) (((List.range n).filter (prB A p)).getD j 0)
  have h2 := hn (((List.range n).filter (prB A p)).getD i 0) (((List.range n).filter (prB A p)).getD j 0)
  generalize at2 A (((List.range n).filter (prB A p)).getD i 0) (((List.range n).filter (prB A p)).getD j 0) = x at h1 h2
  cases x with
  | none => exact ⟨Rat.le_refl, fr_zero⟩
  | some q => exact ⟨h2 q rfl, h1⟩
/-! ### the star is what the law asks -/
theorem due_es {A S : Mat} {n i j : Nat} {hA : Nn A} {hS : Nn S} : ∀ m, due A S i j m = (eM A hA i j + es (fun k => eM A hA i k * eM S hS k j) m).v
  | 0 => by
    show at2 A i j = (eM A hA i j + 0).v
    have e : eM A hA i j + 0 = eM A hA i j := by grind
    rw [e]
    rfl
  | m + 1 => by
    show oadd (due A S i j m) (omul (at2 A i m) (at2 S m j)) = (eM A hA i j + (es (fun k => eM A hA i k * eM S hS k j) m + eM A hA i m * eM S hS m j)).v
    rw [due_es (n := n) (hA := hA) (hS := hS) m, ← E.assoc_add]
    rfl
theorem nn_star {n : Nat} {A : Mat} (h : Sq n A) (hn : Nn A) : Nn (kstar A) := by
  unfold kstar
  exact nn_iter h hn (by rw [h.1]; exact Nat.le_refl _)
theorem sq_star {n : Nat} {A : Mat} (h : Sq n A) : Sq n (kstar A) := by
  unfold kstar
  exact sq_iter h _ (by rw [h.1]; exact Nat.le_refl _)
theorem star_due {n i j : Nat} {A : Mat} (h : Sq n A) (hn : Nn A) (hi : i < n) (hj : j < n) : at2 (kstar A) i j = due A (kstar A) i j n := by
  rw [due_es (n := n) (hA := hn) (hS := nn_star h hn), star_at h hn hi hj, fiter_left (eM A hn) n i j]
  congr 2
  refine es_congr fun k hk => ?_
  congr 1
  refine E.ext' ?_
  exact (star_at h hn hk hj).symm
theorem due_fr {da ba ds bs n i j : Nat} {A S : Mat} (hA : MF da ba A) (hS : MF ds bs S) (h0 : 0 < ds) (hd : ds < 2 ^ bs) : ∀ m, FrO (da * ds) (ba + bs + m) (due A S i j m)
  | 0 => fro_up (hA i j) (by
      rw [Nat.add_zero, Nat.add_comm ba bs, ← pow_add']
      exact Nat.mul_le_mul_right _ (Nat.le_of_lt hd)) h0
  | m + 1 => by
    have h1 := due_fr (n := n) (i := i) (j := j) hA hS h0 hd m
    have h2 := fro_mul (hA i m) (hS m j)
    have h3 := fro_add h1 h2
    exact fro_mono h3 (by omega)
theorem is_star {da ba ds bs n : Nat} {A : Mat} (h : Sq n A) (h3 : n ≤ 3) (hn : Nn A) (hA : MF da ba A) (ha0 : 0 < da) (had : da < 2 ^ ba) (hba : 16 * ba + 14 ≤ 4000) (hS : MF ds bs (kstar A)) (hs0 : 0 < ds) (hsd : ds < 2 ^ bs) (hbs : ba + bs + 3 ≤ 4000) : IsStar n A (kstar A) := by
  have hp0 := Nat.mul_pos ha0 hs0
  have hpd : da * ds < 2 ^ (ba + bs) := mul_lt_pow had hsd
  refine ⟨h, sq_star h, fun p _ => hv_ok h h3 hn hA ha0 had hba, fun i j hi hj => star_end h hn hi hj, fun i j hi hj => star_zero h hn hi hj, fun i j hi hj _ => star_due h hn hi hj, fun i j _ _ => fro_sm (hA i j) ha0 had (by omega), fun i j _ _ => fro_sm (hS i j) hs0 hsd (by omega), fun i j k _ _ _ => fro_sm (fro_mul (hA i k) (hS k j)) hp0 hpd (by omega), fun i j k _ _ hk => fro_sm (due_fr (n := n) hA hS hs0 hsd k) hp0 (Nat.lt_of_lt_of_le hpd (pow_le (by omega))) (by omega)⟩
end U
set_option maxHeartbeats 4000000
/-! Q2: the plain law of worlds. -/
namespace U
/-! ### grids of outcomes: shape, sign, size -/
def ShM (p : Shp) (M : Mat) : Prop := M.length = p.1 ∧ ∀ r ∈ M, r.length = p.2
structure Gd (d b : Nat) (p : Shp) (M : Mat) : Prop where
  s : ShM p M
  n : Nn M
  f : MF d b M
theorem Gd.mono {d b c : Nat} {p : Shp} {M : Mat} (h : Gd d b p M) (hc : b ≤ c) : Gd d c p M := ⟨h.s, h.n, fun i j => fro_mono (h.f i j) hc⟩
theorem Gd.up {d b e c : Nat} {p : Shp} {M : Mat} (h : Gd d b p M) (he : e * 2 ^ b ≤ 2 ^ c) (h0 : 0 < e) : Gd (d * e) c p M := ⟨h.s, h.n, fun i j => fro_up (h.f i j) he h0⟩
theorem shm_in {p : Shp} {M : Mat} {i j : Nat} (h : ShM p M) (hi : i < p.1) (hj : j < p.2) : cellIn M i j := by
  have hl : i < M.length := by rw [h.1]; exact hi
  refine ⟨hl, ?_⟩
  rw [show M.getD i [] = M[i] by simp [List.getD, hl], h.2 _ (List.getElem_mem _)]
  exact hj
theorem shm_sq {n : Nat} {M : Mat} (h : ShM (n, n) M) : Sq n M := h
def NnO (x : Oc) : Prop := ∀ q, x = some q → 0 ≤ q
theorem nno_add {x y : Oc} (hx : NnO x) (hy : NnO y) : NnO (oadd x y) := (E.add ⟨x, hx⟩ ⟨y, hy⟩).nn
theorem nno_mul {x y : Oc} (hx : NnO x) (hy : NnO y) : NnO (omul x y) := (E.mul ⟨x, hx⟩ ⟨y, hy⟩).nn
theorem nno_zero : NnO (some 0) := fun q e => by
  cases e
  exact Rat.le_refl
theorem oadd_zero (x : Oc) : oadd (some 0) x = x := by
  cases x with
  | none => rfl
  | some q => show some (0 + q) = some q; rw [Rat.zero_add]
theorem cpart_nn {A B : Mat} {i j : Nat} (hA : Nn A) (hB : Nn B) : ∀ k, NnO (cpart A B i j k)
  | 0 => nno_zero
  | k + 1 => nno_add (cpart_nn hA hB k) (nno_mul (fun q e => hA i k q e) (fun q e => hB k j q e))
theorem cpart_fr {d b : Nat} {A B : Mat} {i j : Nat} (hA : MF d b A) (hB : MF d b B) : ∀ k, FrO (d * d) (2 * b + (k - 1)) (cpart A B i j k)
  | 0 => fr_zero
  | k + 1 => by
    have hp : FrO (d * d) (2 * b) (omul (at2 A i k) (at2 B k j)) := by
      rw [show 2 * b = b + b by omega]
      exact fro_mul (hA i k) (hB k j)
    by_cases hk : k = 0
    · subst hk
      show FrO (d * d) (2 * b + 0) (oadd (some 0) _)
      rw [oadd_zero]
      exact hp
    · exact fro_mono (fro_add (cpart_fr hA hB k) hp) (by omega)
/-! ### a table of cells -/
def tab (p : Shp) (f : Nat → Nat → Oc) : Mat := (List.range p.1).map fun i => (List.range p.2).map fun j => f i j
theorem tab_shm (p : Shp) (f : Nat → Nat → Oc) : ShM p (tab p f) := ⟨by simp [tab], fun r hr => by
  obtain ⟨i, _, e⟩ := List.mem_map.mp hr
  rw [← e]
  simp⟩
theorem tab_at {p : Shp} {f : Nat → Nat → Oc} {i j : Nat} : at2 (tab p f) i j = if i < p.1 ∧ j < p.2 then f i j else some 0 := by
  unfold at2
  by_cases hi : i < p.1
  · have e : (tab p f).getD i [] = (List.range p.2).map fun j => f i j := by simp [tab, List.getD, hi]
    rw [e]
    by_cases hj : j < p.2
    · rw [if_pos ⟨hi, hj⟩]
      simp [List.getD, hj]
    · rw [if_neg (fun z => hj z.2)]
      simp [List.getD, List.getElem?_eq_none (show (List.range p.2).length ≤ j by simp; omega), hj]
  · rw [if_neg (fun z => hi z.1)]
    have e : (tab p f).getD i [] = [] := by simp [tab, List.getD, hi]
    rw [e]
    rfl
theorem tab_gd {d b : Nat} {p : Shp} {f : Nat → Nat → Oc} (h : ∀ i j, i < p.1 → j < p.2 → FrO d b (f i j) ∧ NnO (f i j)) : Gd d b p (tab p f) := by
  refine ⟨tab_shm p f, fun i j => ?_, fun i j => ?_⟩
  · rw [tab_at]
    split
    · rename_i h2
      exact (h i j h2.1 h2.2).2
    · exact nno_zero
  · rw [tab_at]
    split
    · rename_i h2
      exact (h i j h2.1 h2.2).1
    · exact fr_zero
theorem rows_tab {s : Stp} {sh : List Shp} {made : Shp} {Ms : List BMat} (hns : ¬ ∃ a, s = .star a) : rowsMade s sh made Ms = tab made (cellMade s sh Ms) := by
  cases s <;> first | (exact absurd ⟨_, rfl⟩ hns) | rfl
/-! ### a step that is no star -/
section
variable {s : Stp} {sh : List Shp} {Ms : List BMat} {made : Shp} {d b i j m : Nat}
theorem cells_ok (hp : ∀ a ∈ parts s, a < Ms.length) (hps : ∀ a ∈ parts s, a < sh.length) (hf : fitS s sh) (hq : shapeOf s sh = some made) (hi : i < made.1) (hj : j < made.2) (hM : ∀ a ∈ parts s, Gd d b (shp sh a) (mt Ms a)) (hz : ∀ a ∈ parts s, (shp sh a).1 ≤ 4) (h0 : 0 < d) (hd : d < 2 ^ b) (hb : 2 * b + 4 ≤ 4000) (hns : ¬ ∃ a, s = .star a) : CellsOk s sh Ms i j := by
  have d2 : d * d < 2 ^ (2 * b) := by
    rw [show 2 * b = b + b by omega]
    exact mul_lt_pow hd hd
  have srcs : isSrc s = true → (∀ a ∈ parts s, a < sh.length) ∧ (src s sh i j).1 < Ms.length ∧ cellIn (mt Ms (src s sh i j).1) (src s sh i j).2.1 (src s sh i j).2.2 := fun hs => by
    obtain ⟨q1, q2, q3⟩ := src_in hs hf hq hi hj
    exact ⟨hps, hp _ q1, shm_in (hM _ q1).s q2 q3⟩
  cases s with
  | star a => exact absurd ⟨a, rfl⟩ hns
  | plus a c =>
    have ha : a ∈ parts (.plus a c) := by simp [parts]
    have hc : c ∈ parts (.plus a c) := by simp [parts]
    simp only [shapeOf] at hq
    split at hq
    · rename_i h
      have hq := Option.some.inj hq
      subst hq
      exact ⟨hp a ha, hp c hc, shm_in (hM a ha).s hi hj, shm_in (hM c hc).s (by rw [← h]; exact hi) (by rw [← h]; exact hj), fro_sm ((hM a ha).f i j) h0 hd (by omega), fro_sm ((hM c hc).f i j) h0 hd (by omega)⟩
    · cases hq
  | times a c =>
    have ha : a ∈ parts (.times a c) := by simp [parts]
    have hc : c ∈ parts (.times a c) := by simp [parts]
    simp only [shapeOf] at hq
    split at hq
    · rename_i h
      have hq := Option.some.inj hq
      subst hq
      have hl := (hM c hc).s.1
      have hz4 := hz c hc
      have hpF : ∀ k, FrO (d * d) (2 * b) (omul (at2 (mt Ms a) i k) (at2 (mt Ms c) k j)) := fun k => by
        rw [show 2 * b = b + b by omega]
        exact fro_mul ((hM a ha).f i k) ((hM c hc).f k j)
      refine ⟨hp a ha, hp c hc, by omega, ⟨by rw [(hM a ha).s.1]; exact hi, fun k hk => ?_, fun r hr => ?_, fun k _ => fro_sm ((hM a ha).f i k) h0 hd (by omega), fun k _ => fro_sm ((hM c hc).f k j) h0 hd (by omega), fun k _ => fro_sm (hpF k) (Nat.mul_pos h0 h0) d2 (by omega), fun k hk => fro_sm (cpart_fr (hM a ha).f (hM c hc).f k) (Nat.mul_pos h0 h0) (Nat.lt_of_lt_of_le d2 (pow_le (by omega))) (by omega)⟩⟩
      · exact (shm_in (hM a ha).s hi (by rw [h, ← hl]; exact hk)).2
      · rw [(hM c hc).s.2 r hr]
        exact hj
    · cases hq
  | turned a => exact srcs rfl
  | beside a c => exact srcs rfl
  | above a c => exact srcs rfl
  | piece a i0 j0 r c => exact srcs rfl
theorem cell_gd (hp : ∀ a ∈ parts s, a < Ms.length) (hf : fitS s sh) (hq : shapeOf s sh = some made) (hi : i < made.1) (hj : j < made.2) (hM : ∀ a ∈ parts s, Gd d b (shp sh a) (mt Ms a)) (hz : ∀ a ∈ parts s, (shp sh a).1 ≤ m) (hm : 2 ≤ m) (h0 : 0 < d) (hd : d < 2 ^ b) (hns : ¬ ∃ a, s = .star a) : FrO (d * d) (2 * b + (m - 1)) (cellMade s sh Ms i j) ∧ NnO (cellMade s sh Ms i j) := by
  have up : d * 2 ^ b ≤ 2 ^ (2 * b + (m - 1)) := by
    refine Nat.le_trans (Nat.mul_le_mul_right _ (Nat.le_of_lt hd)) ?_
    rw [pow_add']
    exact pow_le (by omega)
  have up1 : d * 2 ^ (b + 1) ≤ 2 ^ (2 * b + (m - 1)) := by
    refine Nat.le_trans (Nat.mul_le_mul_right _ (Nat.le_of_lt hd)) ?_
    rw [pow_add']
    exact pow_le (by omega)
  have srcs : isSrc s = true → cellMade s sh Ms i j = at2 (mt Ms (src s sh i j).1) (src s sh i j).2.1 (src s sh i j).2.2 → FrO (d * d) (2 * b + (m - 1)) (cellMade s sh Ms i j) ∧ NnO (cellMade s sh Ms i j) := fun hs e => by
    obtain ⟨q1, _, _⟩ := src_in hs hf hq hi hj
    rw [e]
    exact ⟨fro_up ((hM _ q1).f _ _) up h0, fun q e => (hM _ q1).n _ _ q e⟩
  cases s with
  | star a => exact absurd ⟨a, rfl⟩ hns
  | plus a c =>
    have ha : a ∈ parts (.plus a c) := by simp [parts]
    have hc : c ∈ parts (.plus a c) := by simp [parts]
    have h1 := fro_add ((hM a ha).f i j) ((hM c hc).f i j)
    rw [Nat.max_self] at h1
    exact ⟨fro_up h1 up1 h0, nno_add (fun q e => (hM a ha).n i j q e) (fun q e => (hM c hc).n i j q e)⟩
  | times a c =>
    have ha : a ∈ parts (.times a c) := by simp [parts]
    have hc : c ∈ parts (.times a c) := by simp [parts]
    have hl := (hM c hc).s.1
    have hzc := hz c hc
    refine ⟨fro_mono (cpart_fr (hM a ha).f (hM c hc).f _) ?_, cpart_nn (hM a ha).n (hM c hc).n _⟩
    rw [hl]
    omega
  | turned a => exact srcs rfl rfl
  | beside a c => exact srcs rfl rfl
  | above a c => exact srcs rfl rfl
  | piece a i0 j0 r c => exact srcs rfl rfl
theorem rows_ok (hp : ∀ a ∈ parts s, a < Ms.length) (hps : ∀ a ∈ parts s, a < sh.length) (hf : fitS s sh) (hq : shapeOf s sh = some made) (h1 : made.1 ≤ 4) (h2 : made.2 ≤ 4) (hM : ∀ a ∈ parts s, Gd d b (shp sh a) (mt Ms a)) (hz : ∀ a ∈ parts s, (shp sh a).1 ≤ 4) (h0 : 0 < d) (hd : d < 2 ^ b) (hb : 2 * b + 4 ≤ 4000) (hns : ¬ ∃ a, s = .star a) : RowsOk s sh made Ms := by
  have key : made.1 ≤ 100 ∧ made.2 ≤ 100 ∧ ∀ i j, i < made.1 → j < made.2 → CellsOk s sh Ms i j := ⟨by omega, by omega, fun i j hi hj => cells_ok hp hps hf hq hi hj hM hz h0 hd hb hns⟩
  cases s <;> first | (exact absurd ⟨_, rfl⟩ hns) | exact key
theorem rows_gd (hp : ∀ a ∈ parts s, a < Ms.length) (hf : fitS s sh) (hq : shapeOf s sh = some made) (hM : ∀ a ∈ parts s, Gd d b (shp sh a) (mt Ms a)) (hz : ∀ a ∈ parts s, (shp sh a).1 ≤ m) (hm : 2 ≤ m) (h0 : 0 < d) (hd : d < 2 ^ b) (hns : ¬ ∃ a, s = .star a) : Gd (d * d) (2 * b + (m - 1)) made (rowsMade s sh made Ms) := by
  rw [rows_tab hns]
  exact tab_gd fun i j hi hj => cell_gd hp hf hq hi hj hM hz hm h0 hd hns
end
/-- a star -/
theorem star_gd {d b n : Nat} {A : Mat} (h : Gd d b (n, n) A) (h3 : n ≤ 3) (h0 : 0 < d) (hd : d < 2 ^ b) (hb : 8 * b + 7 ≤ 2000) (hb2 : 16 * b + 14 ≤ 4000) : StarOk A ∧ IsStar n A (kstar A) ∧ ∃ e, 0 < e ∧ e * 2 ^ b ≤ 2 ^ (8 * b + 7) ∧ Gd (d * e) (8 * b + 7) (n, n) (kstar A) := by
  have hq : Sq n A := h.s
  obtain ⟨h1, e, e0, eb, hM⟩ := star_mf hq h3 h.f h.n h0 hd hb
  have hde : d * e < 2 ^ (8 * b + 7) := by
    refine Nat.lt_of_lt_of_le ?_ eb
    rw [Nat.mul_comm]
    exact Nat.mul_lt_mul_of_pos_left hd e0
  exact ⟨h1, is_star hq h3 h.n h.f h0 hd hb2 hM (Nat.mul_pos h0 e0) hde (by omega), e, e0, eb, ⟨sq_star hq, nn_star hq h.n, hM⟩⟩
/-! ### the values -/
theorem fr_val {p q : Nat} (p4 : p ≤ 4) (q1 : 1 ≤ q) (q9 : q ≤ 9) : Fr 2520 14 (mkRat p q) := by
  have hdv : q * (2520 / q) = 2520 := by
    have : q = 1 ∨ q = 2 ∨ q = 3 ∨ q = 4 ∨ q = 5 ∨ q = 6 ∨ q = 7 ∨ q = 8 ∨ q = 9 := by omega
    rcases this with e | e | e | e | e | e | e | e | e <;> rw [e]
  have hq0 : (q : Rat) ≠ 0 := by
    intro z
    have : q = 0 := by exact_mod_cast z
    omega
  refine ⟨(p : Int) * ((2520 / q : Nat) : Int), ?_, ?_⟩
  · have h1 : mkRat (p : Int) q = ((p : Int) : Rat) / (q : Rat) := Rat.mkRat_eq_div _ _
    have h2 : ((2520 : Nat) : Rat) = (q : Rat) * ((2520 / q : Nat) : Rat) := by
      rw [← Rat.natCast_mul, hdv]
    rw [h1, h2, Rat.intCast_mul, Rat.intCast_natCast, Rat.intCast_natCast]
    grind
  · rw [Int.natAbs_mul, Int.natAbs_natCast, Int.natAbs_natCast]
    have h3 : 2520 / q ≤ 2520 := Nat.div_le_self _ _
    have h4 := Nat.mul_le_mul p4 h3
    refine Nat.lt_of_le_of_lt h4 ?_
    decide
theorem val_nn {p q : Nat} : (0 : Rat) ≤ mkRat p q := by
  have h1 : mkRat (p : Int) q = ((p : Int) : Rat) / (q : Rat) := Rat.mkRat_eq_div _ _
  rw [h1, Rat.div_def, Rat.intCast_natCast]
  refine Rat.mul_nonneg Rat.natCast_nonneg ?_
  by_cases h : q = 0
  · subst h
    decide +kernel
  · have h2 : (0 : Rat) < (q : Rat) := by exact_mod_cast (show 0 < q by omega)
    exact Rat.le_of_lt (Rat.inv_pos.mpr h2)
theorem val_pos {p q : Nat} (p1 : 1 ≤ p) (q1 : 1 ≤ q) : (0 : Rat) < mkRat p q := by
  have h1 : mkRat (p : Int) q = ((p : Int) : Rat) / (q : Rat) := Rat.mkRat_eq_div _ _
  rw [h1, Rat.div_def, Rat.intCast_natCast]
  refine Rat.mul_pos ?_ (Rat.inv_pos.mpr ?_)
  · exact_mod_cast p1
  · exact_mod_cast q1
theorem vok_fr {c : Cl} {x : Rat} (h : VOk c x) : Fr 2520 14 x ∧ 0 ≤ x := by
  by_cases hc : c = none
  · rw [h.1 hc]
    exact ⟨fr_zero, Rat.le_refl⟩
  · obtain ⟨p, q, p1, p4, q1, q9, e⟩ := h.2 hc
    rw [e]
    exact ⟨fr_val p4 q1 q9, val_nn⟩
theorem encV_gd {nb n : Nat} {rows : List (List Cl)} {v : List (List Rat)} (hs : SqCl nb n rows) (h : VsOk rows v) : Gd 2520 14 (n, n) (encV v) := by
  have hvl : v.length = n := by rw [h.1, hs.l]
  have row : ∀ (i : Nat) (r : List Rat), v[i]? = some r → r.length = n ∧ ∀ x ∈ r, Fr 2520 14 x ∧ 0 ≤ x := fun i r hr => by
    have hi : i < rows.length := by
      have := (List.getElem?_eq_some_iff.mp hr).1
      rw [h.1] at this
      exact this
    have hrow := h.2 i rows[i] r (List.getElem?_eq_getElem hi) hr
    have hrl := hs.r rows[i] (List.getElem_mem _)
    refine ⟨by rw [hrow.1, hrl], fun x hx => ?_⟩
    obtain ⟨k, hk⟩ := List.mem_iff_getElem?.mp hx
    have hkl : k < rows[i].length := by
      have := (List.getElem?_eq_some_iff.mp hk).1
      rw [hrow.1] at this
      exact this
    exact vok_fr (hrow.2 k rows[i][k] x (List.getElem?_eq_getElem hkl) hk)
  have cell : ∀ i j, at2 (encV v) i j = some 0 ∨ ∃ q, at2 (encV v) i j = some q ∧ Fr 2520 14 q ∧ 0 ≤ q := fun i j => by
    unfold at2 encV
    cases hr : v[i]? with
    | none => left; simp [List.getD, hr]
    | some r =>
      have e : (v.map fun r => r.map some).getD i [] = r.map some := by simp [List.getD, hr]
      rw [e]
      cases hx : r[j]? with
      | none => left; simp [List.getD, hx]
      | some x =>
        right
        exact ⟨x, by simp [List.getD, hx], (row i r hr).2 x (List.mem_of_getElem? hx)⟩
  refine ⟨⟨by simp [encV, hvl], fun r hr => ?_⟩, fun i j q e => ?_, fun i j => ?_⟩
  · obtain ⟨q, hq, e⟩ := List.mem_map.mp hr
    obtain ⟨i, hi⟩ := List.mem_iff_getElem?.mp hq
    rw [← e, List.length_map]
    exact (row i q hi).1
  · rcases cell i j with e2 | ⟨x, e2, h1, h2⟩
    · rw [e2] at e
      cases e
      exact Rat.le_refl
    · rw [e2] at e
      cases e
      exact h2
  · rcases cell i j with e2 | ⟨x, e2, h1, h2⟩
    · rw [e2]; exact fr_zero
    · rw [e2]; exact h1
end U
set_option maxHeartbeats 4000000
/-! Q3: the plain law of whole worlds. -/
namespace U
/-- a step that fits where it stands -/
structure FitK (ng : Nat) (sh : List Shp) (k : Nat) (s : Stp) : Prop where
  p : ∀ a ∈ parts s, a < ng + k
  f : fitS s sh
  q : shapeOf s sh = some (shp sh (ng + k))
theorem shp_app {sh : List Shp} {q : Shp} {a : Nat} (h : a < sh.length) : shp (sh ++ [q]) a = shp sh a := by
  simp [shp, List.getD, List.getElem?_append_left h]
theorem FitK.app {ng k : Nat} {sh : List Shp} {s : Stp} {q : Shp} (h : FitK ng sh k s) (hk : ng + k < sh.length) : FitK ng (sh ++ [q]) k s := by
  have hp : ∀ a ∈ parts s, a < sh.length := fun a ha => Nat.lt_trans (h.p a ha) hk
  have e : (sh ++ [q]).take sh.length = sh := by simp
  refine ⟨h.p, ?_, ?_⟩
  · rw [← fitS_take (m := sh.length) hp, e]
    exact h.f
  · rw [← shapeOf_take (m := sh.length) hp, e, shp_app hk]
    exact h.q
theorem WsOk.fit {ng n : Nat} {pre ws : List Stp} {sh : List Shp} (h : WsOk ng n pre ws sh) (hg : 1 ≤ ng) (hp : preOk ng pre) : ∀ k s, (stepsOf ng pre ws)[k]? = some s → FitK ng sh k s := fun k s hk => by
  have hl := h.l
  have hpl := hp.len
  unfold stepsOf at hk
  by_cases h1 : k < pre.length
  · have hk0 : k = 0 := by omega
    subst hk0
    rw [List.append_assoc, List.getElem?_append_left h1] at hk
    have s0 := h.q 0 (by omega)
    have s1 := h.q (ng - 1) (by omega)
    have s2 := h.q (ng + 0) (by omega)
    rcases hp with e | e | e | e
    · rw [e] at h1; cases h1
    · rw [e] at hk
      have es : Stp.times 0 (ng - 1) = s := by simpa using hk
      subst es
      refine ⟨fun a ha => ?_, trivial, ?_⟩
      · simp only [parts, List.mem_cons, List.not_mem_nil, or_false] at ha
        omega
      · simp only [shapeOf, s0, s1, s2, if_pos]
    · rw [e] at hk
      have es : Stp.plus 0 (ng - 1) = s := by simpa using hk
      subst es
      refine ⟨fun a ha => ?_, trivial, ?_⟩
      · simp only [parts, List.mem_cons, List.not_mem_nil, or_false] at ha
        omega
      · simp only [shapeOf, s0, s1, s2, if_pos]
    · rw [e] at hk
      have es : Stp.turned 0 = s := by simpa using hk
      subst es
      refine ⟨fun a ha => ?_, trivial, ?_⟩
      · simp only [parts, List.mem_cons, List.not_mem_nil, or_false] at ha
        omega
      · simp only [shapeOf, s0, s2]
  · by_cases h2 : k = pre.length
    · subst h2
      have es : Stp.star (ng + pre.length - 1) = s := by simpa using hk
      subst es
      have s1 := h.q (ng + pre.length - 1) (by omega)
      have s2 := h.q (ng + pre.length) (by omega)
      refine ⟨fun a ha => ?_, trivial, ?_⟩
      · simp only [parts, List.mem_cons, List.not_mem_nil, or_false] at ha
        omega
      · simp only [shapeOf, s1, s2, if_pos]
    · have hk2 : ws[k - pre.length - 1]? = some s := by
        rw [List.getElem?_append_right (by simp; omega)] at hk
        rw [show k - (pre ++ [Stp.star (ng + pre.length - 1)]).length = k - pre.length - 1 by simp; omega] at hk
        exact hk
      obtain ⟨h3, h4⟩ := h.w _ s hk2
      have hkl := (List.getElem?_eq_some_iff.mp hk2).1
      have ek : ng + pre.length + 1 + (k - pre.length - 1) = ng + k := by omega
      rw [ek] at h3 h4
      have hp2 : ∀ a ∈ parts s, a < ng + k := fun a ha => by
        have := h3.p a ha
        rw [List.length_take] at this
        omega
      exact ⟨hp2, (fitS_take hp2).mp h3.f, by rw [← shapeOf_take hp2]; exact h4⟩
section
variable {vs : List (List (List Rat))} {sh : List Shp} {steps : List Stp} {k : Nat} {s : Stp} {d b m n a : Nat}
abbrev Ek (vs : List (List (List Rat))) (sh : List Shp) (steps : List Stp) (k : Nat) : List BMat := evs vs.length sh steps (valsB vs) k
structure Inv (vs : List (List (List Rat))) (sh : List Shp) (steps : List Stp) (k d b : Nat) : Prop where
  d0 : 0 < d
  db : d < 2 ^ b
  g : ∀ a, a < vs.length + k → Gd d b (shp sh a) (mt (Ek vs sh steps k) a)
theorem Inv.mono {c : Nat} (h : Inv vs sh steps k d b) (hc : b ≤ c) : Inv vs sh steps k d c := ⟨h.d0, Nat.lt_of_lt_of_le h.db (pow_le hc), fun a ha => (h.g a ha).mono hc⟩
/-- what is said of one step -/
structure StepC (vs : List (List (List Rat))) (sh : List Shp) (steps : List Stp) (k : Nat) (s : Stp) : Prop where
  rows : RowsOk s sh (shp sh (vs.length + k)) (Ek vs sh steps k)
  star : ∀ a, s = .star a → ∃ m, m ≤ 100 ∧ IsStar m (mt (Ek vs sh steps k) a) (mt (Ek vs sh steps (k + 1)) (vs.length + k))
  cell : (¬ ∃ a, s = .star a) → ∃ d b, 0 < d ∧ d < 2 ^ b ∧ 2 * b + 4 ≤ 4000 ∧ ∀ a ∈ parts s, Gd d b (shp sh a) (mt (Ek vs sh steps k) a)
theorem ek_len (hk : k ≤ steps.length) : (Ek vs sh steps k).length = vs.length + k := evs_len (by simp) k hk
theorem ek_new (hs : steps[k]? = some s) : mt (Ek vs sh steps (k + 1)) (vs.length + k) = rowsMade s sh (shp sh (vs.length + k)) (Ek vs sh steps k) := by
  have hk := (List.getElem?_eq_some_iff.mp hs).1
  have hl : (evs vs.length sh steps (valsB vs) k).length = vs.length + k := ek_len (vs := vs) (sh := sh) (steps := steps) (k := k) (by omega)
  show mt (evs vs.length sh steps (valsB vs) (k + 1)) _ = _
  rw [evs_succ hs]
  simp only [mt, List.getD]
  rw [List.getElem?_append_right (by omega), hl, Nat.sub_self]
  rfl
theorem ek_old (hk : k + 1 ≤ steps.length) (ha : a < vs.length + k) : mt (Ek vs sh steps (k + 1)) a = mt (Ek vs sh steps k) a := evs_pre (by simp) 1 k hk ha
theorem ek_mtx (hk : k ≤ steps.length) (ha : a < vs.length + k) : mt (Ek vs sh steps k) a = mtx vs sh steps a := by
  have := evs_pre (ng := vs.length) (sh := sh) (steps := steps) (vals := valsB vs) (by simp) (a := a) (steps.length - k) k (by omega) ha
  rw [show k + (steps.length - k) = steps.length by omega] at this
  exact this.symm
theorem step_ns (h : Inv vs sh steps k d b) (hs : steps[k]? = some s) (hns : ¬ ∃ a, s = .star a) (hf : FitK vs.length sh k s) (hsl : sh.length = vs.length + steps.length) (hz : ∀ a ∈ parts s, (shp sh a).1 ≤ m) (hm : 2 ≤ m) (hm4 : m ≤ 4) (h1 : (shp sh (vs.length + k)).1 ≤ 4) (h2 : (shp sh (vs.length + k)).2 ≤ 4) (hb : 2 * b + 4 ≤ 4000) :
    StepC vs sh steps k s ∧ Inv vs sh steps (k + 1) (d * d) (2 * b + (m - 1)) := by
  have hk := (List.getElem?_eq_some_iff.mp hs).1
  have hl := ek_len (vs := vs) (sh := sh) (steps := steps) (k := k) (by omega)
  have hp : ∀ a ∈ parts s, a < (Ek vs sh steps k).length := fun a ha => by rw [hl]; exact hf.p a ha
  have hM : ∀ a ∈ parts s, Gd d b (shp sh a) (mt (Ek vs sh steps k) a) := fun a ha => h.g a (hf.p a ha)
  have dd : d * d < 2 ^ (2 * b) := by
    rw [show 2 * b = b + b by omega]
    exact mul_lt_pow h.db h.db
  refine ⟨⟨rows_ok hp (fun a ha => by have := hf.p a ha; omega) hf.f hf.q h1 h2 hM (fun a ha => by have := hz a ha; omega) h.d0 h.db hb hns, fun a e => absurd ⟨a, e⟩ hns, fun _ => ⟨d, b, h.d0, h.db, hb, hM⟩⟩, Nat.mul_pos h.d0 h.d0, Nat.lt_of_lt_of_le dd (pow_le (by omega)), fun a ha => ?_⟩
  by_cases e : a = vs.length + k
  · subst e
    rw [ek_new hs]
    exact rows_gd hp hf.f hf.q hM hz hm h.d0 h.db hns
  · rw [ek_old (by omega) (by omega)]
    refine (h.g a (by omega)).up ?_ h.d0
    refine Nat.le_trans (Nat.mul_le_mul_right _ (Nat.le_of_lt h.db)) ?_
    rw [pow_add']
    exact pow_le (by omega)
/-- a star, from what is known of its grid alone -/
theorem step_st1 (hg : Gd d b (n, n) (mt (Ek vs sh steps k) a)) (hs : steps[k]? = some (.star a)) (ha : a < vs.length + k) (hq : shp sh (vs.length + k) = (n, n)) (h3 : n ≤ 3) (h0 : 0 < d) (hd : d < 2 ^ b) (hb : 8 * b + 7 ≤ 2000) (hb2 : 16 * b + 14 ≤ 4000) :
    StepC vs sh steps k (.star a) ∧ ∃ e, 0 < e ∧ e * 2 ^ b ≤ 2 ^ (8 * b + 7) ∧ Gd (d * e) (8 * b + 7) (n, n) (mt (Ek vs sh steps (k + 1)) (vs.length + k)) := by
  have hk := (List.getElem?_eq_some_iff.mp hs).1
  have hl := ek_len (vs := vs) (sh := sh) (steps := steps) (k := k) (by omega)
  obtain ⟨q1, q2, e, e0, eb, q3⟩ := star_gd hg h3 h0 hd hb hb2
  have en := ek_new (vs := vs) (sh := sh) hs
  have en2 : mt (Ek vs sh steps (k + 1)) (vs.length + k) = kstar (mt (Ek vs sh steps k) a) := en
  refine ⟨⟨⟨by rw [hl]; exact ha, n, by omega, hg.s, q1⟩, fun a' ea => ?_, fun hns => absurd ⟨a, rfl⟩ hns⟩, e, e0, eb, ?_⟩
  · cases ea
    exact ⟨n, by omega, by rw [en2]; exact q2⟩
  · rw [en2]
    exact q3
theorem step_st (h : Inv vs sh steps k d b) (hs : steps[k]? = some (.star a)) (ha : a < vs.length + k) (hqa : shp sh a = (n, n)) (hq : shp sh (vs.length + k) = (n, n)) (h3 : n ≤ 3) (hb : 8 * b + 7 ≤ 2000) (hb2 : 16 * b + 14 ≤ 4000) :
    StepC vs sh steps k (.star a) ∧ ∃ d', Inv vs sh steps (k + 1) d' (8 * b + 7) := by
  have hk := (List.getElem?_eq_some_iff.mp hs).1
  have hg := h.g a ha
  rw [hqa] at hg
  obtain ⟨q1, e, e0, eb, q2⟩ := step_st1 hg hs ha hq h3 h.d0 h.db hb hb2
  refine ⟨q1, d * e, Nat.mul_pos h.d0 e0, ?_, fun c hc => ?_⟩
  · refine Nat.lt_of_lt_of_le ?_ eb
    rw [Nat.mul_comm]
    exact Nat.mul_lt_mul_of_pos_left h.db e0
  · by_cases ec : c = vs.length + k
    · subst ec
      rw [hq]
      exact q2
    · rw [ek_old (by omega) (by omega)]
      exact (h.g c (by omega)).up eb e0
end
/-- the end of a walk through all steps -/
structure AllC (vs : List (List (List Rat))) (sh : List Shp) (steps : List Stp) : Prop where
  c : ∀ k s, steps[k]? = some s → StepC vs sh steps k s
  g : ∀ a, a < vs.length + steps.length → ∃ d b, 0 < d ∧ d < 2 ^ b ∧ b ≤ 4000 ∧ Gd d b (shp sh a) (mtx vs sh steps a)
def bw : Nat → Nat
  | 0 => 247
  | j + 1 => 2 * bw j + 3
theorem all_c {nb n : Nat} {gc : List (List (List Cl))} {pre ws : List Stp} {sh0 : List Shp} {steps : List Stp} {sh : List Shp} {vs : List (List (List Rat))} (hw : StarredOk nb n gc pre ws sh0) (hF : FinOk gc.length n pre ws sh0 steps sh) (hv : ValsAll gc vs) :
    AllC vs sh steps ∧ sh.length = vs.length + steps.length ∧ (∀ k s, steps[k]? = some s → FitK vs.length sh k s) ∧ (∀ a, a < sh.length → 1 ≤ (shp sh a).1 ∧ (shp sh a).1 ≤ 4 ∧ 1 ≤ (shp sh a).2 ∧ (shp sh a).2 ≤ 4) ∧ steps.length ≤ 16 := by
  have hvl := hv.1
  have hs := hw.s
  have hsl := hs.l
  have hpl := hw.p.len
  have hg1 := hw.g1
  have hg2 := hw.g2
  have hn1 := hw.n1
  have hn3 := hw.n3
  have hs2 := hw.s2
  have sl0 : (stepsOf gc.length pre ws).length = pre.length + 1 + ws.length := by simp [stepsOf]; omega
  -- the prefix of all
  have fin : ∃ xt : List Stp, steps = stepsOf gc.length pre ws ++ xt ∧ (xt = [] ∨ xt = [.star (gc.length + pre.length)]) ∧ sh.length = gc.length + steps.length ∧ (∀ a, a < sh0.length → shp sh a = shp sh0 a) ∧ (xt ≠ [] → shp sh sh0.length = (n, n)) := by
    rcases hF with ⟨e1, e2⟩ | ⟨e1, e2⟩
    · exact ⟨[], by rw [e1, List.append_nil], .inl rfl, by rw [e1, e2, sl0, hsl]; omega, fun a _ => by rw [e2], fun z => absurd rfl z⟩
    · refine ⟨[.star (gc.length + pre.length)], e1, .inr rfl, by rw [e1, e2]; simp [stepsOf]; omega, fun a ha => by rw [e2, shp_app ha], fun _ => by rw [e2]; simp [shp, List.getD]⟩
  obtain ⟨xt, est, hxt, hshl, hsh, hshx⟩ := fin
  have old : ∀ k, k < (stepsOf gc.length pre ws).length → steps[k]? = (stepsOf gc.length pre ws)[k]? := fun k hk => by rw [est, List.getElem?_append_left hk]
  have stl : steps.length = pre.length + 1 + ws.length + xt.length := by rw [est, List.length_append, sl0]
  have hxl : xt.length ≤ 1 := by rcases hxt with e | e <;> rw [e] <;> simp
  have hfit : ∀ k s, steps[k]? = some s → FitK vs.length sh k s := fun k s hk => by
    rw [hvl]
    rcases hF with ⟨e1, e2⟩ | ⟨e1, e2⟩
    · rw [e2]
      rw [e1] at hk
      exact hs.fit hg1 hw.p k s hk
    · rw [e2]
      rw [e1] at hk
      by_cases hlt : k < (stepsOf gc.length pre ws).length
      · rw [List.getElem?_append_left hlt] at hk
        exact (hs.fit hg1 hw.p k s hk).app (by omega)
      · have ek : k = (stepsOf gc.length pre ws).length := by
          have := (List.getElem?_eq_some_iff.mp hk).1
          simp only [List.length_append, List.length_cons, List.length_nil] at this hlt
          simp only [List.length_append, List.length_cons, List.length_nil]
          omega
        subst ek
        have es : Stp.star (gc.length + pre.length) = s := by
          rw [List.getElem?_append_right (Nat.le_refl _), Nat.sub_self] at hk
          simpa using hk
        subst es
        have s1 : shp (sh0 ++ [(n, n)]) (gc.length + pre.length) = (n, n) := by rw [shp_app (by omega)]; exact hs.q _ (by omega)
        have s2 : shp (sh0 ++ [(n, n)]) (gc.length + (stepsOf gc.length pre ws).length) = (n, n) := by
          rw [show gc.length + (stepsOf gc.length pre ws).length = sh0.length by omega]
          simp [shp, List.getD]
        refine ⟨fun a ha => ?_, trivial, ?_⟩
        · simp only [parts, List.mem_cons, List.not_mem_nil, or_false] at ha
          omega
        · simp only [shapeOf, s1, s2, if_pos]
  have hdim : ∀ a, a < sh.length → 1 ≤ (shp sh a).1 ∧ (shp sh a).1 ≤ 4 ∧ 1 ≤ (shp sh a).2 ∧ (shp sh a).2 ≤ 4 := fun a ha => by
    by_cases h : a < sh0.length
    · rw [hsh a h, show shp sh0 a = sh0[a] by simp [shp, List.getD, h]]
      exact hs.o _ (List.getElem_mem _)
    · have hne : xt ≠ [] := fun z => by rw [z] at stl; simp at stl; omega
      rw [show a = sh0.length by omega, hshx hne]
      exact ⟨hn1, by simp only; omega, hn1, by simp only; omega⟩
  refine ⟨?_, by omega, hfit, hdim, by omega⟩
  have hlen : sh.length = vs.length + steps.length := by omega
  have sq : ∀ a, a < gc.length + pre.length + 1 → shp sh a = (n, n) := fun a ha => by rw [hsh a (by omega)]; exact hs.q a ha
  have dim4 : ∀ k s, steps[k]? = some s → (∀ a ∈ parts s, (shp sh a).1 ≤ 4) ∧ (shp sh (vs.length + k)).1 ≤ 4 ∧ (shp sh (vs.length + k)).2 ≤ 4 := fun k s hk => by
    have hkl := (List.getElem?_eq_some_iff.mp hk).1
    exact ⟨fun a ha => (hdim a (by have := (hfit k s hk).p a ha; omega)).2.1, (hdim _ (by omega)).2.1, (hdim _ (by omega)).2.2.2⟩
  -- the values
  have i0 : Inv vs sh steps 0 2520 14 := ⟨by decide, by decide, fun a ha => by
    have hag : a < gc.length := by omega
    rw [sq a (by omega)]
    have e : mt (Ek vs sh steps 0) a = encV vs[a] := by
      show mt (valsB vs) a = _
      simp [mt, List.getD, show a < vs.length by omega]
    rw [e]
    exact encV_gd (hw.c gc[a] (List.getElem_mem _)) (hv.2 a gc[a] vs[a] (List.getElem?_eq_getElem hag) (List.getElem?_eq_getElem (by omega)))⟩
  -- the step ahead of the star
  have i1 : (∀ k s, k < pre.length → steps[k]? = some s → StepC vs sh steps k s) ∧ ∃ d, Inv vs sh steps pre.length d 30 := by
    by_cases hp0 : pre.length = 0
    · rw [hp0]
      exact ⟨fun k s hk => absurd hk (Nat.not_lt_zero k), 2520, i0.mono (by decide)⟩
    · have hp1 : pre.length = 1 := by omega
      have h0 : steps[0]? = some pre[0] := by
        rw [old 0 (by omega)]
        simp [stepsOf, List.getElem?_append_left (show 0 < pre.length by omega)]
      have hns : ¬ ∃ a, pre[0] = Stp.star a := by
        rintro ⟨a, ea⟩
        have hm : pre[0] ∈ pre := List.getElem_mem _
        rw [ea] at hm
        rcases hw.p with e | e | e | e <;> rw [e] at hm <;> simp at hm
      have hz : ∀ a ∈ parts pre[0], (shp sh a).1 ≤ 3 := fun a ha => by
        have := (hfit 0 _ h0).p a ha
        rw [sq a (by omega)]
        exact hn3
      obtain ⟨c1, c2⟩ := step_ns (m := 3) i0 h0 hns (hfit 0 _ h0) hlen hz (by decide) (by decide) (dim4 0 _ h0).2.1 (dim4 0 _ h0).2.2 (by decide)
      refine ⟨fun k s hk hks => ?_, 2520 * 2520, by rw [hp1]; exact c2⟩
      have hk0 : k = 0 := by omega
      subst hk0
      rw [h0] at hks
      cases hks
      exact c1
  obtain ⟨c1, d1, i1⟩ := i1
  -- the star
  have hstar : steps[pre.length]? = some (.star (gc.length + pre.length - 1)) := by
    rw [old pre.length (by omega)]
    simp [stepsOf]
  obtain ⟨c2, d2, i2⟩ := step_st (n := n) i1 hstar (by omega) (sq _ (by omega)) (sq _ (by omega)) hn3 (by decide) (by decide)
  -- the words
  have i3 : ∀ j, j ≤ ws.length → (∀ k s, k < pre.length + 1 + j → steps[k]? = some s → StepC vs sh steps k s) ∧ ∃ d, Inv vs sh steps (pre.length + 1 + j) d (bw j) := fun j => by
    induction j with
    | zero =>
      intro _
      refine ⟨fun k s hk hks => ?_, d2, i2⟩
      by_cases e : k = pre.length
      · subst e
        rw [hstar] at hks
        cases hks
        exact c2
      · exact c1 k s (by omega) hks
    | succ j ih =>
      intro hj
      obtain ⟨c3, d, i3⟩ := ih (by omega)
      have hjl : j < ws.length := by omega
      have hk : steps[pre.length + 1 + j]? = some ws[j] := by
        rw [old _ (by omega)]
        unfold stepsOf
        rw [List.getElem?_append_right (by simp), show pre.length + 1 + j - (pre ++ [Stp.star (gc.length + pre.length - 1)]).length = j by simp]
        exact List.getElem?_eq_getElem hjl
      have hns : ¬ ∃ a, ws[j] = Stp.star a := by
        rintro ⟨a, ea⟩
        have := (hs.w j ws[j] (List.getElem?_eq_getElem hjl)).1.n
        rw [ea] at this
        cases this
      have hbj : bw j ≤ 500 := by
        have : j = 0 ∨ j = 1 := by omega
        rcases this with e | e <;> rw [e] <;> decide
      obtain ⟨q1, q2, q3⟩ := dim4 _ _ hk
      obtain ⟨c4, c5⟩ := step_ns (m := 4) i3 hk hns (hfit _ _ hk) hlen q1 (by decide) (by decide) q2 q3 (by omega)
      refine ⟨fun k s hks hk2 => ?_, d * d, c5⟩
      by_cases e : k = pre.length + 1 + j
      · subst e
        rw [hk] at hk2
        cases hk2
        exact c4
      · exact c3 k s (by omega) hk2
  obtain ⟨c3, d3, i3⟩ := i3 ws.length (Nat.le_refl _)
  have hbw : bw ws.length ≤ 1000 := by
    have : ws.length = 0 ∨ ws.length = 1 ∨ ws.length = 2 := by omega
    rcases this with e | e | e <;> rw [e] <;> decide
  rcases hxt with e | e
  · have hel : steps.length = pre.length + 1 + ws.length := by rw [stl, e]; simp
    refine ⟨fun k s hk => c3 k s (by have := (List.getElem?_eq_some_iff.mp hk).1; omega) hk, fun a ha => ⟨d3, bw ws.length, i3.d0, i3.db, by omega, ?_⟩⟩
    rw [← ek_mtx (k := pre.length + 1 + ws.length) (by omega) (by omega)]
    exact i3.g a (by omega)
  · have hel : steps.length = pre.length + 1 + ws.length + 1 := by rw [stl, e]; simp
    have hx : steps[pre.length + 1 + ws.length]? = some (.star (gc.length + pre.length)) := by
      rw [est, List.getElem?_append_right (by omega), sl0, Nat.sub_self, e]
      rfl
    have hgA := i2.g (gc.length + pre.length) (by omega)
    rw [sq _ (by omega), ek_mtx (by omega) (by omega), ← ek_mtx (k := pre.length + 1 + ws.length) (by omega) (by omega)] at hgA
    have hqx : shp sh (vs.length + (pre.length + 1 + ws.length)) = (n, n) := by
      rw [show vs.length + (pre.length + 1 + ws.length) = sh0.length by omega]
      exact hshx (by rw [e]; simp)
    obtain ⟨q1, ee, e0, eb, q2⟩ := step_st1 hgA hx (by omega) hqx hn3 i2.d0 i2.db (by decide) (by decide)
    refine ⟨fun k s hk => ?_, fun a ha => ?_⟩
    · by_cases ek : k = pre.length + 1 + ws.length
      · subst ek
        rw [hx] at hk
        cases hk
        exact q1
      · exact c3 k s (by have := (List.getElem?_eq_some_iff.mp hk).1; omega) hk
    · by_cases ea : a = vs.length + (pre.length + 1 + ws.length)
      · subst ea
        rw [ek_mtx (by omega) (by omega)] at q2
        refine ⟨d2 * ee, 1983, Nat.mul_pos i2.d0 e0, ?_, by decide, by rw [hqx]; exact q2⟩
        refine Nat.lt_of_lt_of_le ?_ eb
        rw [Nat.mul_comm]
        exact Nat.mul_lt_mul_of_pos_left i2.db e0
      · refine ⟨d3, bw ws.length, i3.d0, i3.db, by omega, ?_⟩
        rw [← ek_mtx (k := pre.length + 1 + ws.length) (by omega) (by omega)]
        exact i3.g a (by omega)
end U
set_option maxHeartbeats 4000000
/-! Q4: what the law's walk asks, of every world. -/
namespace U
theorem out_ok {d b : Nat} {p : Shp} {M : Mat} (h : Gd d b p M) (h1 : p.1 ≤ 4) (h2 : p.2 ≤ 4) (h0 : 0 < d) (hd : d < 2 ^ b) (hb : b ≤ 4000) : OutOk M p := by
  refine ⟨h.s.1, h.s.2, by omega, by omega, fun row hr x hx => ?_, fun row hr q hq => ?_⟩
  · obtain ⟨i, j, e⟩ := mem_at2 hr hx
    rw [← e]
    exact fro_sm (h.f i j) h0 hd hb
  · obtain ⟨i, j, e⟩ := mem_at2 hr hq
    exact h.n i j q e
theorem mt_tld {vs : List (List (List Rat))} {sh : List Shp} {steps : List Stp} {n a : Nat} (h : a < n) : mt (tld vs sh steps n) a = mtx vs sh steps a := by
  simp [mt, tld, List.getD, h]
theorem cellMade_congr {s : Stp} {sh : List Shp} {Ms Ms' : List BMat} {i j : Nat} (h : ∀ a ∈ parts s, mt Ms a = mt Ms' a) (hs : isSrc s = true → (src s sh i j).1 ∈ parts s) (hns : ¬ ∃ a, s = .star a) : cellMade s sh Ms i j = cellMade s sh Ms' i j := by
  cases s with
  | star a => exact absurd ⟨a, rfl⟩ hns
  | plus a b =>
    show oadd _ _ = oadd _ _
    rw [h a (by simp [parts]), h b (by simp [parts])]
  | times a b =>
    show cprod _ _ _ _ = cprod _ _ _ _
    rw [h a (by simp [parts]), h b (by simp [parts])]
  | turned a => show at2 _ _ _ = at2 _ _ _; rw [h _ (hs rfl)]
  | beside a b => show at2 _ _ _ = at2 _ _ _; rw [h _ (hs rfl)]
  | above a b => show at2 _ _ _ = at2 _ _ _; rw [h _ (hs rfl)]
  | piece a i0 j0 r c => show at2 _ _ _ = at2 _ _ _; rw [h _ (hs rfl)]
theorem law_all : LawAll := fun nb n gc pre ws sh0 steps sh vs hw hF hv => by
  obtain ⟨⟨hc, hg⟩, hl, hfit, hdim, hs16⟩ := all_c hw hF hv
  have hvl := hv.1
  have hg1 := hw.g1
  have hg2 := hw.g2
  have hn1 := hw.n1
  have hn3 := hw.n3
  have hs := hw.s
  have sq : ∀ a, a < gc.length → shp sh a = (n, n) := fun a ha => by
    have h0 : shp sh0 a = (n, n) := hs.q a (by omega)
    have hl0 := hs.l
    rcases hF with ⟨_, e2⟩ | ⟨_, e2⟩
    · rw [e2, h0]
    · rw [e2, shp_app (by omega), h0]
  have hgs : sh.take gc.length = (gc.map (grdOf nb)).map grdSh := by
    apply List.ext_getElem?
    intro i
    by_cases hi : i < gc.length
    · have hm := hw.c gc[i] (List.getElem_mem _)
      have e1 : grdSh (grdOf nb gc[i]) = (n, n) := by
        have hr0 : 0 < (gc[i]).length := by rw [hm.l]; exact hn1
        have e2 : (grdOf nb gc[i]).rows.getD 0 [] = ((gc[i])[0]'hr0).map unitC := by simp [grdOf, List.getD, hr0]
        unfold grdSh
        rw [e2]
        simp [grdOf, hm.l, hm.r _ (List.getElem_mem _)]
      have hish : i < sh.length := by omega
      rw [List.getElem?_take, if_pos hi, List.getElem?_map, List.getElem?_map, List.getElem?_eq_getElem hi, List.getElem?_eq_getElem hish]
      show some sh[i] = some (grdSh (grdOf nb gc[i]))
      rw [e1, ← sq i hi]
      simp [shp, List.getD, hish]
    · rw [List.getElem?_eq_none (by rw [List.length_take]; omega), List.getElem?_eq_none (by simp; omega)]
  have rowsL : ∀ g ∈ gc.map (grdOf nb), g.rows.length = n ∧ ∀ r ∈ g.rows, r.length = n := fun g hg => by
    obtain ⟨rows, hr, e⟩ := List.mem_map.mp hg
    have hm := hw.c rows hr
    rw [← e]
    refine ⟨by simp [grdOf, hm.l], fun r hr => ?_⟩
    obtain ⟨q, hq, e⟩ := List.mem_map.mp hr
    rw [← e, List.length_map, hm.r q hq]
  have hall : ShAll (gc.map (grdOf nb)) steps sh := by
    refine ⟨by rw [List.length_map]; omega, by rw [List.length_map]; exact hgs, fun g hg => by rw [(rowsL g hg).1]; exact hn1, fun k s hk a ha => ?_, fun k s hk => (hfit k s hk).f, fun k s hk => ?_⟩
    · have := (hfit k s hk).p a ha
      rw [List.length_map]
      omega
    · have h1 := (hfit k s hk).q
      have hkl := (List.getElem?_eq_some_iff.mp hk).1
      have h2 := hdim (vs.length + k) (by omega)
      rw [List.length_map, ← hvl]
      exact ⟨h1, by omega, by omega⟩
  have hmat : ∀ k, k ≤ steps.length → ∀ a, a < vs.length + k → mt (Ek vs sh steps k) a = mtx vs sh steps a := fun k hk a ha => ek_mtx hk ha
  refine ⟨⟨by rw [List.length_map]; exact hg1, by rw [List.length_map]; omega, ⟨nb, fun g hg => ?_⟩, fun g hg => ⟨by rw [(rowsL g hg).1]; omega, n, by omega, (rowsL g hg).2⟩, hs16, hall⟩, ?_, fun m hm => ?_, fun m hm => ?_, fun k a hk => ?_, fun k s hk hns => ?_⟩
  · obtain ⟨rows, _, e⟩ := List.mem_map.mp hg
    rw [← e]
    rfl
  · refine ⟨by rw [List.length_map]; exact hvl.symm, by omega, fun i g v hgi hvi => ?_⟩
    rw [List.getElem?_map] at hgi
    cases hr : gc[i]? with
    | none => rw [hr] at hgi; cases hgi
    | some rows =>
      rw [hr] at hgi
      have eg : grdOf nb rows = g := Option.some.inj hgi
      subst eg
      have hm := hw.c rows (List.mem_of_getElem? hr)
      have hV := hv.2 i rows v hr hvi
      have hvn : v.length = n := by rw [hV.1, hm.l]
      refine ⟨by omega, fun z => ?_, by simp [grdOf, hV.1], ⟨n, by omega, (rowsL _ (List.mem_map.mpr ⟨rows, List.mem_of_getElem? hr, rfl⟩)).2, fun r hr' => ?_⟩, fun i' j r s c q h1 h2 h3 h4 => ?_⟩
      · rw [z] at hvn
        simp at hvn
        omega
      · obtain ⟨k, hk⟩ := List.mem_iff_getElem?.mp hr'
        have hkl : k < rows.length := by
          have := (List.getElem?_eq_some_iff.mp hk).1
          rw [hV.1] at this
          exact this
        rw [(hV.2 k rows[k] r (List.getElem?_eq_getElem hkl) hk).1, hm.r _ (List.getElem_mem _)]
      · have h1' : (rows.map fun r => r.map unitC)[i']? = some r := h1
        rw [List.getElem?_map] at h1'
        cases hrr : rows[i']? with
        | none => rw [hrr] at h1'; cases h1'
        | some rw_ =>
          rw [hrr] at h1'
          have er : rw_.map unitC = r := Option.some.inj h1'
          subst er
          rw [List.getElem?_map] at h3
          cases hcl : rw_[j]? with
          | none => rw [hcl] at h3; cases h3
          | some cl =>
            rw [hcl] at h3
            have ec : unitC cl = c := Option.some.inj h3
            subst ec
            have hvo := (hV.2 i' rw_ s hrr h2).2 j cl q hcl h4
            refine ⟨(vok_fr hvo).2, fun z => ?_, fun z => ?_⟩
            · refine hvo.1 ?_
              cases cl with
              | none => rfl
              | some xs => cases z
            · have hne : cl ≠ none := fun e => z (by rw [e]; rfl)
              obtain ⟨p, q', p1, _, q1, _, e⟩ := hvo.2 hne
              rw [e]
              exact val_pos p1 q1
  · intro k s hk _
    have hvv : (valsB vs).length = vs.length := by simp
    rw [hvv]
    exact (hc k s hk).rows
  · obtain ⟨d, b, d0, db, b4, g⟩ := hg m (by omega)
    have h2 := hdim m hm
    exact out_ok g h2.2.1 h2.2.2.2 d0 db b4
  · have hkl := (List.getElem?_eq_some_iff.mp hk).1
    have ha := (hfit k _ hk).p a (by simp [parts])
    obtain ⟨m, hm, hS⟩ := (hc k _ hk).star a rfl
    rw [hmat k (by omega) a ha, hmat (k + 1) (by omega) _ (by omega)] at hS
    exact ⟨ha, m, hm, hS⟩
  · have hkl := (List.getElem?_eq_some_iff.mp hk).1
    have hf := hfit k s hk
    obtain ⟨d, b, d0, db, hb, hG⟩ := (hc k s hk).cell hns
    have h2 := hdim (vs.length + k) (by omega)
    have hps : ∀ a ∈ parts s, a < sh.length := fun a ha => by have := hf.p a ha; omega
    have hMt : ∀ a ∈ parts s, Gd d b (shp sh a) (mt (tld vs sh steps (vs.length + k + 1)) a) := fun a ha => by
      have h3 := hf.p a ha
      rw [mt_tld (by omega), ← hmat k (by omega) a h3]
      exact hG a ha
    have hpl : ∀ a ∈ parts s, a < (tld vs sh steps (vs.length + k + 1)).length := fun a ha => by
      have := hf.p a ha
      simp [tld]
      omega
    refine ⟨by omega, by omega, ?_, ?_, fun i j hi hj => cells_ok hpl hps hf.f hf.q hi hj hMt (fun a ha => (hdim a (hps a ha)).2.1) d0 db hb hns⟩
    · rw [← hmat (k + 1) (by omega) _ (by omega), ek_new hk, rows_tab hns]
      unfold tab
      apply List.map_congr_left
      intro i hi
      apply List.map_congr_left
      intro j hj
      refine cellMade_congr (fun a ha => ?_) (fun h => (src_in h hf.f hf.q (List.mem_range.mp hi) (List.mem_range.mp hj)).1) hns
      have h3 := hf.p a ha
      rw [mt_tld (by omega), hmat k (by omega) a h3]
    · cases s with
      | times a b' =>
        have hb' : b' ∈ parts (.times a b') := by simp [parts]
        exact ⟨hps b' hb', (hMt b' hb').s.1.symm⟩
      | _ => trivial
end U
set_option maxHeartbeats 0
/-! R1: the join. -/
namespace UH
open PySem PySem.Spec PyProof.Rows L2 U
section
variable {P : Program} {w : World} {K : PySem.W.Frag} {h : Heap} {mg : Str → Option Value}
theorem ex_ok (c : He.SaysX fa fn ts [] ex w h K) : He.tupB K "NOUGHT" [.int 0, .int 1] = true ∧ He.valsB K (He.ga K "FORMS") kvF = true ∧ He.valsB K (He.ga K "PARTS") kvP = true ∧ PySem.W.findIn K (.ref (He.ga K "Grid")) "__class__" = some (some (.builtin "object.__class__")) ∧
    PySem.W.specialIn K (.builtin "object.__class__") "__get__" = some (some (.builtin "getset_descriptor.__get__")) ∧ PySem.W.takesIn K (.builtin "object.__class__") = some true ∧ PySem.W.mroIn K (He.ga K "Grid") (.type "object") = some true := by
  have e : ex K = true := c.more
  unfold ex at e
  obtain ⟨h1, e⟩ := He.ba e
  obtain ⟨h2, e⟩ := He.ba e
  obtain ⟨h3, e⟩ := He.ba e
  obtain ⟨h4, e⟩ := He.ba e
  obtain ⟨h5, e⟩ := He.ba e
  obtain ⟨h6, h7⟩ := He.ba e
  exact ⟨h1, h2, h3, He.eqO_ok h4, He.eqO_ok h5, of_decide_eq_true h6, of_decide_eq_true h7⟩
theorem tx (X : K.In h) (G : h.Ns mainGlobals mg) (c : He.SaysX fa fn ts [] ex w h K) : Tx K mg where
  len := He.free_ok X G (c.t.d.fact 0 (f := .free "len") rfl)
  abs := He.free_ok X G (c.t.d.fact 1 (f := .free "abs") rfl)
  all := He.free_ok X G (c.t.d.fact 2 (f := .free "all") rfl)
  any := He.free_ok X G (c.t.d.fact 3 (f := .free "any") rfl)
  isinstance := He.free_ok X G (c.t.d.fact 4 (f := .free "isinstance") rfl)
  max := He.free_ok X G (c.t.d.fact 5 (f := .free "max") rfl)
  range := He.free_ok X G (c.t.d.fact 6 (f := .free "range") rfl)
  zip := He.free_ok X G (c.t.d.fact 7 (f := .free "zip") rfl)
  enumerate := He.free_ok X G (c.t.d.fact 8 (f := .free "enumerate") rfl)
  tuple := He.free_ok X G (c.t.d.fact 9 (f := .free "tuple") rfl)
  list := He.free_ok X G (c.t.d.fact 10 (f := .free "list") rfl)
  int := He.free_ok X G (c.t.d.fact 11 (f := .free "int") rfl)
  bool := He.free_ok X G (c.t.d.fact 12 (f := .free "bool") rfl)
  str := He.free_ok X G (c.t.d.fact 13 (f := .free "str") rfl)
  MOST_BASES := He.int_ok X G (c.t.d.fact 14 (f := .int "MOST_BASES" 3) rfl)
  MOST_ROWS := He.int_ok X G (c.t.d.fact 15 (f := .int "MOST_ROWS" 10) rfl)
  MOST_TOP := He.int_ok X G (c.t.d.fact 16 (f := .int "MOST_TOP" 6) rfl)
  MOST_BOTTOM := He.int_ok X G (c.t.d.fact 17 (f := .int "MOST_BOTTOM" 4) rfl)
  MOST_GRIDS := He.int_ok X G (c.t.d.fact 18 (f := .int "MOST_GRIDS" 6) rfl)
  MOST_STEPS := He.int_ok X G (c.t.d.fact 19 (f := .int "MOST_STEPS" 16) rfl)
  MOST_SIDE := He.int_ok X G (c.t.d.fact 20 (f := .int "MOST_SIDE" 12) rfl)
  ENDLESS := He.str_ok X G (c.t.d.fact 21 (f := .str "ENDLESS" "endless") rfl)
  NOUGHT := He.glo_ok X G (c.t.d.fact 22 (f := .glo "NOUGHT") rfl)
  nought := fun H => He.tupB_ok (ex_ok c).1 H
  Grid := He.glo_ok X G (c.t.d.fact 23 (f := .glo "Grid") rfl)
  gridC := He.cls_ok (c.t.d.fact 27 (f := .cls "Grid") rfl)
  scrC := He.cls_ok (c.t.d.fact 28 (f := .cls "Script") rfl)
  gB := He.noat_ok (c.t.d.fact 29 (f := .noat "Grid" "bases") rfl)
  gR := He.noat_ok (c.t.d.fact 30 (f := .noat "Grid" "rows") rfl)
  sG := He.noat_ok (c.t.d.fact 31 (f := .noat "Script" "grids") rfl)
  sS := He.noat_ok (c.t.d.fact 32 (f := .noat "Script" "steps") rfl)
  sK := He.noat_ok (c.t.d.fact 33 (f := .noat "Script" "kept_shapes") rfl)
  sF := He.noat_ok (c.t.d.fact 34 (f := .noat "Script" "kept_flags") rfl)
theorem kd (c : He.SaysX fa fn ts [] ex w h K) (i : Nat) {t : He.Tab} (ht : ts[i]? = some t) {kvs : List (Str × He.Dv)} (hv : He.valsB K (t.1 K) kvs = true) (j : Nat) {x : Str} {n : Nat} (hj : kvs[j]? = some (x, .int (n : Int))) : KDct K w (t.1 K) x (.int (n : Nat)) := by
  obtain ⟨es, m, D⟩ := c.t.tab i ht
  obtain ⟨u, h1, h2⟩ := He.valsB_ok hv (List.mem_of_getElem? hj)
  exact ⟨es, m, u, D.at_, D.lit, h1, h2⟩
theorem tw (X : K.In h) (G : h.Ns mainGlobals mg) (c : He.SaysX fa fn ts [] ex w h K) : Tw K w mg where
  FORMS := He.glo_ok X G (c.t.d.fact 25 (f := .glo "FORMS") rfl)
  PARTS := He.glo_ok X G (c.t.d.fact 26 (f := .glo "PARTS") rfl)
  fk := c.t.tab 0 rfl
  fd := fun s => match s with
    | .plus a b => kd c 0 rfl (ex_ok c).2.1 0 rfl
    | .times a b => kd c 0 rfl (ex_ok c).2.1 1 rfl
    | .turned a => kd c 0 rfl (ex_ok c).2.1 2 rfl
    | .beside a b => kd c 0 rfl (ex_ok c).2.1 3 rfl
    | .above a b => kd c 0 rfl (ex_ok c).2.1 4 rfl
    | .piece a i j r c' => kd c 0 rfl (ex_ok c).2.1 5 rfl
    | .star a => kd c 0 rfl (ex_ok c).2.1 6 rfl
  pd := fun s => match s with
    | .plus a b => kd c 1 rfl (ex_ok c).2.2.1 0 rfl
    | .times a b => kd c 1 rfl (ex_ok c).2.2.1 1 rfl
    | .turned a => kd c 1 rfl (ex_ok c).2.2.1 2 rfl
    | .beside a b => kd c 1 rfl (ex_ok c).2.2.1 3 rfl
    | .above a b => kd c 1 rfl (ex_ok c).2.2.1 4 rfl
    | .piece a i j r c' => kd c 1 rfl (ex_ok c).2.2.1 5 rfl
    | .star a => kd c 1 rfl (ex_ok c).2.2.1 6 rfl
  gT := fun H a dx fvs e => .base (.ins e (He.cls_ok (c.t.d.fact 27 (f := .cls "Grid") rfl)) (ex_ok c).2.2.2.1 (ex_ok c).2.2.2.2.1 (ex_ok c).2.2.2.2.2.1 (ex_ok c).2.2.2.2.2.2)
theorem atD (X : K.In h) (G : h.Ns mainGlobals mg) (c : He.SaysX fa fn ts [] ex w h K) (i j : Nat) {x : Str} {st : Stmt} (hf : fa[i]? = some (.glo x)) (hd : fn[j]? = some ⟨(x, none), x, x, defArgs st, defBody st, defScope st, [], []⟩) : At K mg x st := by
  obtain ⟨fd, F⟩ := c.t.d.def_ j hd
  exact ⟨_, fd, F, He.glo_ok X G (c.t.d.fact i hf)⟩
theorem atI (X : K.In h) (G : h.Ns mainGlobals mg) (c : He.SaysX fa fn ts [] ex w h K) (i i2 j : Nat) {x qual : Str} {st : Stmt} (hf : fa[i]? = some (.glo x)) (hm : fa[i2]? = some (.mkr x)) (hd : fn[j]? = some ⟨(x, some "__init__"), "__init__", qual, defArgs st, defBody st, defScope st, [], []⟩) : AtI K mg x qual st := by
  obtain ⟨fd, F⟩ := c.t.d.def_ j hd
  exact ⟨_, fd, F, He.mkr_ok (c.t.d.fact i2 hm), He.glo_ok X G (c.t.d.fact i hf)⟩
theorem facts {f : Addr} (X : K.In h) (G : h.Ns mainGlobals mg) (hfa : mg ("law" : Str) = some (.ref f)) (c : He.SaysX fa fn ts [] ex w h K) :
    ∃ fd : FuncData, (∀ (s : Shared) (v : Value), BindsTo s fd ⟨[v], []⟩ [("_law_script_here", v)]) ∧ ∀ base : Heap, K.In base → base.Ns mainGlobals mg → FnOk P w K mg base CX0 10 f fd ["_law_script_here"] (spLaw K) := by
  obtain ⟨fd, F⟩ := c.t.d.def_ 66 (d := dd_law) rfl
  have e := hfa.symm.trans (He.glo_ok X G (c.t.d.fact 103 (f := .glo "law") rfl))
  cases e
  have b := FunD.bindsA (ps := ["_law_script_here"]) F fun _ _ _ _ _ _ us hl => match us, hl with | [_], _ => rfl
  refine ⟨fd, fun s v => b s [v] rfl, fun base _ _ => ?_⟩
  have T := tx X G c
  have W := tw X G c
  have D_l_start := d_l_start (P := P) (w := w) (base := base) T (atD X G c 37 0 rfl rfl) 
  have D_l_pick := d_l_pick (P := P) (w := w) (base := base) T (atD X G c 38 1 rfl rfl) 
  have D_l_words := d_l_words (P := P) (w := w) (base := base) T (atD X G c 39 2 rfl rfl) D_l_pick
  have D_l_vector := d_l_vector (P := P) (w := w) (base := base) T (atD X G c 40 3 rfl rfl) D_l_pick
  have D_l_cell := d_l_cell (P := P) (w := w) (base := base) T (atD X G c 41 4 rfl rfl) D_l_pick D_l_vector
  have D_l_row := d_l_row (P := P) (w := w) (base := base) T (atD X G c 42 5 rfl rfl) D_l_cell
  have D_l_square := d_l_square (P := P) (w := w) (base := base) T (atD X G c 43 6 rfl rfl) D_l_vector D_l_row
  have D_l_shape := d_l_shape (P := P) (w := w) (base := base) T (atD X G c 44 7 rfl rfl) 
  have D_l_step := d_l_step (P := P) (w := w) (base := base) T (atD X G c 45 8 rfl rfl) D_l_pick D_l_shape
  have D_l_starred := d_l_starred (P := P) (w := w) (base := base) T (atD X G c 46 9 rfl rfl) D_l_words D_l_pick D_l_square D_l_step D_l_shape
  have D_shape_made := d_shape_made (P := P) (w := w) (base := base) T (atD X G c 47 10 rfl rfl) 
  have D_is_integer := d_is_integer (P := P) (w := w) (base := base) T (atD X G c 48 11 rfl rfl) 
  have D_is_number := d_is_number (P := P) (w := w) (base := base) T (atD X G c 49 12 rfl rfl) D_is_integer
  have D_is_step := d_is_step (P := P) (w := w) (base := base) T (atD X G c 50 13 rfl rfl) W D_is_number
  have D_parts_of := d_parts_of (P := P) (w := w) (base := base) T (atD X G c 51 14 rfl rfl) W
  have D_shape_of_step := d_shape_of_step (P := P) (w := w) (base := base) T (atD X G c 52 15 rfl rfl) D_shape_made D_is_step D_parts_of
  have D_shapes_of := d_shapes_of (P := P) (w := w) (base := base) T (atD X G c 53 16 rfl rfl) D_shape_of_step
  have D_are_grids := d_are_grids (P := P) (w := w) (base := base) T (atD X G c 54 17 rfl rfl) W
  have D_reached_by := d_reached_by (P := P) (w := w) (base := base) T (atD X G c 55 18 rfl rfl) 
  have D_source_of := d_source_of (P := P) (w := w) (base := base) T (atD X G c 56 19 rfl rfl) 
  have D_flags_made := d_flags_made (P := P) (w := w) (base := base) T (atD X G c 57 20 rfl rfl) D_reached_by D_source_of
  have D_Script := d_Script_init (P := P) (base := base) T (atI X G c 24 36 67 rfl rfl rfl) D_shapes_of D_are_grids D_flags_made
  have D_is_part := d_is_part (P := P) (w := w) (base := base) T (atD X G c 58 21 rfl rfl) 
  have D_divisor := d_divisor (P := P) (w := w) (base := base) T (atD X G c 59 22 rfl rfl) 
  have D_is_fraction := d_is_fraction (P := P) (w := w) (base := base) T (atD X G c 60 23 rfl rfl) D_is_integer D_divisor
  have D_is_unit_of := d_is_unit_of (P := P) (w := w) (base := base) T (atD X G c 61 24 rfl rfl) D_is_fraction
  have D_is_cell := d_is_cell (P := P) (w := w) (base := base) T (atD X G c 62 25 rfl rfl) D_is_unit_of
  have D_check_rows := d_check_rows (P := P) (w := w) (base := base) T (atD X G c 63 26 rfl rfl) D_is_part D_is_cell
  have D_is_within := d_is_within (P := P) (w := w) (base := base) T (atD X G c 64 27 rfl rfl) D_is_integer
  have D_Grid := d_Grid_init (P := P) (base := base) T (atI X G c 23 35 68 rfl rfl rfl) D_check_rows D_is_within D_is_part
  have D_l_lowest := d_l_lowest (P := P) (w := w) (base := base) T (atD X G c 65 28 rfl rfl) 
  have D_l_unit := d_l_unit (P := P) (w := w) (base := base) T (atD X G c 66 29 rfl rfl) D_l_lowest
  have D_l_grid := d_l_grid (P := P) (w := w) (base := base) T (atD X G c 67 30 rfl rfl) D_Grid D_l_unit
  have D_l_script := d_l_script (P := P) (w := w) (base := base) T (atD X G c 68 31 rfl rfl) D_Script D_l_grid
  have D_are_rows := d_are_rows (P := P) (w := w) (base := base) T (atD X G c 69 32 rfl rfl) 
  have D_fits := d_fits (P := P) (w := w) (base := base) T (atD X G c 70 33 rfl rfl) D_is_fraction
  have D_are_numbers := d_are_numbers (P := P) (w := w) (base := base) T (atD X G c 71 34 rfl rfl) D_are_rows D_fits
  have D_are_values := d_are_values (P := P) (w := w) (base := base) T (atD X G c 72 35 rfl rfl) D_are_numbers
  have D_check_values := d_check_values (P := P) (w := w) (base := base) T (atD X G c 73 36 rfl rfl) D_are_values
  have D_check_at := d_check_at (P := P) (w := w) (base := base) T (atD X G c 74 37 rfl rfl) D_is_within
  have D_lowest := d_lowest (P := P) (w := w) (base := base) T (atD X G c 75 38 rfl rfl) D_divisor
  have D_over := d_over (P := P) (w := w) (base := base) T (atD X G c 76 39 rfl rfl) D_lowest
  have D_rounds_of := d_rounds_of (P := P) (w := w) (base := base) T (atD X G c 77 40 rfl rfl) D_over D_lowest
  have D_times := d_times (P := P) (w := w) (base := base) T (atD X G c 78 41 rfl rfl) D_lowest
  have D_product_of := d_product_of (P := P) (w := w) (base := base) T (atD X G c 79 42 rfl rfl) D_times
  have D_plus := d_plus (P := P) (w := w) (base := base) T (atD X G c 80 43 rfl rfl) D_lowest
  have D_sum_of := d_sum_of (P := P) (w := w) (base := base) T (atD X G c 81 44 rfl rfl) D_plus
  have D_star_of := d_star_of (P := P) (w := w) (base := base) T (atD X G c 82 45 rfl rfl) D_rounds_of D_product_of D_sum_of
  have D_cell_of_product := d_cell_of_product (P := P) (w := w) (base := base) T (atD X G c 83 46 rfl rfl) D_sum_of D_product_of
  have D_rows_made := d_rows_made (P := P) (w := w) (base := base) T (atD X G c 84 47 rfl rfl) D_star_of D_sum_of D_source_of D_cell_of_product
  have D_raw_outcomes := d_raw_outcomes (P := P) (w := w) (base := base) T (atD X G c 85 48 rfl rfl) D_rows_made
  have D_outcome := d_outcome (P := P) (w := w) (base := base) T (atD X G c 86 49 rfl rfl) D_check_values D_check_at D_raw_outcomes
  have D_l_values := d_l_values (P := P) (w := w) (base := base) T (atD X G c 87 50 rfl rfl) D_l_lowest D_l_pick
  have D_l_is_fraction := d_l_is_fraction (P := P) (w := w) (base := base) T (atD X G c 88 51 rfl rfl) 
  have D_l_are_outcomes := d_l_are_outcomes (P := P) (w := w) (base := base) T (atD X G c 89 52 rfl rfl) D_l_is_fraction D_l_lowest
  have D_l_reached := d_l_reached (P := P) (w := w) (base := base) T (atD X G c 90 53 rfl rfl) 
  have D_l_signed := d_l_signed (P := P) (w := w) (base := base) T (atD X G c 91 54 rfl rfl) D_l_lowest
  have D_l_plus := d_l_plus (P := P) (w := w) (base := base) T (atD X G c 92 55 rfl rfl) D_l_lowest
  have D_l_less := d_l_less (P := P) (w := w) (base := base) T (atD X G c 93 56 rfl rfl) D_l_plus
  have D_l_times := d_l_times (P := P) (w := w) (base := base) T (atD X G c 94 57 rfl rfl) D_l_lowest
  have D_l_shrinks := d_l_shrinks (P := P) (w := w) (base := base) T (atD X G c 95 58 rfl rfl) D_l_signed D_l_less D_l_times
  have D_l_heavy := d_l_heavy (P := P) (w := w) (base := base) T (atD X G c 96 59 rfl rfl) D_l_shrinks
  have D_l_is_endless := d_l_is_endless (P := P) (w := w) (base := base) T (atD X G c 97 60 rfl rfl) 
  have D_l_sum := d_l_sum (P := P) (w := w) (base := base) T (atD X G c 98 61 rfl rfl) D_l_plus
  have D_l_product := d_l_product (P := P) (w := w) (base := base) T (atD X G c 99 62 rfl rfl) D_l_times
  have D_l_is_star := d_l_is_star (P := P) (w := w) (base := base) T (atD X G c 100 63 rfl rfl) D_l_reached D_l_heavy D_l_is_endless D_l_sum D_l_product
  have D_l_source := d_l_source (P := P) (w := w) (base := base) T (atD X G c 101 64 rfl rfl) 
  have D_l_cell_of := d_l_cell_of (P := P) (w := w) (base := base) T (atD X G c 102 65 rfl rfl) D_l_source D_l_sum D_l_product
  exact ok_law law_all T F D_l_start D_l_starred D_l_script D_l_pick D_outcome D_l_values D_l_are_outcomes D_l_is_star D_l_cell_of
end
end UH
open PySem PySem.W PySem.Calls PyProof.Rows
set_option maxHeartbeats 0
theorem PySem.Challenge.cw_unitgrids_k22_whole_stars_and_what_is_en_holds : PySem.Challenge.rw_unitgrids_k22_whole_stars_and_what_is_en.Holds := by
  w_on; o_law
  refine HandSHeadRun.head_any (r := UH.R) (q := view UH.R.prog [92]) (H := UH.hk) (ob := UH.ob) (M := 6000) (loose := UH.loose) (d := HandSHeadRun.topDef UH.R.prog 92) (kwd := []) UH.ob_eq
    (by kernel_rfl) (fun s => by kernel_rfl) UH.run (by kernel_rfl) (by kernel_rfl) (by kernel_rfl) (by rfl) (by first | assumption | decide +kernel) (by decide +kernel) ⟨rfl, rfl, rfl, rfl, rfl, by decide +kernel⟩ ?hw ?hc
  case hw => w_witness2
  case hc =>
    refine L2.walk_ofE (l := PySem.Challenge.rw_unitgrids_k22_whole_stars_and_what_is_en) (n := 63) (k := 10) (x := "_law_script_here") (CX := L2.CX0) rfl (by decide) (by kernel_rfl) ⟨rfl, by decide, by decide⟩ ?F (fun _ _ _ _ z => z)
    intro w mg fa h Y G hmg0
    obtain ⟨K, KX, c⟩ := Y
    have hmg : mg ("law" : PySem.Str) = some (.ref fa) := by
      have e : (HandSHeadRun.topDef UH.R.prog 92).name = ("law" : PySem.Str) := by kernel_rfl
      rw [← e]
      exact hmg0
    obtain ⟨fd, hb, hF⟩ := UH.facts (P := (PySem.Challenge.rw_unitgrids_k22_whole_stars_and_what_is_en).prog) (w := w) KX G hmg c
    exact ⟨K, fd, U.spLaw K, KX, hb, fun H a ns hl _ hS => ⟨a, ns, rfl, hS, fun _ => rfl⟩, hF⟩
